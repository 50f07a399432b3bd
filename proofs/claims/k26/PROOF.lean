import PyProof.Rows.All
import PyProof.DictRoadsH
import KE.KeyNested
import HandS.Dict
import Wide.All
import OpenK.AllK
import Wide.FinOn
import HandS.ForMost
import HandS.Exc
import HandS.ExcOwn
import HandS.ExcCtx
import HandS.Hot
import HandS.HotCalls
import HandS.SuiteRaise
import HandS.RaiseFrom
import HandS.WordsExc
import HandS.CallSlots
import HandS.Defaults
import HandS.Star
import HandS.ClsMeth
import HandS.Property
import HandS.IsInst
import HandS.StrMore
import HandS.Flow
import HandS.Style
import HandS.Evl
import HandS.HeadNt
import HandS.Iter
import KE.KDictCopyH
import HandS.Walk
import HandS.TupAny
import KE.KCallOwn
import KE.DatumOrd
import HandS.RaiseMore
import HandS.SortKw
import HandS.Head0
import HandS.Head1
import HandS.Head2
import HandS.HeadEnd
import HandS.Codes
import HandS.FStr
import HandS.ExcInit
import HandS.ExcField
import HandS.ExcIs
import HandS.TryOnly
import PyProof.ReprRoads
import KE.KExcIs
import KE.KOpsOwn
import KE.GoesEnum
import PyProof.EqKinds
import HandS.Zip
import KE.KDictList
import PyProof.StrWalks
import KE.KExcInit
import HandS.TupMul
import KE.GoesRaise
import HandS.DictComp
import HandS.Conv
import KE.KAsSuite
import HandS.ExcInitHot
import KE.KExcRaise
import PyProof.ZipIter
import PyProof.Draws
import KE.GoesZip
import KE.GoesMore
import HandS.Replace
import KE.SortData
import HandS.Deep
import PyProof.AutoSeq1
import PyProof.TupleOps
import PyProof.Rows.CountFlat
import KE.KStateDown
import PySem.Challenge.RW_indentholes_k26_sums_and_blocks
import Lean
import HandS.FStrTup
open Bool renaming false_ne_true→y4,and_eq_true→yab,false_eq_true→ykb,eq_false_iff→y2c,not_eq_true'→ypd
open Evl renaming ex_t→ybd,ex_l→yud
open Evl.Ex renaming new→ylb
open False renaming elim→y7
open HandSHeadRun renaming getT→yic,looksF→yzd
open He renaming eqO_ok→yxc
open Int renaming toNat_natCast→ysb,emod_nonneg→yjd,emod_lt_of_pos→ykd
open L2 renaming Binds→ywd
open L2N renaming takes_of→yi,Takes→yk,passAt→yxd
open List renaming mem_cons_self→yb,getElem?_eq_some_iff→yc,mem_cons_of_mem→yd,length_map→ye,getElem?_append_right→yf,length_append→yg,mem_singleton→yj,getElem?_append_left→yl,replicate→yn,mem_cons→yo,getElem?_set_ne→yq,map_cons→yr,getElem?_eq_getElem→yt,getElem?_set_self→yu,length_cons→yw,mem_append→yz,map_map→y6,prefix_refl→ycb,filterMap_cons_none→ydb,length_set→yeb,mem_map→yfb,append_nil→ygb,getElem?_map→yjb,filter_cons_of_neg→ymb,map_append→yob,mem_append_left→ypb,dropWhile_sublist→yqb,take_of_length_le→ytb,filterMap_cons_some→yub,flatMap_cons→yvb,mem_of_getElem? → ywb,all_eq_true→yxb,length_nil→yzb,length_replicate→y0b,getElem?_take_of_lt→y1b,append_assoc→y3b,replicate_succ→y5b,dropWhile_cons→y6b,not_mem_nil→y9b,mem_append_right→ybc,getElem?_eq_none→ycc,length_singleton→yec,sum_cons→yfc,mem_replicate→ygc,drop_eq_getElem_cons→yhc,nodup_append→yjc,nil_append→ymc,filter_cons_of_pos→ypc,flatMap_append→yqc,nodup_nil→ysc,nodup_cons→ywc,flatten_cons→y1c,dropWhile_cons_of_neg→y3c,reverse_reverse→y5c,length_take→y6c,lookup_cons→y7c,length_pos_iff→y9c,reverse_append→yad,length_drop→ytd
open Nat renaming le_refl→yp,le_trans→yy,sub_self→yib,zero_le→y7b,le_of_not_lt→yac,lt_of_lt_of_le→yvc,lt_succ_self→ysd,ne_of_lt→y0d
open Option renaming map_eq_some_iff→y8b
open Option.some renaming inj→ynb
open Prod.mk renaming inj→y2d
open PyProof.Rows renaming stripBy_eq→yed
open PySem renaming dunder→y5,leafKind→yqd
open PySem.F renaming plainAttrs_str→yx,plainAttrs_list→ync,slot_str_join→yyc,type_str_join→yzc,slot_str_rstrip→yfd,type_str_rstrip→ygd,slot_str_lstrip→yhd,type_str_lstrip→yid,slot_str_split→yld,type_str_split→ymd,slot_str_strip→ynd,type_str_strip→yod
open PySem.HandSPX renaming excO→ycd
open PySem.W renaming findIn→yh,keepIn→ym,isFn→yhb,subIn→yrb,selfFirst→yyb,ksp_first→y2b,findCls→y4b,methodCall_KW→ydc,CmpBack→ykc,fills_K→ylc,looks_subIn→yoc,kitAny→yrc,typeIn→ytc,callWith_K→yuc,specialIn→y0c,looks_findIn→y4c,ksp_inPy→y8c,ksp_try→ydd,notFirst→yrd,noSeq→yvd,takesIn→yyd,fnOf→y1d
open TL renaming joinL→ybb
set_option Elab.async false
set_option linter.all false
set_option maxRecDepth 100000
set_option maxHeartbeats 4000000
namespace DL
open PySem PySem.Spec
abbrev MKey:=Option (List Int)
def mkV:MKey→Addr→Value
 |none,_=>.none
 |some _,b=>.ref b
def z9kb:MKey→Int
 |none=>reduceHash 0xFCA86420
 |some is=>reduceHash (Builtin.Tuple.tupleHashOf (is.map hashInt))
abbrev MRow:=MKey × Addr × Value
def mEnt (x:MRow):DictEntry:=⟨z9kb x.1,mkV x.1 x.2.1,x.2.2⟩
def TabM (h:Heap) (d:Addr) (xs:List MRow):Prop:=∃o es ep,h.get? d=some o∧o.ExactDict∧o.data = .dict es ep∧es.toList=xs.map mEnt∧(xs.map (·.1)).Nodup
section
open L2
abbrev MVRow:=MKey × Addr × V
abbrev PairM:List MVRow→List MRow→Prop:=Paired fun (p:MVRow) (q:MRow)=>p.1=q.1∧p.2.1=q.2.1∧RelV p.2.2 q.2.2
/-- what is true of such a dict's object -/
def dmP (a:Addr) (xs:List MVRow):Heap→Prop:=fun h=>xs.length≤sizeLine∧(a==sysModules)=false∧∃ys:List MRow,PairM xs ys∧TabM h a ys
/-- the tuples that are keys -/
def MOk (H:Hp) (xs:List MVRow):Prop:=∀x∈xs,∀is,x.1=some is→H x.2.1=some (.tup (is.map V.int))
/-- y is the key k; a tuple stands at b -/
def z8db (H:Hp) (k:MKey) (b:Addr) (y:V):Prop:=match k with
 |none=>y = .non
 |some is=>y = .ref b∧H b=some (.tup (is.map V.int))
end
end DL
namespace DL
open PySem PySem.Spec L2
open Evl (Ex)
abbrev Fg:=PySem.W.Frag
/-- data that does not change -/
inductive D where
 |non |bl (b:Bool) |int (i:Int) |str (x:Str)
 |lst (ds:List D) |tup (ds:List D) |fz (ds:List D)
 |obj (C:Str) (ns:List Str) (ds:List D)
 |dic (ks:List Key) (ds:List D)
 |cls (C:Str)
 /-- a tuple of keys (numbers, texts), made by the run -/
 |tk (ks:List Key)
 /-- anything: nothing is said of it -/
 |opq
/-- what a name holds: data, or the k-th cell -/
inductive W where
 |d (x:D) |c (k:Nat)
 |ex (a dd:Addr) (C f:Str) (p:D)
 /-- the i-th thing of the heap (things that hold one another and stay) -/
 |h (i:Nat)
/-- what a thing of the heap holds -/
inductive HW where
 |d (x:D) |h (i:Nat)
def HW.toD:HW→D
 |.d x=>x
 |.h _=>.opq
def HW.toW:HW→W
 |.d x=>.d x
 |.h i=>.h i
inductive HC where
 |lst (ws:List HW)
 |obj (C:Str) (ns:List Str) (ws:List HW)
 |dic (ks:List Key) (ws:List HW)
 |tup (ws:List HW)
def HC.toD:HC→D
 |.lst ws=>.lst (ws.map HW.toD)
 |.obj C ns ws=>.obj C ns (ws.map HW.toD)
 |.dic ks ws=>.dic ks (ws.map HW.toD)
 |.tup _=>.opq
inductive Cell where
 |lst (ds:List D)
 |obj (C:Str) (ns:List Str) (ds:List D)
 |zd (x:D)
 |dic (ks:List Key) (ds:List D)
 /-- a dict whose keys are numbers and None; one whose keys are None and tuples of numbers -/
 |dn (ks:List (Option Int)) (ds:List D)
 |dt (ks:List MKey) (ds:List D)
 |hp (hs:List HC)
abbrev Mem:=List Cell
def Cell.toD:Cell→D
 |.lst ds=>.lst ds
 |.obj C ns ds=>.obj C ns ds
 |.zd x=>x
 |.dic ks ds=>.dic ks ds
 |.dn _ _=>.opq
 |.dt _ _=>.opq
 |.hp _=>.opq
/-- what a cell is as data that stays -/
def Cell.fz:Cell→D
 |.dic _ _=>.opq
 |c=>c.toD
/-- may still change -/
def Cell.live:Cell→Bool
 |.zd _=>false
 |.hp _=>false
 |_=>true
/-- the heap stands in the first cell -/
def heapOf:Mem→List HC
 |.hp hs::_=>hs
 |_=>[]
def W.rd:W→Mem→Option D
 |.d x,_=>some x
 |.c k,m=>(m[k]?).map Cell.toD
 |.ex _ _ _ _ _,_=>none
 |.h i,m=>((heapOf m)[i]?).map HC.toD
mutual
inductive Rp (K:Fg) (H:Hp):V→D→Prop
 |non:Rp K H .non .non
 |bl (b:Bool):Rp K H (.bl b) (.bl b)
 |int (i:Int):Rp K H (.int i) (.int i)
 |str (x:Str):Rp K H (.str x) (.str x)
 |lst {a:Addr} {vs:List V} {ds:List D}:H a=some (.lst vs)→RpL K H vs ds→Rp K H (.ref a) (.lst ds)
 |fz {a:Addr} {vs:List V} {ds:List D}:SqL K H a vs→RpL K H vs ds→Rp K H (.ref a) (.fz ds)
 |tup {a:Addr} {vs:List V} {ds:List D}:SqT K H a vs→RpL K H vs ds→Rp K H (.ref a) (.tup ds)
 |obj {a dx:Addr} {fs:List (Str × V)} {C:Str} {ns:List Str} {ds:List D}:H a=some (.ins (He.ga K C) dx fs)→fs.map (·.1)=ns→RpL K H (fs.map (·.2)) ds→Rp K H (.ref a) (.obj C ns ds)
 |dic {a:Addr} {o:Obj} {kvs:List (Key × V)} {ks:List Key} {ds:List D}:H a=some (.frz o (.dK kvs))→kvs.map (·.1)=ks→RpL K H (kvs.map (·.2)) ds→Rp K H (.ref a) (.dic ks ds)
 |cls {C:Str}:Rp K H (.ref (He.ga K C)) (.cls C)
 |tk {a:Addr} {ks:List Key}:H a=some (.tup (ks.map kV))→Rp K H (.ref a) (.tk ks)
 |opq {v:V}:Rp K H v .opq
inductive RpL (K:Fg) (H:Hp):List V→List D→Prop
 |nil:RpL K H [] []
 |cons {v:V} {vs:List V} {d:D} {ds:List D}:Rp K H v d→RpL K H vs ds→RpL K H (v::vs) (d::ds)
end
mutual
theorem Rp.mono {K:Fg} {H H':Hp} (e:Ex H H'):∀{v:V} {d:D},Rp K H v d→Rp K H' v d
 |_,_,.non=>.non
 |_,_,.bl b=>.bl b
 |_,_,.int i=>.int i
 |_,_,.str x=>.str x
 |_,_,.lst h r=>.lst (e _ _ h) (RpL.mono e r)
 |_,_,.fz h r=>.fz (yud e h) (RpL.mono e r)
 |_,_,.tup h r=>.tup (ybd e h) (RpL.mono e r)
 |_,_,.obj h n r=>.obj (e _ _ h) n (RpL.mono e r)
 |_,_,.dic h n r=>.dic (e _ _ h) n (RpL.mono e r)
 |_,_,.cls=>.cls
 |_,_,.tk h=>.tk (e _ _ h)
 |_,_,.opq=>.opq
theorem RpL.mono {K:Fg} {H H':Hp} (e:Ex H H'):∀{v:List V} {d:List D},RpL K H v d→RpL K H' v d
 |_,_,.nil=>.nil
 |_,_,.cons h r=>.cons (Rp.mono e h) (RpL.mono e r)
end
section
variable {K:Fg} {H H':Hp}
theorem RpL.length:∀{vs:List V} {ds:List D},RpL K H vs ds→vs.length=ds.length
 |_,_,.nil=>rfl
 |_,_,.cons _ r=>congrArg Nat.succ r.length
theorem RpL.get:∀{vs:List V} {ds:List D} {i:Nat} {d:D},RpL K H vs ds→ds[i]?=some d→∃v,vs[i]?=some v∧Rp K H v d
 |_,_,_,_,.nil,e=>by simp at e
 |_,_,0,_,.cons r _,e=>by simp at e;subst e;exact⟨_,rfl,r⟩
 |_,_,i+1,d,.cons _ t,e=>by
  obtain⟨u,h1,h2⟩:=RpL.get (i:=i) (d:=d) t (by simpa using e)
  exact⟨u,by simpa using h1,h2⟩
theorem RpL.append:∀{xs ys:List V} {us ws:List D},RpL K H xs us→RpL K H ys ws→RpL K H (xs++ys) (us++ws)
 |_,_,_,_,.nil,s=>s
 |_,_,_,_,.cons r t,s=>.cons r (RpL.append t s)
theorem RpL.take:∀{xs:List V} {us:List D} (n:Nat),RpL K H xs us→RpL K H (xs.take n) (us.take n)
 |_,_,0,_=>by simp;exact .nil
 |_,_,_+1,.nil=>by simp;exact .nil
 |_,_,n+1,.cons r t=>by simp;exact .cons r (RpL.take n t)
theorem RpL.drop:∀{xs:List V} {us:List D} (n:Nat),RpL K H xs us→RpL K H (xs.drop n) (us.drop n)
 |_,_,0,r=>by simpa using r
 |_,_,_+1,.nil=>by simp;exact .nil
 |_,_,n+1,.cons _ t=>by simp;exact RpL.drop n t
theorem RpL.set {x:V} {u:D} (r:Rp K H x u):∀{xs:List V} {us:List D} (i:Nat),RpL K H xs us→RpL K H (xs.set i x) (us.set i u)
 |_,_,_,.nil=>.nil
 |_,_,0,.cons _ t=>.cons r t
 |_,_,i+1,.cons q t=>.cons q (RpL.set r i t)
theorem RpL.strs:∀(xs:List Str),RpL K H (xs.map V.str) (xs.map D.str)
 |[]=>.nil
 |x::xs=>.cons (.str x) (RpL.strs xs)
theorem RpL.ints:∀(xs:List Int),RpL K H (xs.map V.int) (xs.map D.int)
 |[]=>.nil
 |x::xs=>.cons (.int x) (RpL.ints xs)
end
def oLeaf:Option Int→PySem.Leaf
 |none=>.none
 |some i=>.num i
theorem zl4:∀{a b:Option Int},oLeaf a=oLeaf b→a=b
 |none,none,_=>rfl
 |some _,some _,e=>by injection e with e;rw[e]
 |none,some _,e=>nomatch e
 |some _,none,e=>nomatch e
def optKind (prog:Program) (w:World):KeyKind prog w (Option Int) where
 is:=fun k v=>PySem.Leaf.isOf (oLeaf k) v
 hash:=fun k=>(match k with
  |none=>reduceHash 0xFCA86420
  |some i=>hashInt i)
 inj:=fun v a b ha hb=>zl4 ((yqd prog w).inj v _ _ ha hb)
 byValue:=fun k v h=>(yqd prog w).byValue _ v h
 pyHash:=fun {A E s k v Q} hv h=>(yqd prog w).pyHash hv (by
  cases k with
  |none=>exact h
  |some i=>exact h)
 eqBool:=fun {A E s a b u v Q} hu hv h=>(yqd prog w).eqBool hu hv (by
  have e:decide (oLeaf a=oLeaf b)=decide (a=b):=by
   by_cases z:a=b
   ·rw[decide_eq_true z,decide_eq_true (congrArg oLeaf z)]
   ·rw[decide_eq_false z,decide_eq_false fun q=>z (zl4 q)]
  rw[e]
  exact h)
 «strs» := fun k x t v h=>(yqd prog w).strs (oLeaf k) x t v h
/-- what is true of such a dict's object -/
def dnP (a:Addr) (kvs:List (Option Int × V)):Heap→Prop:=fun h=>kvs.length≤sizeLine∧(a==sysModules)=false∧∃vs,KV kvs vs∧∃(P:Program) (w:World),h.DictOf (optKind P w) a vs
def CellAt (K:Fg) (H1 H:Hp) (a:Addr):Cell→Prop
 |.lst ds=>∃vs,H a=some (.lst vs)∧RpL K H1 vs ds
 |.obj C ns ds=>∃dx fs,H a=some (.ins (He.ga K C) dx fs)∧fs.map (·.1)=ns∧RpL K H1 (fs.map (·.2)) ds
 |.zd x=>(∃o,H a=some o)∧Rp K H1 (.ref a) x
 |.dic ks ds=>∃kvs,H a=some (.dK kvs)∧kvs.map (·.1)=ks∧RpL K H1 (kvs.map (·.2)) ds
 |.dn ks ds=>∃kvs:List (Option Int × V),H a=some (.ext (dnP a kvs))∧kvs.map (·.1)=ks∧RpL K H1 (kvs.map (·.2)) ds
 |.dt ks ds=>∃xs:List MVRow,H a=some (.ext (dmP a xs))∧xs.map (·.1)=ks∧MOk H1 xs∧RpL K H1 (xs.map (·.2.2)) ds
 |.hp _=>True
/-- the addresses of the cells; lists under construction that no cell holds -/
structure Gh0 where
 al:List Addr
 pn:List (Addr × HO)
structure Rel0 (K:Fg) (H1 H:Hp) (al:Gh0) (m:Mem):Prop where
 ex:Ex H1 H
 len:al.al.length=m.length
 nd:al.al.tail.Nodup
 fr:∀(k:Nat) (a:Addr) (c:Cell),al.al[k]?=some a→m[k]?=some c→c.live=true→H1 a=none
 cells:∀(k:Nat) (a:Addr) (c:Cell),al.al[k]?=some a→m[k]?=some c→CellAt K H1 H a c
 pin:∀q∈al.pn,H q.1=some q.2∧H1 q.1=none∧q.1 ∉ al.al.tail
 hp0:∃hs rest,m = .hp hs::rest
 only:∀(k:Nat) (hs:List HC),m[k]?=some (.hp hs)→k=0
 pnd:(al.pn.map (·.1)).Nodup
/-- the addresses of the cells, those of the heap's things; lists under construction that no cell holds -/
structure AA where
 fl:List Addr
 ha:List Addr
structure AA.le (g g':AA):Prop where
 pre:g.fl <+: g'.fl
 hpre:g.ha <+: g'.ha
theorem AA.refl (g:AA):AA.le g g:=⟨ycb _,ycb _⟩
theorem AA.le.trans {a b c:AA} (h:AA.le a b) (k:AA.le b c):AA.le a c:=⟨h.pre.trans k.pre,h.hpre.trans k.hpre⟩
structure Gh where
 al:AA
 pn:List (Addr × HO)
structure Le (g g':Gh):Prop where
 pre:AA.le g.al g'.al
 pn:g'.pn=g.pn
theorem Le.trans {a b c:Gh} (h:Le a b) (k:Le b c):Le a c:=⟨h.pre.trans k.pre,k.pn.trans h.pn⟩
def RpH (K:Fg) (H1:Hp) (ha:List Addr) (v:V):HW→Prop
 |.d x=>Rp K H1 v x
 |.h i=>∃a,ha[i]?=some a∧v = .ref a
inductive RpHs (K:Fg) (H1:Hp) (ha:List Addr):List V→List HW→Prop
 |nil:RpHs K H1 ha [] []
 |cons {v:V} {vs:List V} {w:HW} {ws:List HW}:RpH K H1 ha v w→RpHs K H1 ha vs ws→RpHs K H1 ha (v::vs) (w::ws)
/-- a thing of the heap stands at its address -/
def HAt (K:Fg) (H1:Hp) (ha:List Addr) (H:Hp) (a:Addr):HC→Prop
 |.lst ws=>∃vs,H a=some (.lst vs)∧RpHs K H1 ha vs ws
 |.obj C ns ws=>∃dx fs,H a=some (.ins (He.ga K C) dx fs)∧fs.map (·.1)=ns∧RpHs K H1 ha (fs.map (·.2)) ws
 |.dic ks ws=>∃kvs,H a=some (.dK kvs)∧kvs.map (·.1)=ks∧RpHs K H1 ha (kvs.map (·.2)) ws
 |.tup ws=>∃vs,H a=some (.tup vs)∧RpHs K H1 ha vs ws
def Gh.g0 (g:Gh):Gh0:=⟨g.al.fl,g.pn⟩
structure Rel (K:Fg) (H1 H:Hp) (al:Gh) (m:Mem):Prop where
 b:Rel0 K H1 H al.g0 m
 hpin:∀q∈al.pn,q.1 ∉ al.al.ha
 hlen:al.al.ha.length=(heapOf m).length
 hnd:al.al.ha.Nodup
 hfr:∀a∈al.al.ha,H1 a=none∧a ∉ al.al.fl.tail
 hcells:∀(i:Nat) (a:Addr) (h:HC),al.al.ha[i]?=some a→(heapOf m)[i]?=some h→HAt K H1 al.al.ha H a h
def RpW (K:Fg) (H1:Hp) (al:Gh) (v:V):W→Prop
 |.d x=>Rp K H1 v x
 |.c k=>∃a,al.al.fl[k]?=some a∧v = .ref a
 |.ex a dd C f p=>v = .ref a∧∃u,H1 dd=some (.xd [(f,u)])∧Rp K H1 u p
 |.h i=>∃a,al.al.ha[i]?=some a∧v = .ref a
abbrev Env:=List (Option W)
structure RpE (K:Fg) (H1:Hp) (al:Gh) (σ : St) (dl:Env):Prop where
 len : σ.length=dl.length
 at_:∀(i:Nat) (w:W),dl[i]?=some (some w)→∃v,σ[i]?=some (some v)∧RpW K H1 al v w
inductive RpWs (K:Fg) (H1:Hp) (al:Gh):List V→List W→Prop
 |nil:RpWs K H1 al [] []
 |cons {v:V} {vs:List V} {w:W} {ws:List W}:RpW K H1 al v w→RpWs K H1 al vs ws→RpWs K H1 al (v::vs) (w::ws)
inductive Rh (K:Fg) (H1 H:Hp):V→D→Prop
 |p {v:V} {x:D}:Rp K H1 v x→Rh K H1 H v x
 |c {a:Addr} {c:Cell}:c.live=true→CellAt K H1 H a c→Rh K H1 H (.ref a) c.toD
section
variable {K:Fg} {H1 H1' H H':Hp} {al al':Gh} {m:Mem}
theorem z6o {l l':List Addr} (p:l <+: l') {k:Nat} {a:Addr} (h:l[k]?=some a):l'[k]?=some a:=by
 obtain⟨r,e⟩:=p
 rw[←e,yl (yc.mp h).1]
 exact h
theorem RpW.monoP (e:Ex H1 H1') (p:AA.le al.al al'.al) {v:V}:∀{w:W},RpW K H1 al v w→RpW K H1' al' v w
 |.d _,h=>Rp.mono e h
 |.c k,⟨a,h,q⟩=>⟨a,z6o p.pre h,q⟩
 |.ex _ _ _ _ _,⟨q,u,h1,h2⟩=>⟨q,u,e _ _ h1,h2.mono e⟩
 |.h k,⟨a,h,q⟩=>⟨a,z6o p.hpre h,q⟩
theorem RpW.mono (e:Ex H1 H1') (p:Le al al') {v:V}:∀{w:W},RpW K H1 al v w→RpW K H1' al' v w:=RpW.monoP e p.pre
theorem RpWs.mono (e:Ex H1 H1') (p:Le al al'):∀{vs:List V} {ws:List W},RpWs K H1 al vs ws→RpWs K H1' al' vs ws
 |_,_,.nil=>.nil
 |_,_,.cons h r=>.cons (h.mono e p) (r.mono e p)
theorem RpWs.length:∀{vs:List V} {ws:List W},RpWs K H1 al vs ws→vs.length=ws.length
 |_,_,.nil=>rfl
 |_,_,.cons _ r=>congrArg Nat.succ r.length
theorem RpE.mono (e:Ex H1 H1') (p:Le al al') {σ : St} {dl:Env} (h:RpE K H1 al σ dl):RpE K H1' al' σ dl:=
 ⟨h.len,fun i w q=>let ⟨v,a,b⟩:=h.at_ i w q;⟨v,a,b.mono e p⟩⟩
theorem RpE.set {σ : St} {dl:Env} (h:RpE K H1 al σ dl) (i:Nat) {v:V} {w:W} (r:RpW K H1 al v w):RpE K H1 al (σ.set i (some v)) (dl.set i (some w)):=by
 refine⟨by rw[yeb,yeb,h.len],fun j x q=>?_⟩
 by_cases hj:i=j
 ·subst hj
  have hl:i<dl.length:=by
   have:=(yc.mp q).1
   rwa [yeb] at this
  rw[yu hl] at q
  cases q
  exact⟨v,yu (by rw[h.len];exact hl),r⟩
 ·rw[yq hj] at q
  obtain⟨u,a,b⟩:=h.at_ j x q
  exact⟨u,by rw[yq hj];exact a,b⟩
theorem CellAt.mono (e:Ex H1 H1') {a:Addr} (k:∀o,H a=some o→H' a=some o):∀{c:Cell},CellAt K H1 H a c→CellAt K H1' H' a c
 |.lst _,⟨vs,h,r⟩=>⟨vs,k _ h,r.mono e⟩
 |.obj _ _ _,⟨dx,fs,h,n,r⟩=>⟨dx,fs,k _ h,n,r.mono e⟩
 |.zd _,⟨⟨o,h⟩,r⟩=>⟨⟨o,k _ h⟩,r.mono e⟩
 |.dic _ _,⟨kvs,h,n,r⟩=>⟨kvs,k _ h,n,r.mono e⟩
 |.dn _ _,⟨kvs,h,n,r⟩=>⟨kvs,k _ h,n,r.mono e⟩
 |.dt _ _,⟨xs,h,n,q,r⟩=>⟨xs,k _ h,n,fun x hx is ei=>e _ _ (q x hx is ei),r.mono e⟩
 |.hp _,h=>h
theorem zh8 {l:List Addr} (nd:l.tail.Nodup) {i j:Nat} {a:Addr} (hi:0<i) (hj:0<j) (h1:l[i]?=some a) (h2:l[j]?=some a):i=j:=by
 cases l with
 |nil=>simp at h1
 |cons x l=>
  cases i with
  |zero=>cases hi
  |succ i=>
   cases j with
   |zero=>cases hj
   |succ j=>
    have h1:l[i]?=some a:=h1
    have h2:l[j]?=some a:=h2
    rw[(List.getElem?_inj (yc.mp h1).1 nd).mp (h1.trans h2.symm)]
theorem zun {l:List Addr} {i:Nat} {a:Addr} (hi:0<i) (h:l[i]?=some a):a∈l.tail:=by
 cases l with
 |nil=>simp at h
 |cons x l=>
  cases i with
  |zero=>cases hi
  |succ i=>exact ywb (show l[i]?=some a from h)
theorem nohp {m:Mem} (h:∃hs rest,m = .hp hs::rest) {k:Nat} {c:Cell} (hc:m[k]?=some c) (hl:c.live=true):0<k:=by
 obtain⟨hs,rest,rfl⟩:=h
 cases k with
 |zero=>cases hc;cases hl
 |succ k=>exact Nat.succ_pos _
section
variable {al al':Gh0}
theorem Rel0.at_ (r:Rel0 K H1 H al m) {k:Nat} {a:Addr} (h:al.al[k]?=some a):∃c,m[k]?=some c∧CellAt K H1 H a c:=by
 have hl:k<m.length:=by
  rw[←r.len]
  exact (yc.mp h).1
 exact⟨m[k],yt hl,r.cells k a _ h (yt hl)⟩
theorem zrlb {m:Mem} (h:∃hs rest,m = .hp hs::rest) {k:Nat} (hk:0<k) (c:Cell):∃hs rest,m.set k c = .hp hs::rest:=by
 obtain⟨hs,rest,rfl⟩:=h
 cases k with
 |zero=>cases hk
 |succ n=>exact⟨hs,rest.set n c,rfl⟩
theorem zfeb {m:Mem} {c:Cell} {j:Nat} (o:∀(k:Nat) (hs:List HC),m[k]?=some (.hp hs)→k=0) (n:∀hs,c ≠ .hp hs) (k:Nat) (hs:List HC) (h:(m.set j c)[k]?=some (.hp hs)):k=0:=by
 by_cases hj:j=k
 ·subst hj
  have hl:j<m.length:=by
   have:=(yc.mp h).1
   rwa [yeb] at this
  rw[yu hl] at h
  cases h
  exact absurd rfl (n hs)
 ·rw[yq hj] at h
  exact o k hs h
/-- a cell's content changes -/
theorem Rel0.put (r:Rel0 K H1 H al m) {k:Nat} {a:Addr} {o:HO} {c c0:Cell} (hk:al.al[k]?=some a) (h0:m[k]?=some c0) (hl0:c0.live=true) (hc:CellAt K H1 (upd H a o) a c) (nh:∀hs,c ≠ .hp hs):Rel0 K H1 (upd H a o) al (m.set k c):=by
 have kp:=DL.nohp r.hp0 h0 hl0
 refine⟨fun b u h=>?_,by rw[yeb];exact r.len,r.nd,fun j b c' h1 h2 hl=>?_,fun j b c' h1 h2=>?_,fun q hq=>?_,zrlb r.hp0 kp c,zfeb r.only nh,r.pnd⟩
 ·rw[upd_ne (fun e=>by rw[e,r.fr k a c0 hk h0 hl0] at h;cases h)]
  exact r.ex b u h
 ·by_cases hj:k=j
  ·subst hj
   rw[hk] at h1
   cases h1
   exact r.fr k a c0 hk h0 hl0
  ·rw[yq hj] at h2
   exact r.fr j b c' h1 h2 hl
 ·by_cases hj:k=j
  ·subst hj
   rw[hk] at h1
   cases h1
   have hl:k<m.length:=by
    have:=(yc.mp h2).1
    rwa [yeb] at this
   rw[yu hl] at h2
   cases h2
   exact hc
  ·rw[yq hj] at h2
   by_cases hz:j=0
   ·subst hz
    obtain⟨hs,rest,e⟩:=r.hp0
    rw[e] at h2
    cases h2
    trivial
   ·refine (r.cells j b c' h1 h2).mono (Ex.refl _) fun u hu=>?_
    rw[upd_ne]
    ·exact hu
    ·intro e
     subst e
     exact hj (zh8 r.nd kp (Nat.pos_of_ne_zero hz) hk h1)
 ·obtain⟨q1,q2,q3⟩:=r.pin q hq
  have ne:q.1≠a:=fun e=>q3 (by rw[e];exact zun kp hk)
  exact⟨by rw[upd_ne ne];exact q1,q2,q3⟩
end
theorem RpHs.mono (e:Ex H1 H1') {ha ha':List Addr} (p:ha <+: ha'):∀{vs:List V} {ws:List HW},RpHs K H1 ha vs ws→RpHs K H1' ha' vs ws
 |_,_,.nil=>.nil
 |_,_,.cons (w:=.d x) h r=>.cons (w:=.d x) (Rp.mono e h) (r.mono e p)
 |_,_,.cons (w:=.h i) ⟨a,h,q⟩ r=>.cons (w:=.h i) ⟨a,z6o p h,q⟩ (r.mono e p)
theorem RpHs.toD {ha:List Addr}:∀{vs:List V} {ws:List HW},RpHs K H1 ha vs ws→RpL K H1 vs (ws.map HW.toD)
 |_,_,.nil=>.nil
 |_,_,.cons (w:=.d x) h r=>.cons h r.toD
 |_,_,.cons (w:=.h i) _ r=>.cons .opq r.toD
theorem RpHs.length {ha:List Addr}:∀{vs:List V} {ws:List HW},RpHs K H1 ha vs ws→vs.length=ws.length
 |_,_,.nil=>rfl
 |_,_,.cons _ r=>congrArg Nat.succ r.length
theorem RpHs.get {ha:List Addr}:∀{vs:List V} {ws:List HW} {i:Nat} {w:HW},RpHs K H1 ha vs ws→ws[i]?=some w→∃v,vs[i]?=some v∧RpH K H1 ha v w
 |_,_,_,_,.nil,e=>by simp at e
 |_,_,0,_,.cons r _,e=>by simp at e;subst e;exact⟨_,rfl,r⟩
 |_,_,i+1,d,.cons _ t,e=>by
  obtain⟨u,h1,h2⟩:=RpHs.get (i:=i) (w:=d) t (by simpa using e)
  exact⟨u,by simpa using h1,h2⟩
theorem RpHs.append {ha:List Addr}:∀{xs ys:List V} {us ws:List HW},RpHs K H1 ha xs us→RpHs K H1 ha ys ws→RpHs K H1 ha (xs++ys) (us++ws)
 |_,_,_,_,.nil,s=>s
 |_,_,_,_,.cons r t,s=>.cons r (RpHs.append t s)
theorem RpHs.set {ha:List Addr} {x:V} {u:HW} (r:RpH K H1 ha x u):∀{xs:List V} {us:List HW} (i:Nat),RpHs K H1 ha xs us→RpHs K H1 ha (xs.set i x) (us.set i u)
 |_,_,_,.nil=>.nil
 |_,_,0,.cons _ t=>.cons r t
 |_,_,i+1,.cons q t=>.cons q (RpHs.set r i t)
theorem RpHs.take {ha:List Addr}:∀{xs:List V} {us:List HW} (n:Nat),RpHs K H1 ha xs us→RpHs K H1 ha (xs.take n) (us.take n)
 |_,_,0,_=>by simp;exact .nil
 |_,_,_+1,.nil=>by simp;exact .nil
 |_,_,n+1,.cons r t=>by simp;exact .cons r (RpHs.take n t)
theorem RpHs.drop {ha:List Addr}:∀{xs:List V} {us:List HW} (n:Nat),RpHs K H1 ha xs us→RpHs K H1 ha (xs.drop n) (us.drop n)
 |_,_,0,r=>by simpa using r
 |_,_,_+1,.nil=>by simp;exact .nil
 |_,_,n+1,.cons _ t=>by simp;exact RpHs.drop n t
theorem RpH.w {v:V}:∀{w:HW},RpH K H1 al.al.ha v w→RpW K H1 al v w.toW
 |.d _,h=>h
 |.h _,h=>h
theorem HAt.mono (e:Ex H1 H1') {ha ha':List Addr} (p:ha <+: ha') {a:Addr} (k:∀o,H a=some o→H' a=some o):∀{c:HC},HAt K H1 ha H a c→HAt K H1' ha' H' a c
 |.lst _,⟨vs,h,r⟩=>⟨vs,k _ h,r.mono e p⟩
 |.obj _ _ _,⟨dx,fs,h,n,r⟩=>⟨dx,fs,k _ h,n,r.mono e p⟩
 |.dic _ _,⟨kvs,h,n,r⟩=>⟨kvs,k _ h,n,r.mono e p⟩
 |.tup _,⟨vs,h,r⟩=>⟨vs,k _ h,r.mono e p⟩
theorem Rel.ex (r:Rel K H1 H al m):Ex H1 H:=r.b.ex
theorem Rel.hp (r:Rel K H1 H al m):∃hs rest,m = .hp hs::rest:=r.b.hp0
theorem Rel.len (r:Rel K H1 H al m):al.al.fl.length=m.length:=r.b.len
theorem Rel.nd (r:Rel K H1 H al m):al.al.fl.tail.Nodup:=r.b.nd
theorem Rel.fr (r:Rel K H1 H al m):∀(k:Nat) (a:Addr) (c:Cell),al.al.fl[k]?=some a→m[k]?=some c→c.live=true→H1 a=none:=r.b.fr
theorem Rel.cells (r:Rel K H1 H al m):∀(k:Nat) (a:Addr) (c:Cell),al.al.fl[k]?=some a→m[k]?=some c→CellAt K H1 H a c:=r.b.cells
theorem Rel.at_ (r:Rel K H1 H al m) {k:Nat} {a:Addr} (h:al.al.fl[k]?=some a):∃c,m[k]?=some c∧CellAt K H1 H a c:=r.b.at_ h
theorem zfab {m:Mem} (h:∃hs rest,m = .hp hs::rest) {k:Nat} {c c0:Cell} (h0:m[k]?=some c0) (hl0:c0.live=true):heapOf (m.set k c)=heapOf m∧∃hs rest,m.set k c = .hp hs::rest:=by
 obtain⟨hs,rest,rfl⟩:=h
 cases k with
 |zero=>
  cases h0
  cases hl0
 |succ n=>exact⟨rfl,hs,rest.set n c,rfl⟩
/-- a cell's content changes -/
theorem Rel.put (r:Rel K H1 H al m) {k:Nat} {a:Addr} {o:HO} {c c0:Cell} (hk:al.al.fl[k]?=some a) (h0:m[k]?=some c0) (hl0:c0.live=true) (hc:CellAt K H1 (upd H a o) a c) (nh:∀hs,c ≠ .hp hs:=by intro _ z;cases z):Rel K H1 (upd H a o) al (m.set k c):=by
 obtain⟨e1,e2⟩:=zfab (c:=c) r.hp h0 hl0
 refine⟨r.b.put hk h0 hl0 hc nh,r.hpin,by rw[e1];exact r.hlen,r.hnd,r.hfr,fun i b h h1 h2=>?_⟩
 rw[e1] at h2
 refine (r.hcells i b h h1 h2).mono (Ex.refl _) (ycb _) fun u hu=>?_
 rw[upd_ne]
 ·exact hu
 ·rintro rfl
  exact (r.hfr b (ywb h1)).2 (zun (nohp r.hp h0 hl0) hk)
/-- a new thing of the heap -/
def hset (m:Mem) (hs:List HC):Mem:=match m with
 |.hp _::rest=>.hp hs::rest
 |m=>m
theorem Rh.int {v:V} {i:Int} (h:Rh K H1 H v (.int i)):v = .int i:=by
 generalize e:D.int i=x at h
 cases h with
 |p h=>subst e;cases h;rfl
 | @c a c hl q=>cases c <;> first |(cases hl;done) |cases e
theorem Rh.str {v:V} {i:Str} (h:Rh K H1 H v (.str i)):v = .str i:=by
 generalize e:D.str i=x at h
 cases h with
 |p h=>subst e;cases h;rfl
 | @c a c hl q=>cases c <;> first |(cases hl;done) |cases e
theorem Rh.bl {v:V} {i:Bool} (h:Rh K H1 H v (.bl i)):v = .bl i:=by
 generalize e:D.bl i=x at h
 cases h with
 |p h=>subst e;cases h;rfl
 | @c a c hl q=>cases c <;> first |(cases hl;done) |cases e
theorem Rh.non {v:V} (h:Rh K H1 H v .non):v = .non:=by
 generalize e:D.non=x at h
 cases h with
 |p h=>subst e;cases h;rfl
 | @c a c hl q=>cases c <;> first |(cases hl;done) |cases e
theorem Rh.lst {v:V} {ds:List D} (r:Ex H1 H) (h:Rh K H1 H v (.lst ds)):∃a vs,v = .ref a∧H a=some (.lst vs)∧RpL K H1 vs ds:=by
 generalize e:D.lst ds=x at h
 cases h with
 |p h=>
  subst e
  cases h with
  |lst h1 h2=>exact⟨_,_,rfl,r _ _ h1,h2⟩
 | @c a c hl q=>
   cases c with
   |lst ds'=>
    cases e
    obtain⟨vs,h1,h2⟩:=q
    exact⟨a,vs,rfl,h1,h2⟩
   |obj _ _ _=>cases e
   |zd _=>cases hl
   |hp _=>cases hl
   |dic _ _=>cases e
   |dn _ _=>cases e
   |dt _ _=>cases e
theorem Rh.fz {v:V} {ds:List D} (r:Ex H1 H) (h:Rh K H1 H v (.fz ds)):∃a vs,v = .ref a∧SqL K H a vs∧RpL K H1 vs ds:=by
 generalize e:D.fz ds=x at h
 cases h with
 |p h=>
  subst e
  cases h with
  |fz h1 h2=>exact⟨_,_,rfl,yud r h1,h2⟩
 | @c a c hl q=>cases c <;> first |(cases hl;done) |cases e
theorem Rh.dic {v:V} {ks:List Key} {ds:List D} (r:Ex H1 H) (h:Rh K H1 H v (.dic ks ds)):∃a kvs,v = .ref a∧Rd H a (.dK kvs)∧kvs.map (·.1)=ks∧RpL K H1 (kvs.map (·.2)) ds:=by
 generalize e:D.dic ks ds=x at h
 cases h with
 |p h=>
  subst e
  cases h with
  |dic h1 h2 h3=>exact⟨_,_,rfl,.inr ⟨_,r _ _ h1⟩,h2,h3⟩
 | @c a c hl q=>
   cases c with
   |dic _ _=>
    cases e
    obtain⟨kvs,h1,h2,h3⟩:=q
    exact⟨a,kvs,rfl,.inl h1,h2,h3⟩
   |lst _=>cases e
   |obj _ _ _=>cases e
   |zd _=>cases hl
   |hp _=>cases hl
   |dn _ _=>cases e
   |dt _ _=>cases e
theorem Rh.tk {v:V} {ks:List Key} (r:Ex H1 H) (h:Rh K H1 H v (.tk ks)):∃a,v = .ref a∧H a=some (.tup (ks.map kV)):=by
 generalize e:D.tk ks=x at h
 cases h with
 |p h=>
  subst e
  cases h with
  |tk h1=>exact⟨_,rfl,r _ _ h1⟩
 | @c a c hl q=>cases c <;> first |(cases hl;done) |cases e
theorem Rh.tup {v:V} {ds:List D} (r:Ex H1 H) (h:Rh K H1 H v (.tup ds)):∃a vs,v = .ref a∧SqT K H a vs∧RpL K H1 vs ds:=by
 generalize e:D.tup ds=x at h
 cases h with
 |p h=>
  subst e
  cases h with
  |tup h1 h2=>exact⟨_,_,rfl,ybd r h1,h2⟩
 | @c a c hl q=>cases c <;> first |(cases hl;done) |cases e
theorem Rh.obj {v:V} {C:Str} {ns:List Str} {ds:List D} (r:Ex H1 H) (h:Rh K H1 H v (.obj C ns ds)):∃a dx fs,v = .ref a∧H a=some (.ins (He.ga K C) dx fs)∧fs.map (·.1)=ns∧RpL K H1 (fs.map (·.2)) ds:=by
 generalize e:D.obj C ns ds=x at h
 cases h with
 |p h=>
  subst e
  cases h with
  |obj h1 h2 h3=>exact⟨_,_,_,rfl,r _ _ h1,h2,h3⟩
 | @c a c hl q=>
   cases c with
   |lst ds'=>cases e
   |obj _ _ _=>
    cases e
    obtain⟨dx,fs,h1,h2,h3⟩:=q
    exact⟨a,dx,fs,rfl,h1,h2,h3⟩
   |zd _=>cases hl
   |hp _=>cases hl
   |dic _ _=>cases e
   |dn _ _=>cases e
   |dt _ _=>cases e
end
inductive Res (α : Type) where
 |ok (a : α) (m:Mem)
 |exc (C f:Str) (p:D) (m:Mem)
 |no
def Res.bind {α β : Type} (r:Res α) (k : α → Mem→Res β):Res β := match r with
 |.ok a m=>k a m
 |.exc C f p m=>.exc C f p m
 |.no=>.no
abbrev DE:=Env→Mem→Res W
abbrev DT:=Env→Mem→Res Bool
abbrev DA:=Env→Mem→Res (List W)
/-- what is wanted behind a result: G of the value, Wx of an exception -/
def Post {α : Type} (K:Fg) (H1:Hp) (al:Gh) (σ : St) (Wx:WX) (G:Hp→Gh→Hp → α → Prop):Res α → Prop
 |.ok w m=>∀H1' al' H',Ex H1 H1'→Le al al'→Rel K H1' H' al' m→G H1' al' H' w
 |.exc C f p m=>∀H1' al' H' v dx,Ex H1 H1'→Le al al'→Rel K H1' H' al' m→Rp K H1' v p→H1' dx=some (.xd [(f,v)])→Wx (.ref (He.ga K C)) (some dx) σ H'
 |.no=>False
section
variable {K:Fg} {H1 H1' H H':Hp} {al al':Gh} {m:Mem} {σ : St} {Wx:WX} {α β : Type}
theorem Post.mono {G:Hp→Gh→Hp → α → Prop} (e:Ex H1 H1') (p:Le al al'):∀{r:Res α},Post K H1 al σ Wx G r→Post K H1' al' σ Wx G r
 |.ok _ _,h=>fun a b c e1 e2 e3=>h a b c (e.trans e1) (p.trans e2) e3
 |.exc _ _ _ _,h=>fun a b c v dx e1 e2 e3=>h a b c v dx (e.trans e1) (p.trans e2) e3
 |.no,h=>h
theorem Post.bind {G:Hp→Gh→Hp → β → Prop} {G':Hp→Gh→Hp → α → Prop} {r:Res α} {k : α → Mem→Res β} (h:Post K H1 al σ Wx G (r.bind k))
  (f:∀w m1 H1' al' H',Ex H1 H1'→Le al al'→Rel K H1' H' al' m1→Post K H1' al' σ Wx G (k w m1)→G' H1' al' H' w):Post K H1 al σ Wx G' r:=by
 cases r with
 |ok w m1=>exact fun H1' al' H' e p r=>f w m1 H1' al' H' e p r (Post.mono e p h)
 |exc C g p m1=>exact h
 |no=>exact h
end
def eVar (i:Nat):DE:=fun dl m=>match dl[i]? with
 |some (some w)=>.ok w m
 |_=>.no
def eC (d:D):DE:=fun _ m=>.ok (.d d) m
section
variable {X:Cx} {Wx:WX}
def lift2 (g:D→D→Option D) (x y:W) (m:Mem):Res W:=match x.rd m with
 |some a=>(match y.rd m with
  |some b=>(match g a b with
   |some z=>.ok (.d z) m
   |none=>.no)
  |none=>.no)
 |none=>.no
def lift1 (g:D→Option D) (x:W) (m:Mem):Res W:=match x.rd m with
 |some a=>(match g a with
  |some z=>.ok (.d z) m
  |none=>.no)
 |none=>.no
def eOp (g:D→D→Option D) (a b:DE):DE:=fun dl m=>(a dl m).bind fun x m1=>(b dl m1).bind fun y m2=>lift2 g x y m2
def eUn (g:D→Option D) (a:DE):DE:=fun dl m=>(a dl m).bind fun x m1=>lift1 g x m1
def truD:D→Option Bool
 |.non=>some false
 |.bl b=>some b
 |.int i=>some (i != 0)
 |.str y=>if y.length≤sizeLine then some ((y.length:Int) != 0) else none
 |.lst ds=>some (!ds.isEmpty)
 |.fz ds=>some (!ds.isEmpty)
 |.tup ds=>some (!ds.isEmpty)
 |_=>none
def tru (x:W) (m:Mem):Res Bool:=match x.rd m with
 |some a=>(match truD a with
  |some k=>.ok k m
  |none=>.no)
 |none=>.no
/-- an expression's truth -/
def bT (f:DE):DT:=fun dl m=>(f dl m).bind fun x m1=>tru x m1
def bAnd (a b:DT):DT:=fun dl m=>(a dl m).bind fun c m1=>if c=true then b dl m1 else .ok false m1
def bOr (a b:DT):DT:=fun dl m=>(a dl m).bind fun c m1=>if c=true then .ok true m1 else b dl m1
def bNot (a:DT):DT:=fun dl m=>(a dl m).bind fun c m1=>.ok (!c) m1
variable {a b:Expr} {rest:List Expr} {pos:Pos} {fa fb:DE} {ga gb:DT}
/-- as values -/
def eAnd (a b:DE):DE:=fun dl m=>(a dl m).bind fun x m1=>(tru x m1).bind fun c m2=>if c=true then b dl m2 else .ok x m2
def eNot (a:DE):DE:=fun dl m=>(a dl m).bind fun x m1=>(tru x m1).bind fun c m2=>.ok (.d (.bl (!c))) m2
def eIf (t:DT) (a b:DE):DE:=fun dl m=>(t dl m).bind fun c m1=>if c=true then a dl m1 else b dl m1
/-- a op b op' c -/
def zqp (g g':D→D→Option D) (a b c:DE):DE:=fun dl m=>(a dl m).bind fun x m1=>(b dl m1).bind fun y m2=>(lift2 g x y m2).bind fun z m3=>(tru z m3).bind fun k m4=>if k=true then (c dl m4).bind fun w m5=>lift2 g' y w m5 else .ok (.d (.bl false)) m4
def aNil:DA:=fun _ m=>.ok [] m
def aCons (a:DE) (r:DA):DA:=fun dl m=>(a dl m).bind fun x m1=>(r dl m1).bind fun xs m2=>.ok (x::xs) m2
/-- the data of arguments -/
def rdAll:List W→Mem→Option (List D)
 |[],_=>some []
 |w::ws,m=>match w.rd m with
  |some x=>(match rdAll ws m with
   |some xs=>some (x::xs)
   |none=>none)
  |none=>none
/-- pure data alone -/
def z5g:List W→Option (List D)
 |[]=>some []
 |.d x::ws=>(match z5g ws with
   |some xs=>some (x::xs)
   |none=>none)
 |_::_=>none
def mkTup (ws:List W) (m:Mem):Res W:=match z5g ws with
 |some xs=>if xs.length≤sizeLine then .ok (.d (.tup xs)) m else .no
 |none=>.no
def mkLst (ws:List W) (m:Mem):Res W:=match z5g ws with
 |some xs=>if xs.length≤sizeLine then .ok (.d (.lst xs)) m else .no
 |none=>.no
/-- a list that will change -/
def mkCel (ws:List W) (m:Mem):Res W:=match z5g ws with
 |some xs=>if xs.length≤sizeLine then .ok (.c m.length) (m++[.lst xs]) else .no
 |none=>.no
def eTup (f:DA):DE:=fun dl m=>(f dl m).bind mkTup
def eLst (f:DA):DE:=fun dl m=>(f dl m).bind mkLst
def eCel (f:DA):DE:=fun dl m=>(f dl m).bind mkCel
abbrev DF:=List W→Mem→Res W
def PostF (K:Fg) (H1:Hp) (al:Gh) (Q:VK) (E:XK):Res W→Prop
 |.ok w m=>∀H1' al' H' v,Ex H1 H1'→Le al al'→Rel K H1' H' al' m→RpW K H1' al' v w→Q v H'
 |.exc C f p m=>∀H1' al' H' v dx,Ex H1 H1'→Le al al'→Rel K H1' H' al' m→Rp K H1' v p→H1' dx=some (.xd [(f,v)])→E (.ref (He.ga K C)) (some dx) H'
 |.no=>False
def spD (K:Fg) (n:Nat) (F:DF):Sp:=fun vs H Q E=>vs.length=n∧∃H1 al m ws,Rel K H1 H al m∧RpWs K H1 al vs ws∧PostF K H1 al Q E (F ws m)
end
inductive SR where
 |nx (dl:Env) (m:Mem)
 |rt (w:W) (m:Mem)
 |bk (dl:Env) (m:Mem)
 |ct (dl:Env) (m:Mem)
 |exc (dl:Env) (C f:Str) (p:D) (m:Mem)
 |no
abbrev DS:=Env→Mem→SR
def PostS (K:Fg) (H1:Hp) (al:Gh) (Wx:WX) (En:Ends):SR→Prop
 |.nx dl m=>∀H1' al' H' σ',Ex H1 H1'→Le al al'→Rel K H1' H' al' m→RpE K H1' al' σ' dl→En.nx σ' H'
 |.rt w m=>∀H1' al' H' v,Ex H1 H1'→Le al al'→Rel K H1' H' al' m→RpW K H1' al' v w→En.rt v H'
 |.bk dl m=>∀H1' al' H' σ',Ex H1 H1'→Le al al'→Rel K H1' H' al' m→RpE K H1' al' σ' dl→En.bk σ' H'
 |.ct dl m=>∀H1' al' H' σ',Ex H1 H1'→Le al al'→Rel K H1' H' al' m→RpE K H1' al' σ' dl→En.ct σ' H'
 |.exc dl C f p m=>∀H1' al' H' σ' v dx,Ex H1 H1'→Le al al'→Rel K H1' H' al' m→RpE K H1' al' σ' dl→Rp K H1' v p→H1' dx=some (.xd [(f,v)])→Wx (.ref (He.ga K C)) (some dx) σ' H'
 |.no=>False
def Res.thenS {α : Type} (r:Res α) (dl:Env) (k : α → Mem→SR):SR:=match r with
 |.ok a m=>k a m
 |.exc C f p m=>.exc dl C f p m
 |.no=>.no
section
variable {K:Fg} {H1 H1' H H':Hp} {al al':Gh} {m:Mem} {σ : L2.St} {Wx:WX} {α : Type} {En En':Ends} {dl:Env}
theorem PostS.mono (e:Ex H1 H1') (p:Le al al'):∀{r:SR},PostS K H1 al Wx En r→PostS K H1' al' Wx En r
 |.nx _ _,h=>fun a b c d e1 e2 e3=>h a b c d (e.trans e1) (p.trans e2) e3
 |.rt _ _,h=>fun a b c d e1 e2 e3=>h a b c d (e.trans e1) (p.trans e2) e3
 |.bk _ _,h=>fun a b c d e1 e2 e3=>h a b c d (e.trans e1) (p.trans e2) e3
 |.ct _ _,h=>fun a b c d e1 e2 e3=>h a b c d (e.trans e1) (p.trans e2) e3
 |.exc _ _ _ _ _,h=>fun a b c d v dx e1 e2 e3=>h a b c d v dx (e.trans e1) (p.trans e2) e3
 |.no,h=>h
theorem PostS.of {G:Hp→Gh→Hp → α → Prop} {r:Res α} {k : α → Mem→SR} (en:RpE K H1 al σ dl) (h:PostS K H1 al Wx En (r.thenS dl k))
  (f:∀w m1 H1' al' H',Ex H1 H1'→Le al al'→Rel K H1' H' al' m1→PostS K H1' al' Wx En (k w m1)→G H1' al' H' w):Post K H1 al σ Wx G r:=by
 cases r with
 |ok w m1=>exact fun H1' al' H' e p r=>f w m1 H1' al' H' e p r (PostS.mono e p h)
 |exc C g p m1=>exact fun H1' al' H' v dx e pr r q q2=>h H1' al' H' σ v dx e pr r (en.mono e pr) q q2
 |no=>exact h
end
def SR.seq (r:SR) (b:DS):SR:=match r with
 |.nx dl m=>b dl m
 |.rt w m=>.rt w m
 |.bk dl m=>.bk dl m
 |.ct dl m=>.ct dl m
 |.exc dl C f p m=>.exc dl C f p m
 |.no=>.no
def sSeq (a b:DS):DS:=fun dl m=>(a dl m).seq b
def sRet (f:DE):DS:=fun dl m=>(f dl m).thenS dl fun w m1=>.rt w m1
def sDrop (f:DE):DS:=fun dl m=>(f dl m).thenS dl fun w m1=>.nx dl m1
def sIf (t:DT) (a b:DS):DS:=fun dl m=>(t dl m).thenS dl fun c m1=>if c=true then a dl m1 else b dl m1
section
variable {X:Cx} {Wx:WX} {st:Stmt} {rest:List Stmt} {f g:DS} {e:Expr} {fe:DE} {pos:Pos}
abbrev DG:=W→Env→Option Env
abbrev DGs:=List D→Env→Option Env
/-- σ' is σ but for the slots vs -/
structure But (vs:List Nat) (σ σ':L2.St):Prop where
 len : σ'.length = σ.length
 at_:∀i,i ∉ vs → σ'[i]? = σ[i]?
theorem But.refl (vs:List Nat) (σ : L2.St):But vs σ σ := ⟨rfl,fun _ _=>rfl⟩
theorem But.trans {vs vs2:List Nat} {a b c:L2.St} (h:But vs a b) (k:But vs2 b c):But (vs++vs2) a c:=⟨k.len.trans h.len,fun i hi=>(k.at_ i fun z=>hi (ybc _ z)).trans (h.at_ i fun z=>hi (ypb _ z))⟩
def gNm (i:Nat):DG:=fun w dl=>some (dl.set i (some w))
def gNil_:DGs:=fun ds dl=>match ds with
 |[]=>some dl
 |_=>none
def zve (g:DG) (gs:DGs):DGs:=fun ds dl=>match ds with
 |d::r=>(match g (.d d) dl with
  |some dl1=>gs r dl1
  |none=>none)
 |[]=>none
def gTp (n:Nat) (gs:DGs):DG:=fun w dl=>match w with
 |.d (.tup ds)=>if ds.length=n then gs ds dl else none
 |_=>none
/-- target = e -/
def sAsg (f:DE) (g:DG):DS:=fun dl m=>(f dl m).thenS dl fun w m1=>match g w dl with
 |some dl'=>.nx dl' m1
 |none=>.no
/-- J walks the items, as long as what H1 has stands -/
def z0p (K:Fg) (J:It) (H1:Hp) (items:List D):Prop:=∃(G:Hp→Prop) (Y:Nat→Hp→V→Hp→Prop),Walk J items.length G Y∧(∀H,Ex H1 H→G H) ∧
 ∀i H x H',i<items.length→Y i H x H'→∀Hf al m,Ex H1 Hf→Rel K Hf H al m→∃Hf' d,Ex Hf Hf'∧Rel K Hf' H' al m∧items[i]?=some d∧Rp K Hf' x d
theorem z0p.mono {K:Fg} {J:It} {H1 H1':Hp} {items:List D} (e:Ex H1 H1') (y:z0p K J H1 items):z0p K J H1' items:=by
 obtain⟨G,Y,w,h1,h2⟩:=y
 exact⟨G,Y,w,fun H a=>h1 H (e.trans a),fun i H x H' hi hy Hf al m ex r=>h2 i H x H' hi hy Hf al m (e.trans ex) r⟩
abbrev DI:=Env→Mem→Res (List D)
def loopD (g:DG) (b:DS):List D→Env→Mem→SR
 |[],dl,m=>.nx dl m
 |d::ds,dl,m=>match g (.d d) dl with
  |none=>.no
  |some dl1=>(match b dl1 m with
   |.nx dl2 m2=>loopD g b ds dl2 m2
   |.ct dl2 m2=>loopD g b ds dl2 m2
   |.bk dl2 m2=>.nx dl2 m2
   |.rt w m2=>.rt w m2
   |.exc dl2 C f p m2=>.exc dl2 C f p m2
   |.no=>.no)
def sFor (f:DI) (g:DG) (b:DS):DS:=fun dl m=>(f dl m).thenS dl fun items m1=>loopD g b items dl m1
/-- range(n), range(a, b) -/
def rngD (lo:Int) (n:Nat):List D:=(List.range n).map fun i=>.int (lo+(i:Nat))
def zfv (f:DA):DI:=fun dl m=>(f dl m).bind fun ws m1=>match ws with
 |[.d (.int j)]=>if -(2 ^ 62)≤j∧j<2 ^ 62 then .ok (rngD 0 j.toNat) m1 else .no
 |_=>.no
def wipeD (dl:Env):List Nat→Env
 |[]=>dl
 |v::vs=>(wipeD dl vs).set v none
/-- one walk: the list so far -/
def compD (g:DG) (t:DT) (e:DE) (wd:Env):List D→List D→Mem→Res (List D)
 |[],acc,m=>.ok acc m
 |d::ds,acc,m=>match g (.d d) wd with
  |none=>.no
  |some dl1=>(match t dl1 m with
   |.ok b m1=>(match b with
    |true=>(match e dl1 m1 with
     |.ok (.d y) m2=>if acc.length<sizeLine then compD g t e wd ds (acc++[y]) m2 else .no
     |_=>.no)
    |false=>compD g t e wd ds acc m1)
   |_=>.no)
def bYes:DT:=fun _ m=>.ok true m
def eLc (f:DI) (g:DG) (t:DT) (e:DE) (vs:List Nat):DE:=fun dl m=>(f dl m).bind fun items m1=>(compD g t e (wipeD dl vs) items [] m1).bind fun acc m2=>.ok (.d (.lst acc)) m2
end
end DL
namespace DL
open PySem PySem.Spec L2
open PyProof.Rows hiding St
open Evl (Ex)
def frz (n:Nat) (w:W) (m:Mem):Res W:=match w with
 |.d x=>.ok (.d x) (m.take n)
 |.c k=>if k<n then .ok (.c k) (m.take n) else (match m[k]? with
  |some c=>.ok (.d c.fz) (m.take n)
  |none=>.no)
 |.ex _ _ _ _ _=>.no
 |.h i=>.ok (.h i) (m.take n)
def fin (n:Nat):SR→Res W
 |.nx _ m=>.ok (.d .non) (m.take n)
 |.rt w m=>frz n w m
 |.exc _ C f p m=>.exc C f p (m.take n)
 |_=>.no
def z1k (nN:Nat) (ws:List W):Env:=ws.map some++yn (nN-ws.length) none
def runF (nN:Nat) (g:DS):DF:=fun ws m=>fin m.length (g (z1k nN ws) m)
theorem RpWs.get {K:Fg} {H1:Hp} {al:Gh}:∀{vs:List V} {ws:List W} {i:Nat} {w:W},RpWs K H1 al vs ws→ws[i]?=some w→∃v,vs[i]?=some v∧RpW K H1 al v w
 |_,_,_,_,.nil,e=>by simp at e
 |_,_,0,_,.cons r _,e=>by simp at e;subst e;exact⟨_,rfl,r⟩
 |_,_,i+1,d,.cons _ t,e=>by
  obtain⟨u,h1,h2⟩:=RpWs.get (i:=i) (w:=d) t (by simpa using e)
  exact⟨u,by simpa using h1,h2⟩
/-- room, and no repr under way -/
structure RoomG (k:Nat) (A:Around):Prop extends Room k A where
 gd:A.guards=some []
theorem RoomG.mono {j k:Nat} {A:Around} (r:RoomG k A) (h:j≤k):RoomG j A:=⟨r.toRoom.mono h,r.gd⟩
/-- the same while an exception is handled -/
structure RoomX (k:Nat) (A:Around):Prop extends L2H.RoomH k A where
 gd:A.guards=some []
theorem RoomX.mono {j k:Nat} {A:Around} (r:RoomX k A) (h:j≤k):RoomX j A:=⟨r.toRoomH.mono h,r.gd⟩
section
variable {P:Program} {w:World} {K:Fg} {mg:Str→Option Value} {base:Heap}
/-- called by position -/
def spR (K:Fg) (F:DF):Sp:=fun vs H Q E=>∃H1 al m ws,Rel K H1 H al m∧RpWs K H1 al vs ws∧PostF K H1 al Q E (F ws m)
def FnD (P:Program) (w:World) (K:Fg) (mg:Str→Option Value) (base:Heap) (k:Nat) (f:Addr) (F:DF):Prop:=
 ∀(A:Around) (outer:List PySem.Env) (s:Shared) (H:Hp) (us:List Value) (vs:List V) (Q:VK) (E:XK),RoomG k A→Env0 P w K mg base A outer s H→Vals vs us→spR K F vs H Q E →
  codeAny (model P w) A (.call (.ref f) ⟨us,[]⟩) (CR (L2N.CX P w) outer P w H s Q E) s
/-- while an exception is handled -/
def FnDX (P:Program) (w:World) (K:Fg) (mg:Str→Option Value) (base:Heap) (k:Nat) (f:Addr) (F:DF):Prop:=
 ∀(A:Around) (outer:List PySem.Env) (s:Shared) (H:Hp) (us:List Value) (vs:List V) (Q:VK) (E:XK) (p:Addr × Obj),RoomX k A→L2H.PinOk outer H s p→Env0 P w K mg base A outer s H→Vals vs us→spR K F vs H Q E →
  codeAny (model P w) A (.call (.ref f) ⟨us,[]⟩) (CR (L2N.CX P w) outer P w H s Q E) s
theorem FnD.mono {j k:Nat} {f:Addr} {F:DF} (h:FnD P w K mg base j f F) (l:j≤k):FnD P w K mg base k f F:=fun A outer s H us vs Q E hr=>h A outer s H us vs Q E (hr.mono l)
theorem FnDX.mono {j k:Nat} {f:Addr} {F:DF} (h:FnDX P w K mg base j f F) (l:j≤k):FnDX P w K mg base k f F:=fun A outer s H us vs Q E p hr=>h A outer s H us vs Q E p (hr.mono l)
def lenF (n:Nat) (F:DF):DF:=fun ws m=>if ws.length=n then F ws m else .no
end
section
variable {X:Cx} {Wx:WX}
def eFn (F:DF) (f:DA):DE:=fun dl m=>(f dl m).bind F
end
/-- conditions as truth values -/
def chk {α : Type} (c:Prop) [Decidable c] (x : α):Option α := if c then some x else none
instance (i j:Int):Decidable (CMul i j):=by unfold CMul;infer_instance
instance (i j:Int):Decidable (CPow i j):=by unfold CPow;infer_instance
instance (x:Str) (n:Int):Decidable (MulOk x n):=by unfold MulOk;infer_instance
def addD:D→D→Option D
 |.int i,.int j=>some (.int (i+j))
 |.str i,.str j=>chk (i.length+j.length≤sizeLine) (.str (i++j))
 |.lst a,.lst b=>chk (a.length+b.length≤sizeLine) (.lst (a++b))
 |.tup a,.tup b=>chk (a≠[]∧b≠[]∧a.length+b.length≤sizeLine) (.tup (a++b))
 |_,_=>none
def subD:D→D→Option D
 |.int i,.int j=>some (.int (i-j))
 |_,_=>none
def ltD:D→D→Option D
 |.int i,.int j=>some (.bl (decide (i<j)))
 |.str x,.str y=>some (.bl (decide (x.cps.toList<y.cps.toList)))
 |_,_=>none
def leD:D→D→Option D
 |.int i,.int j=>some (.bl (decide (i≤j)))
 |.str x,.str y=>some (.bl (!decide (y.cps.toList<x.cps.toList)))
 |_,_=>none
def gtD:D→D→Option D
 |.int i,.int j=>some (.bl (decide (j<i)))
 |_,_=>none
def geD:D→D→Option D
 |.int i,.int j=>some (.bl (decide (j≤i)))
 |_,_=>none
def zmw:D→D→Option D
 |.non,.non=>some (.bl true)
 |.cls _,.non=>none
 |.opq,.non=>none
 |_,.non=>some (.bl false)
 |_,_=>none
def ztn:D→D→Option D
 |.non,.non=>some (.bl false)
 |.cls _,.non=>none
 |.opq,.non=>none
 |_,.non=>some (.bl true)
 |_,_=>none
def negD:D→Option D
 |.int i=>some (.int (-i))
 |_=>none
mutual
/-- as the model's own data -/
def toP:D→Option PyData
 |.non=>some .none
 |.bl b=>some (.bool b)
 |.int i=>some (.int i)
 |.str x=>some (.str x)
 |.lst ds=>(match toPs ds with
  |some ps=>some (.list ps)
  |none=>none)
 |.fz ds=>(match toPs ds with
  |some ps=>some (.list ps)
  |none=>none)
 |.tup ds=>(match toPs ds with
  |some ps=>some (.tuple ps)
  |none=>none)
 |_=>none
def toPs:List D→Option (List PyData)
 |[]=>some []
 |d::ds=>(match toP d with
  |some p=>(match toPs ds with
   |some ps=>some (p::ps)
   |none=>none)
  |none=>none)
end
def eqP (x y:D):Option D:=match toP x with
 |some p=>(match toP y with
  |some q=>chk (SeqAt.shaped p=true∧SeqAt.shaped q=true) (.bl (PyData.eqv p q))
  |none=>none)
 |none=>none
def neP (x y:D):Option D:=match toP x with
 |some p=>(match toP y with
  |some q=>chk (SeqAt.shaped p=true∧SeqAt.shaped q=true) (.bl (!PyData.eqv p q))
  |none=>none)
 |none=>none
/-- two texts as such; all else by the model's own data -/
def eqD:D→D→Option D
 |.str a,.str b=>some (.bl (decide (a=b)))
 |x,y=>eqP x y
def neD:D→D→Option D
 |.str a,.str b=>some (.bl (!decide (a=b)))
 |x,y=>neP x y
def liftA (g:List D→Option D) (ws:List W) (m:Mem):Res W:=match rdAll ws m with
 |some xs=>(match g xs with
  |some z=>.ok (.d z) m
  |none=>.no)
 |none=>.no
def eB (g:List D→Option D) (f:DA):DE:=fun dl m=>(f dl m).bind fun ws m1=>liftA g ws m1
/-- a list's data and what stands there -/
def seqD:D→Option (List D)
 |.lst ds=>some ds
 |.fz ds=>some ds
 |.tup ds=>some ds
 |_=>none
def lstD:D→Option (List D)
 |.lst ds=>some ds
 |.fz ds=>some ds
 |_=>none
theorem Rh.seq {K:Fg} {H1 H:Hp} {v:V} {x:D} {ds:List D} (e:Ex H1 H) (h:Rh K H1 H v x) (hs:seqD x=some ds):∃a vs,v = .ref a∧(SqL K H a vs∨SqT K H a vs)∧RpL K H1 vs ds:=by
 cases x <;> first |(cases hs;done) |skip
 ·obtain⟨a,vs,e1,h1,h2⟩:=h.lst e
  cases hs
  exact⟨a,vs,e1,.inl (SqL.of h1),h2⟩
 ·obtain⟨a,vs,e1,h1,h2⟩:=h.tup e
  cases hs
  exact⟨a,vs,e1,.inr h1,h2⟩
 ·obtain⟨a,vs,e1,h1,h2⟩:=h.fz e
  cases hs
  exact⟨a,vs,e1,.inl h1,h2⟩
def lenD:List D→Option D
 |[.str y]=>chk (y.length≤sizeLine) (.int y.length)
 |[x]=>(match seqD x with
  |some ds=>some (.int ds.length)
  |none=>none)
 |_=>none
def absD:List D→Option D
 |[.int i]=>some (.int (if i<0 then -i else i))
 |_=>none
def intD:List D→Option D
 |[.int i]=>some (.int i)
 |[.bl b]=>some (.int (if b then 1 else 0))
 |[.str a]=>(match PySem.intText? a with
  |some n=>chk (a.length≤640) (.int n)
  |none=>none)
 |_=>none
def zru:List D→Option (List Int)
 |[]=>some []
 |.int i::r=>(zru r).map (i :: ·)
 |_::_=>none
/-- the least, the greatest -/
def minI:List Int→Int
 |[]=>0
 |a::r=>r.foldl (fun x y=>if y<x then y else x) a
def zxo:List D→Option D
 |[.tup ds]=>some (.tup ds)
 |[.lst ds]=>some (.tup ds)
 |[.fz ds]=>some (.tup ds)
 |_=>none
def tyD (T:String):D→Bool
 |.str _=>T == "str"
 |.lst _=>T == "list"
 |.fz _=>T == "list"
 |_=>false
def liftM (g:D→List D→Option D) (x:W) (ws:List W) (m:Mem):Res W:=match x.rd m with
 |some d=>(match rdAll ws m with
  |some xs=>(match g d xs with
   |some z=>.ok (.d z) m
   |none=>.no)
  |none=>.no)
 |none=>.no
def isTy (T:String) (x:W) (m:Mem):Bool:=match x.rd m with
 |some d=>tyD T d
 |none=>false
def eBM (T:String) (g:D→List D→Option D) (a:DE) (f:DA):DE:=fun dl m=>(a dl m).bind fun x m1=>if isTy T x m1=true then (f dl m1).bind fun ws m2=>liftM g x ws m2 else .no
abbrev Tbl:=List (Str × DF)
def look:Tbl→Str→Option DF
 |[],_=>none
 |q::r,C=>if q.1=C then some q.2 else look r C
/-- the class of an object -/
def clsOf (x:W) (m:Mem):Option Str:=match x.rd m with
 |some (.obj C _ _)=>some C
 |_=>none
section
variable {X:Cx} {Wx:WX}
/-- len(x): of a text, a list, a tuple, or by the object's own __len__ -/
def lenW (w:W) (m:Mem):Res W:=match w with
 |.d (.int i)=>if 0≤i∧i<2 ^ 63 then .ok (.d (.int i)) m else .no
 |_=>.no
def lenI (n:Res W):Res W:=n.bind lenW
def eLen (t:Tbl) (f:DA):DE:=fun dl m=>(f dl m).bind fun ws m1=>match ws with
 |[x]=>(match clsOf x m1 with
  |some C=>(match look t C with
   |some F=>lenI (F [x] m1)
   |none=>.no)
  |none=>liftA lenD [x] m1)
 |_=>.no
/-- str(x): of an int, or by the object's own __str__ -/
def strW (w:W) (m:Mem):Res W:=match w with
 |.d (.str i)=>.ok (.d (.str i)) m
 |_=>.no
def strI (n:Res W):Res W:=n.bind strW
def strD:List D→Option D
 |[.int i]=>chk (i.natAbs.log2<1920) (.str (toString i))
 |[.str s]=>some (.str s)
 |_=>none
def eStr (t:Tbl) (f:DA):DE:=fun dl m=>(f dl m).bind fun ws m1=>match ws with
 |[x]=>(match clsOf x m1 with
  |some C=>(match look t C with
   |some F=>strI (F [x] m1)
   |none=>.no)
  |none=>liftA strD [x] m1)
 |_=>.no
def ixD:D→D→Option D
 |.str z,.int i=>(match atI z.cps.toList i with
  |some c=>chk (z.length≤sizeLine) (.str ⟨#[c]⟩)
  |none=>none)
 |x,.int i=>(match seqD x with
  |some ds=>atI ds i
  |none=>none)
 |_,_=>none
def eIx (t:Tbl) (a b:DE):DE:=fun dl m=>(a dl m).bind fun x m1=>(b dl m1).bind fun y m2=>match clsOf x m2 with
 |some C=>(match look t C with
  |some F=>F [x,y] m2
  |none=>.no)
 |none=>lift2 ixD x y m2
end
inductive Tag where
 |bt (n:String) |own (C:Str)
def tagD:D→Option Tag
 |.non=>some (.bt "NoneType")
 |.bl _=>some (.bt "bool")
 |.int _=>some (.bt "int")
 |.str _=>some (.bt "str")
 |.lst _=>some (.bt "list")
 |.fz _=>some (.bt "list")
 |.tup _=>some (.bt "tuple")
 |.dic _ _=>some (.bt "dict")
 |.obj C _ _=>some (.own C)
 |.cls _=>none
 |.tk _=>some (.bt "tuple")
 |.opq=>none
def Tag.v (K:Fg):Tag→Value
 |.bt n=>.type n
 |.own C=>.ref (He.ga K C)
def isiW (isf:Tag→Option Bool) (x:W) (m:Mem):Res W:=match x.rd m with
 |some d=>(match tagD d with
  |some t=>(match isf t with
   |some b=>.ok (.d (.bl b)) m
   |none=>.no)
  |none=>.no)
 |none=>.no
def eIsi (isf:Tag→Option Bool) (a:DE):DE:=fun dl m=>(a dl m).bind fun x m1=>isiW isf x m1
section
variable {X:Cx} {Wx:WX}
def cutD (xs:List D) (lo hi:Option Int):List D:=(xs.drop (HT.sIx xs.length 0 lo)).take (HT.sIx xs.length xs.length hi-HT.sIx xs.length 0 lo)
def slD (x:D) (lo hi:Option Int):Option D:=match x with
 |.str z=>chk (z.length≤sizeLine) (.str (cutS z lo hi))
 |.lst ds=>some (.lst (cutD ds lo hi))
 |.fz ds=>some (.lst (cutD ds lo hi))
 |.tup ds=>chk (¬(HT.sIx ds.length 0 lo=0∧HT.sIx ds.length ds.length hi=ds.length)) (.tup (cutD ds lo hi))
 |_=>none
abbrev DO:=Env→Mem→Res (Option Int)
def oNone:DO:=fun _ m=>.ok none m
def oSome (f:DE):DO:=fun dl m=>(f dl m).bind fun w m1=>match w with
 |.d (.int i)=>.ok (some i) m1
 |_=>.no
def slW (x:W) (lo hi:Option Int) (m:Mem):Res W:=match x.rd m with
 |some d=>(match slD d lo hi with
  |some z=>.ok (.d z) m
  |none=>.no)
 |none=>.no
def eSl (a:DE) (lo hi:DO):DE:=fun dl m=>(a dl m).bind fun x m1=>(lo dl m1).bind fun l m2=>(hi dl m2).bind fun u m3=>slW x l u m3
def fldL:List Str→List D→Str→Option D
 |n::ns,d::ds,f=>if n=f then some d else fldL ns ds f
 |_,_,_=>none
/-- e.f, a field of an object of one of the classes Cs -/
def fldD (Cs:List Str) (f:Str):D→Option D
 |.obj C ns ds=>if C∈Cs then fldL ns ds f else none
 |_=>none
def eFld (Cs:List Str) (f:Str) (a:DE):DE:=eUn (fldD Cs f) a
/-- e.f, a property -/
def noExc:Res W→Res W
 |.ok w m=>.ok w m
 |_=>.no
def propW (C:Str) (F:DF) (x:W) (m:Mem):Res W:=if clsOf x m=some C then noExc (F [x] m) else .no
def eProp (C:Str) (F:DF) (a:DE):DE:=fun dl m=>(a dl m).bind fun x m1=>propW C F x m1
def hasNo (C m:Str) (x:W) (mm:Mem):Bool:=match x.rd mm with
 |some (.obj C' ns _)=>decide (C'=C) && !ns.contains m
 |_=>false
def eMeth (C m:Str) (F:DF) (a:DE) (f:DA):DE:=fun dl mm=>(a dl mm).bind fun x m1=>if hasNo C m x m1=true then (f dl m1).bind fun ws m2=>F (x::ws) m2 else .no
/-- C.m(e, ..), m a class method (the class is its first argument) or a static one -/
def eCm (C:Str) (cm:Bool) (F:DF) (a:DE) (f:DA):DE:=fun dl m=>(a dl m).bind fun x m1=>match x with
 |.d (.cls C')=>if C'=C then (f dl m1).bind fun ws m2=>F (if cm=true then .d (.cls C)::ws else ws) m2 else .no
 |_=>.no
end
/-- what __init__ left of the k-th cell -/
def madeW (k:Nat) (w:W) (m:Mem):Res W:=match w with
 |.d .non=>(match m[k]? with
  |some (.obj C ns ds)=>.ok (.d (.obj C ns ds)) (m.take k)
  |_=>.no)
 |_=>.no
def makeW (C:Str) (F:DF) (ws:List W) (m:Mem):Res W:=(F (.c m.length::ws) (m++[.obj C [] []])).bind fun w m1=>madeW m.length w m1
section
variable {X:Cx} {Wx:WX}
/-- C(e, ..), the class by an expression -/
def eMk (C:Str) (F:DF) (a:DE) (f:DA):DE:=fun dl m=>(a dl m).bind fun x m1=>match x with
 |.d (.cls C')=>if C'=C then (f dl m1).bind fun ws m2=>makeW C F ws m2 else .no
 |_=>.no
/-- *e alone: the items of a list or tuple -/
def starW (x:W) (m:Mem):Res (List W):=match x.rd m with
 |some d=>(match seqD d with
  |some ds=>.ok (ds.map W.d) m
  |none=>.no)
 |none=>.no
def zuo (a:DE):DA:=fun dl m=>(a dl m).bind starW
end
section
variable {P:Program} {w:World} {K:Fg} {mg:Str→Option Value} {base:Heap}
theorem RpWs.take {H1:Hp} {al:Gh}:∀{vs:List V} {ws:List W} (n:Nat),RpWs K H1 al vs ws→RpWs K H1 al (vs.take n) (ws.take n)
 |_,_,0,_=>by simp;exact .nil
 |_,_,_+1,.nil=>by simp;exact .nil
 |_,_,n+1,.cons r t=>by simp;exact .cons r (RpWs.take n t)
theorem RpWs.drop {H1:Hp} {al:Gh}:∀{vs:List V} {ws:List W} (n:Nat),RpWs K H1 al vs ws→RpWs K H1 al (vs.drop n) (ws.drop n)
 |_,_,0,r=>by simpa using r
 |_,_,_+1,.nil=>by simp;exact .nil
 |_,_,n+1,.cons _ t=>by simp;exact RpWs.drop n t
theorem RpWs.append {H1:Hp} {al:Gh}:∀{xs ys:List V} {us ws:List W},RpWs K H1 al xs us→RpWs K H1 al ys ws→RpWs K H1 al (xs++ys) (us++ws)
 |_,_,_,_,.nil,s=>s
 |_,_,_,_,.cons r t,s=>.cons r (RpWs.append t s)
theorem PostF.mono {H1 H1':Hp} {al:Gh} {Q:VK} {E:XK} (e:Ex H1 H1'):∀{r:Res W},PostF K H1 al Q E r→PostF K H1' al Q E r
 |.ok _ _,h=>fun a b c d e1=>h a b c d (e.trans e1)
 |.exc _ _ _ _,h=>fun a b c d f e1=>h a b c d f (e.trans e1)
 |.no,h=>h
end
section
variable {X:Cx} {Wx:WX}
/-- xs.append(e), xs a cell -/
def appW (x:W) (ws:List W) (m:Mem):Res W:=match x,ws with
 |.c k,[.d d]=>(match m[k]? with
  |some (.lst ds)=>if ds.length<sizeLine then .ok (.d .non) (m.set k (.lst (ds++[d]))) else .no
  |_=>.no)
 |_,_=>.no
def eApp (a:DE) (f:DA):DE:=fun dl m=>(a dl m).bind fun x m1=>if isTy "list" x m1=true then (f dl m1).bind fun ws m2=>appW x ws m2 else .no
theorem RpL.dropLast {K:Fg} {H:Hp}:∀{vs:List V} {ds:List D},RpL K H vs ds→RpL K H vs.dropLast ds.dropLast
 |_,_,.nil=>.nil
 |_,_,.cons _ .nil=>.nil
 |_,_,.cons a (.cons b c)=>.cons a (RpL.dropLast (.cons b c))
/-- o.f = e, o an object under construction -/
def putL (f:Str) (d:D):List Str→List D→List Str × List D
 |n::ns,x::xs=>if n=f then (n::ns,d::xs) else (n::(putL f d ns xs).1,x::(putL f d ns xs).2)
 |_,_=>([f],[d])
def sFldW (Cs:List Str) (f:Str) (y o:W) (m:Mem):Option Mem:=match y,o with
 |.d d,.c k=>(match m[k]? with
  |some (.obj C ns ds)=>if C∈Cs∧ns.length<1000 then some (m.set k (.obj C (putL f d ns ds).1 (putL f d ns ds).2)) else none
  |_=>none)
 |_,_=>none
def sFldS (Cs:List Str) (f:Str) (e a:DE):DS:=fun dl m=>(e dl m).thenS dl fun y m1=>(a dl m1).thenS dl fun o m2=>match sFldW Cs f y o m2 with
 |some m3=>.nx dl m3
 |none=>.no
end
section
variable {X:Cx} {Wx:WX}
def zw6 (x:W) (d:D) (m:Mem):Res W:=match x.rd m with
 |some y=>(match lstD y with
  |some ds=>(match zru ds with
   |some ns=>.ok (.d (if ns=[] then d else .int (minI ns))) m
   |none=>.no)
  |none=>.no)
 |none=>.no
def zj7 (a:DE) (d:D):DE:=fun dl m=>(a dl m).bind fun x m1=>zw6 x d m1
/-- a, b = e1, e2: two local names -/
def sPar (i j:Nat) (f:DA):DS:=fun dl m=>(f dl m).thenS dl fun ws m1=>match ws with
 |[v,w]=>.nx ((dl.set i (some v)).set j (some w)) m1
 |_=>.no
end
end DL
namespace DL
open PySem PySem.Spec L2
open PyProof.Rows hiding St
open Evl (Ex)
section
variable {X:Cx} {Wx:WX}
def zrq (w:W) (m:Mem):Res (List D):=match w with
 |.d x=>(match seqD x with
  |some ds=>.ok ds m
  |none=>.no)
 |_=>.no
def iSeq (f:DE):DI:=fun dl m=>(f dl m).bind zrq
def enumD (ds:List D):List D:=ds.mapIdx fun i d=>.tup [.int (i:Int),d]
def enumW (ws:List W) (m:Mem):Res (List D):=match ws with
 |[.d x]=>(match lstD x with
  |some ds=>.ok (enumD ds) m
  |none=>.no)
 |_=>.no
def iEnu (f:DA):DI:=fun dl m=>(f dl m).bind enumW
end
open PySem.W (Frag Hook)
def obsM (fs:List (Frag→Bool)) (fn:List He5.DefA) (K:Frag):He.AlD:=((fs.all fun f=>f K)&&fn.all fun d=>d.ok K,fn.map fun d=>He5.fnA K (d.at_ K))
def SaysM (fs:List (Frag→Bool)) (fn:List He5.DefA) (K:Frag):Prop:=obsM fs fn K=He5.valA fn
def fGlo (x:Str):Frag→Bool:=fun K=>(He.Fa.glo x).ok K
def fFree (x:Str):Frag→Bool:=fun K=>(He.Fa.free x).ok K
def fInt (x:Str) (i:Int):Frag→Bool:=fun K=>(He.Fa.int x i).ok K
def fCls (x:Str):Frag→Bool:=fun K=>(He.Fa.cls x).ok K
def fNoat (x f:Str):Frag→Bool:=fun K=>(He.Fa.noat x f).ok K
def fMkr (x:Str):Frag→Bool:=fun K=>(He.Fa.mkr x).ok K
def fKeep (x:Str):Frag→Bool:=fun K=>ym K (.ref (He.ga K x))
/-- C.name is a def, found by the interpreter -/
def fOwn (C m:Str):Frag→Bool:=fun K=>He.eqO (yh K (.ref (He.ga K C)) m) (some (some (.ref (He.ma K (He.ga K C) m))))&&(yhb K (.ref (He.ma K (He.ga K C) m))&&(PySem.W.fnIn K (He.ma K (He.ga K C) m)&&ym K (.ref (He.ma K (He.ga K C) m))))
def fProp (C m:Str):Frag→Bool:=fun K=>He.eqO (yh K (.ref (He.ga K C)) m) (some (some (.ref (He.ma K (He.ga K C) m))))&&(He.eqO (y0c K (.ref (He.ma K (He.ga K C) m)) "__get__") (some (some (.builtin "property.__get__"))) &&
 (decide (yyd K (.ref (He.ma K (He.ga K C) m))=some true)&&(match PySem.W.recIn K (He.ma K (He.ga K C) m) "property" with
   |some (.ref _::_)=>true
   |_=>false)))
def fRead (C:Str):Frag→Bool:=fun K=>PySem.W.readsIn K (He.ga K C) (.type "type")
def fCm (C m:Str):Frag→Bool:=fun K=>He5.wrapB K (He.ga K C) "classmethod" "classmethod.__get__" m&&PySem.W.fnIn K (He5.wf K (He.ga K C) "classmethod" m)
def fIsiC (C:Str):Frag→Bool:=fun K=>(He.Fa.cls C).ok K&&(He.eqO (yh K (.ref (He.ga K C)) "__class__") (some (some (.builtin "object.__class__")))&&(He.eqO (y0c K (.builtin "object.__class__") "__get__") (some (some (.builtin "getset_descriptor.__get__"))) &&
 (decide (yyd K (.builtin "object.__class__")=some true)&&decide (PySem.W.mroIn K (He.ga K C) (.type "object")=some true))))
/-- a class as the text has it -/
inductive CRef where
 |bt (n:String) |own (C:Str)
def CRef.v (K:Frag):CRef→Value
 |.bt n=>.type n
 |.own C=>.ref (He.ga K C)
def fKit (t:CRef) (cs:List CRef) (b:Bool):Frag→Bool:=fun K=>decide (yrc K (t.v K) (cs.map (CRef.v K))=some b)
/-- the whole table, by one check -/
def tagC:Tag→CRef
 |.bt n=>.bt n
 |.own C=>.own C
def fTab (t:List (Tag × Bool)) (cs:List CRef):Frag→Bool:=fun K=>t.all fun q=>fKit (tagC q.1) cs q.2 K&&(match q.1 with
 |.own C=>fIsiC C K
 |.bt _=>true)
end DL
namespace DL
open PySem PySem.Spec L2
open PyProof.Rows hiding St
open Evl (Ex)
theorem zgbb (K:Fg) (H:Hp):Rel K H H ⟨⟨[0],[]⟩,[]⟩ [.hp []]:=by
 refine⟨⟨fun _ _ z=>z,rfl,ysc,fun k a c h1 h2 hl=>?_,fun k a c h1 h2=>?_,(fun q z=>by cases z),⟨_,_,rfl⟩,fun k hs h=>?_,ysc⟩,(fun q z=>by cases z),rfl,ysc,(fun a z=>by cases z),(fun i a h z=>by simp at z)⟩
 ·cases k with
  |zero=>cases h2;cases hl
  |succ k=>simp at h2
 ·cases k with
  |zero=>cases h2;trivial
  |succ k=>simp at h2
 ·cases k with
  |zero=>rfl
  |succ k=>simp at h
theorem spD_law {K:Fg} {H:Hp} {a:Addr} {ns:List Int} {R:DF} (hS:SqL K H a (ns.map V.int)) (h:∃m',R [.d (.fz (ns.map D.int))] [.hp []] = .ok (.d (.bl true)) m'):spD K 1 R [.ref a] H (fun v _=>v = .bl true) (fun _ _ _=>False):=by
 obtain⟨m',h⟩:=h
 refine⟨rfl,H,⟨⟨[0],[]⟩,[]⟩,[.hp []],[.d (.fz (ns.map D.int))],zgbb K H,.cons (w:=.d (.fz (ns.map D.int))) (Rp.fz hS (RpL.ints ns)) .nil,?_⟩
 rw[h]
 intro H1' al' H' v _ _ _ r
 have r:Rp K H1' v (.bl true):=r
 cases r
 rfl
theorem zxjb {P:Program} {w:World} (H:Hp) (s:Shared) (e:Value) (s':Shared) (c:L2N.CX P w [] H s (fun _ _ _=>False) e s'):False:=by
 obtain⟨_,_,_,_,_,_,_,_,_,_,_,_,z⟩:=c
 exact z
/-- the law's call: what is asked of it, at the heap that the top has left -/
theorem zhlb {P:Program} {w:World} {K:Fg} {mg mb:Str→Option Value} {fa a:Addr} {s₁:Shared} {vs:List Value} {ns:List Int} (inK:K.In s₁.heap) (nsG:s₁.heap.Ns mainGlobals mg) (nsB:s₁.heap.Ns builtinsNs mb) (boot:∀x:Str,x ≠ "__name__" → mb x=bootBuiltins x) (lim:s₁.heap.NoLimit) (gens:s₁.gens=#[])
  (ha:s₁.heap.get? a=some {cls:=.type "list",data:=.seq vs.toArray}) (hi:IntsAre vs ns) (few:ns.length≤sizeLine)
  (go:∀(base:Heap) (H:Hp),Env0 P w K mg base callerA [] s₁ H→SqL K H a (ns.map V.int)→codeAny (model P w) callerA (.call (.ref fa) ⟨[.ref a],[]⟩) (CR (L2N.CX P w) [] P w H s₁ (fun v _=>v = .bl true) (fun _ _ _=>False)) s₁) :
  codeAny (model P w) callerA (.call (.ref fa) ⟨[.ref a],[]⟩) (fun r s'=>r = .ok (.ret (.bool true))∧OldK s₁.heap s'.heap∧s'.os=s₁.os∧AllBare s'.gens) s₁:=by
 obtain⟨u0,hu0⟩:∃u0:HO,u0 = .frz {cls:=.type "list",data:=.seq vs.toArray} (.lst (ns.map V.int)):=⟨_,rfl⟩
 -- H tracks the script or nothing
 have step:∀H:Hp,(∀b u,H b=some u→b=a∧u=u0)→(H a≠none→K.lookup a=none)→SqL K H a (ns.map V.int)→HOk P w H s₁.heap →
   codeAny (model P w) callerA (.call (.ref fa) ⟨[.ref a],[]⟩) (fun r s'=>r = .ok (.ret (.bool true))∧OldK s₁.heap s'.heap∧s'.os=s₁.os∧AllBare s'.gens) s₁:=by
  intro H only off sq ok
  have untr:∀b:Addr,b≠a→H b=none:=fun b hb=>by
   cases e:H b with
   |none=>rfl
   |some u=>exact absurd (only b u e).1 hb
  have nsOf:∀{b:Addr} {f:Str→Option Value},s₁.heap.Ns b f→(hidT s₁.heap H).Ns b f:=by
   rintro b f ⟨o,es,ep,e,d,r⟩
   refine⟨o,es,ep,hidT_get e (untr b ?_),d,r⟩
   rintro rfl
   rw[ha] at e
   cases e
   cases (show Data.seq vs.toArray _=Data.dict es ep from d)
  have kb:K.In (hidT s₁.heap H):=by
   intro b o e
   refine hidT_get (inK b o e) ?_
   cases q:H b with
   |none=>rfl
   |some u=>
    have eb:=(only b u q).1
    subst eb
    rw[off (by rw[q];exact fun z=>nomatch z)] at e
    cases e
  obtain⟨mc,l1,l2⟩:=lim
  have md:Mod K mg (hidT s₁.heap H):=⟨kb,nsOf nsG,⟨mb,nsOf nsB,boot⟩,⟨mc,nsOf l1,l2⟩⟩
  have env:Env0 P w K mg (hidT s₁.heap H) callerA [] s₁ H:=⟨rfl,md,fun b o e=>of_hidT e,Nat.le_of_eq (hidT_size _ _),trivial,(fun b hb=>nomatch hb),ok,.of_eq gens⟩
  refine codeAny_mono (go _ H env sq) fun r s' h=>?_
  match r,h with
  |.error e,h=>exact (zxjb H s₁ e s' h).elim
  |.ok .next,h=>exact y7 h
  |.ok .brk,h=>exact y7 h
  |.ok .cont,h=>exact y7 h
  |.ok (.ret u),h=>
   obtain⟨v,Hz,os,bare,un,okz,rv,rfl⟩:=h
   cases rv
   refine⟨rfl,OldK.of_keep fun b o e=>?_,os,bare⟩
   cases q:H b with
   |none=>exact un.keep b o e q (fun z=>nomatch z) (fun z=>nomatch z)
   |some u=>
    have eu:=(only b u q).2
    rw[eu,hu0] at q
    have e1:=(ok b _ q).1
    rw[e] at e1
    cases e1
    exact (okz b _ (un.frzs b _ _ q)).1
 have lenV:=hi.length
 cases hk:K.lookup a with
 |some o=>
  have e:=inK a o hk
  rw[ha] at e
  cases e
  exact step (fun _=>none) (fun _ _ z=>nomatch z) (fun z=>absurd rfl z) (.inr ⟨_,vs.toArray,_,hk,rfl,rfl,rfl,by rw[List.size_toArray,lenV];exact few,by simpa using vals_ints hi⟩) (fun _ _ z=>nomatch z)
 |none=>
  have here:∀b u,(if b=a then some u0 else none)=some u→b=a∧u=u0:=fun b u z=>by
   by_cases hb:b=a
   ·rw[if_pos hb] at z
    exact⟨hb,(ynb z).symm⟩
   ·rw[if_neg hb] at z
    cases z
  refine step (fun b=>if b=a then some u0 else none) here (fun _=>hk) (.inl (.inr ⟨{cls:=.type "list",data:=.seq vs.toArray},?_⟩)) fun b u z=>?_
  ·rw[←hu0]
   exact if_pos rfl
  ·obtain⟨eb,eu⟩:=here b u z
   subst eb
   rw[eu,hu0]
   exact⟨ha,by rw[ye];exact few,vs,_,vals_ints hi,ha⟩
theorem zaeb {l:PySem.W.OpenLaw} {n k:Nat} {q:Program} {loose:List Str} {XP:(Str→Option Value)→Heap→Prop} {YP:World→Heap→Prop} {d:DefRec} {R:DF}
  (hn:l.most=some n) (hn2:n≤sizeLine) (hdf:d.params.defaults=[]) (hr:Room k callerA)
  (hR:∀ns:List Int,ns.length≤n→∃m',R [.d (.fz (ns.map D.int))] [.hp []] = .ok (.d (.bl true)) m')
  (F:∀(w:World) (mg:Str→Option Value) (fa:Addr) (h:Heap),YP w h→h.Ns mainGlobals mg→mg d.name=some (.ref fa) →
    ∃K:PySem.W.Frag,K.In h∧∀base:Heap,FnD l.prog w K mg base k fa R) :
  PySem.W.WalkO q loose XP YP l.row.toRowW d [] (fun f vs=>PySem.call f vs):=by
 refine Att.attach_call hn hdf fun w s₀ s₁ mg mb fa o pm cd doc a vs ns G Y ho hd hcd hmg hobj hints hlen hg=>?_
 obtain⟨K,KX,hF⟩:=F w mg fa _ Y G.T.g hmg
 refine zhlb KX G.T.g G.T.b G.T.builtins G.T.nolimit hg hobj hints (yy hlen hn2) fun base H env sq=>?_
 obtain⟨_,b⟩:=spD_law sq (hR ns hlen)
 exact hF base callerA [] s₁ H [.ref a] [.ref a] _ _ ⟨hr,rfl⟩ env (.cons rfl .nil) b
end DL
namespace DL
open PySem PySem.Spec L2
theorem nr {α : Type} {a b : α} (h:a=b):a=b:=h
/-- as Option.bind; its step is no rfl for the simplifier, so that the kernel does not unfold what follows -/
def ob {α β : Type} (o:Option α) (f : α → Option β):Option β := o.bind f
section
variable {α β : Type}
@[simp] theorem zgib (a : α) (f : α → Option β):ob (some a) f=f a:=nr rfl
@[simp] theorem z7ob (a : α) (m:Mem) (k : α → Mem→Res β):(Res.ok a m).bind k=k a m:=nr rfl
@[simp] theorem zonb (C f:Str) (p:D) (m:Mem) (k : α → Mem→Res β):(Res.exc C f p m).bind k = .exc C f p m:=rfl
@[simp] theorem z3mb (a : α) (m:Mem) (dl:Env) (k : α → Mem→SR):(Res.ok a m).thenS dl k=k a m:=nr rfl
@[simp] theorem zhkb (C f:Str) (p:D) (m:Mem) (dl:Env) (k : α → Mem→SR):(Res.exc C f p m).thenS dl k = .exc dl C f p m:=rfl
@[simp] theorem zb1 (dl:Env) (m:Mem) (b:DS):(SR.nx dl m).seq b=b dl m:=nr rfl
@[simp] theorem zfqb (w:W) (m:Mem) (b:DS):(SR.rt w m).seq b = .rt w m:=rfl
@[simp] theorem zjob (dl:Env) (C f:Str) (p:D) (m:Mem) (b:DS):(SR.exc dl C f p m).seq b = .exc dl C f p m:=rfl
@[simp] theorem zgqb (dl:Env) (m:Mem) (b:DS):(SR.ct dl m).seq b = .ct dl m:=rfl
@[simp] theorem zhqb (dl:Env) (m:Mem) (b:DS):(SR.bk dl m).seq b = .bk dl m:=rfl
@[simp] theorem zxqb (n:Nat) (dl:Env) (m:Mem):fin n (.nx dl m) = .ok (.d .non) (m.take n):=rfl
@[simp] theorem zwqb (n:Nat) (w:W) (m:Mem):fin n (.rt w m)=frz n w m:=rfl
@[simp] theorem z4ob (n:Nat) (dl:Env) (C f:Str) (p:D) (m:Mem):fin n (.exc dl C f p m) = .exc C f p (m.take n):=rfl
@[simp] theorem frz_d (n:Nat) (x:D) (m:Mem):frz n (.d x) m = .ok (.d x) (m.take n):=rfl
end
section
variable (a b c:DE) (s t:DS) (u v:DT) (g:DA) (dl:Env) (m:Mem)
@[simp] theorem zxi:sSeq s t dl m=(s dl m).seq t:=nr rfl
@[simp] theorem zkpb:sRet a dl m=(a dl m).thenS dl fun w m1=>.rt w m1:=nr rfl
@[simp] theorem zznb:sDrop a dl m=(a dl m).thenS dl fun w m1=>.nx dl m1:=nr rfl
@[simp] theorem x_sIf:sIf u s t dl m=(u dl m).thenS dl fun c m1=>if c=true then s dl m1 else t dl m1:=nr rfl
@[simp] theorem zopb (i:Nat):sAsg a (gNm i) dl m=(a dl m).thenS dl fun w m1=>.nx (dl.set i (some w)) m1:=nr rfl
@[simp] theorem x_gNm (i:Nat) (w:W):gNm i w dl=some (dl.set i (some w)):=nr rfl
@[simp] theorem z8pb:eAnd a b dl m=(a dl m).bind fun x m1=>(tru x m1).bind fun c m2=>if c=true then b dl m2 else .ok x m2:=nr rfl
@[simp] theorem zxpb:eNot a dl m=(a dl m).bind fun x m1=>(tru x m1).bind fun c m2=>.ok (.d (.bl (!c))) m2:=nr rfl
@[simp] theorem z3pb (f:Tag→Option Bool):eIsi f a dl m=(a dl m).bind fun x m1=>isiW f x m1:=nr rfl
@[simp] theorem x_eC (d:D):eC d dl m = .ok (.d d) m:=nr rfl
@[simp] theorem x_eOp (f:D→D→Option D):eOp f a b dl m=(a dl m).bind fun x m1=>(b dl m1).bind fun y m2=>lift2 f x y m2:=nr rfl
@[simp] theorem x_eUn (f:D→Option D):eUn f a dl m=(a dl m).bind fun x m1=>lift1 f x m1:=nr rfl
@[simp] theorem x_bT:bT a dl m=(a dl m).bind fun x m1=>tru x m1:=nr rfl
@[simp] theorem zbqb:bNot u dl m=(u dl m).bind fun c m1=>.ok (!c) m1:=nr rfl
@[simp] theorem zcqb:bAnd u v dl m=(u dl m).bind fun c m1=>if c=true then v dl m1 else .ok false m1:=nr rfl
@[simp] theorem x_bOr:bOr u v dl m=(u dl m).bind fun c m1=>if c=true then .ok true m1 else v dl m1:=nr rfl
@[simp] theorem zymb (f f':D→D→Option D):zqp f f' a b c dl m=(a dl m).bind fun x m1=>(b dl m1).bind fun y m2=>(lift2 f x y m2).bind fun z m3=>(tru z m3).bind fun k m4=>if k=true then (c dl m4).bind fun w m5=>lift2 f' y w m5 else .ok (.d (.bl false)) m4:=nr rfl
@[simp] theorem zdqb:aNil dl m = .ok [] m:=nr rfl
@[simp] theorem zcob:aCons a g dl m=(a dl m).bind fun x m1=>(g dl m1).bind fun xs m2=>.ok (x::xs) m2:=nr rfl
@[simp] theorem x_eFn (F:DF):eFn F g dl m=(g dl m).bind F:=nr rfl
@[simp] theorem zqpb (n:Nat) (F:DF) (ws:List W):lenF n F ws m=if ws.length=n then F ws m else .no:=nr rfl
@[simp] theorem zvpb:eTup g dl m=(g dl m).bind mkTup:=nr rfl
@[simp] theorem z0pb:eLst g dl m=(g dl m).bind mkLst:=nr rfl
@[simp] theorem z5pb:eCel g dl m=(g dl m).bind mkCel:=nr rfl
@[simp] theorem x_eIf:eIf u a b dl m=(u dl m).bind fun c m1=>if c=true then a dl m1 else b dl m1:=nr rfl
@[simp] theorem zppb (n:Nat) (ws:List W):runF n s ws m=fin m.length (s (z1k n ws) m):=nr rfl
@[simp] theorem ztmb (n:Nat) (ws:List W):z1k n ws=ws.map some++yn (n-ws.length) none:=nr rfl
@[simp] theorem x_eB (f:List D→Option D):eB f g dl m=(g dl m).bind fun ws m1=>liftA f ws m1:=nr rfl
@[simp] theorem x_eBM (T:String) (f:D→List D→Option D):eBM T f a g dl m=(a dl m).bind fun x m1=>if isTy T x m1=true then (g dl m1).bind fun ws m2=>liftM f x ws m2 else .no:=nr rfl
@[simp] theorem z4pb (Cs:List Str) (f:Str):eFld Cs f a dl m=(a dl m).bind fun x m1=>lift1 (fldD Cs f) x m1:=nr rfl
@[simp] theorem z3nb (C:Str) (F:DF):eProp C F a dl m=(a dl m).bind fun x m1=>propW C F x m1:=nr rfl
@[simp] theorem zspb:iSeq a dl m=(a dl m).bind zrq:=nr rfl
@[simp] theorem ztpb:iEnu g dl m=(g dl m).bind enumW:=nr rfl
@[simp] theorem zaqb:bYes dl m = .ok true m:=nr rfl
@[simp] theorem zmpb (f:DI) (h:DG):sFor f h s dl m=(f dl m).thenS dl fun items m1=>loopD h s items dl m1:=nr rfl
@[simp] theorem x_eLc (f:DI) (h:DG) (vs:List Nat):eLc f h u a vs dl m=(f dl m).bind fun items m1=>(compD h u a (wipeD dl vs) items [] m1).bind fun acc m2=>.ok (.d (.lst acc)) m2:=nr rfl
@[simp] theorem ztnb:wipeD dl []=dl:=nr rfl
@[simp] theorem zsnb (i:Nat) (vs:List Nat):wipeD dl (i::vs)=(wipeD dl vs).set i none:=nr rfl
@[simp] theorem zckb (d:D):zj7 a d dl m=(a dl m).bind fun x m1=>zw6 x d m1:=nr rfl
@[simp] theorem z1nb:oNone dl m = .ok none m:=nr rfl
def oW (w:W) (m:Mem):Res (Option Int):=match w with
 |.d (.int i)=>.ok (some i) m
 |_=>.no
@[simp] theorem z0nb:oSome a dl m=(a dl m).bind oW:=nr rfl
@[simp] theorem x_oW (i:Int):oW (.d (.int i)) m = .ok (some i) m:=nr rfl
@[simp] theorem x_eSl (lo hi:DO):eSl a lo hi dl m=(a dl m).bind fun x m1=>(lo dl m1).bind fun l m2=>(hi dl m2).bind fun u m3=>slW x l u m3:=nr rfl
@[simp] theorem zxnb (Cs:List Str) (f:Str):sFldS Cs f a b dl m=(a dl m).thenS dl fun y m1=>(b dl m1).thenS dl fun o m2=>(match sFldW Cs f y o m2 with
 |some m3=>.nx dl m3
 |none=>.no):=nr rfl
@[simp] theorem zzmb:zuo a dl m=(a dl m).bind starW:=nr rfl
def vW (o:Option (Option W)) (m:Mem):Res W:=match o with
 |some (some w)=>.ok w m
 |_=>.no
@[simp] theorem zupb (i:Nat):eVar i dl m=vW (dl[i]?) m:=nr rfl
@[simp] theorem x_vW (w:W):vW (some (some w)) m = .ok w m:=nr rfl
end
@[simp] theorem zjpb:tagD .non=some (.bt "NoneType"):=nr rfl
@[simp] theorem zipb (b:Bool):tagD (.bl b)=some (.bt "bool"):=nr rfl
@[simp] theorem zhpb (i:Int):tagD (.int i)=some (.bt "int"):=nr rfl
@[simp] theorem zgpb (x:Str):tagD (.str x)=some (.bt "str"):=nr rfl
@[simp] theorem zfpb (xs:List D):tagD (.lst xs)=some (.bt "list"):=nr rfl
@[simp] theorem zepb (xs:List D):tagD (.tup xs)=some (.bt "tuple"):=nr rfl
@[simp] theorem zdpb (C:Str) (ns:List Str) (xs:List D):tagD (.obj C ns xs)=some (.own C):=nr rfl
@[simp] theorem zcpb (xs:List D):tagD (.fz xs)=some (.bt "list"):=nr rfl
@[simp] theorem x_cel (xs:List D):Cell.toD (.lst xs) = .lst xs:=nr rfl
@[simp] theorem z9pb (C:Str) (ns:List Str) (xs:List D):Cell.toD (.obj C ns xs) = .obj C ns xs:=nr rfl
/-- what a reckoned value gives -/
def ofO (o:Option D) (m:Mem):Res W:=match o with
 |some z=>.ok (.d z) m
 |none=>.no
def ofB (o:Option Bool) (m:Mem):Res Bool:=match o with
 |some z=>.ok z m
 |none=>.no
@[simp] theorem zzeb (z:D) (m:Mem):ofO (some z) m = .ok (.d z) m:=rfl
@[simp] theorem z6mb (z:Bool) (m:Mem):ofB (some z) m = .ok z m:=rfl
@[simp] theorem rd_d (x:D) (m:Mem):W.rd (.d x) m=some x:=rfl
@[simp] theorem rd_c (k:Nat) (m:Mem):W.rd (.c k) m=(m[k]?).map Cell.toD:=rfl
@[simp] theorem zfnb (g:D→Option D) (x:W) (m:Mem):lift1 g x m=ofO (ob (x.rd m) g) m:=by
 unfold lift1
 cases x.rd m with
 |none=>rfl
 |some a=>show (match g a with |some z=>Res.ok (W.d z) m |none=>.no)=ofO (g a) m;cases g a <;> rfl
@[simp] theorem zcfb (g:D→D→Option D) (x y:W) (m:Mem):lift2 g x y m=ofO (ob (x.rd m) fun a=>ob (y.rd m) (g a)) m:=by
 unfold lift2
 cases x.rd m with
 |none=>rfl
 |some a=>
  cases y.rd m with
  |none=>rfl
  |some b=>show (match g a b with |some z=>Res.ok (W.d z) m |none=>.no)=ofO (g a b) m;cases g a b <;> rfl
@[simp] theorem zct (x:W) (m:Mem):tru x m=ofB (ob (x.rd m) truD) m:=by
 unfold tru
 cases x.rd m with
 |none=>rfl
 |some a=>show (match truD a with |some z=>Res.ok z m |none=>.no)=ofB (truD a) m;cases truD a <;> rfl
@[simp] theorem zfob (b:Bool):truD (.bl b)=some b:=rfl
@[simp] theorem z2mb (i:Int):truD (.int i)=some (i != 0):=rfl
@[simp] theorem zcp (isf:Tag→Option Bool) (x:W) (m:Mem):isiW isf x m=ofO (ob (x.rd m) fun d=>ob (tagD d) fun t=>(isf t).map D.bl) m:=by
 unfold isiW
 cases x.rd m with
 |none=>rfl
 |some d=>
  show (match tagD d with |some t=>(match isf t with |some b=>Res.ok (W.d (.bl b)) m |none=>.no) |none=>.no)=ofO (ob (tagD d) fun t=>(isf t).map D.bl) m
  cases tagD d with
  |none=>rfl
  |some t=>show (match isf t with |some b=>Res.ok (W.d (.bl b)) m |none=>.no)=ofO ((isf t).map D.bl) m;cases isf t <;> rfl
@[simp] theorem zpkb (m:Mem):rdAll [] m=some []:=rfl
@[simp] theorem z8jb (w:W) (ws:List W) (m:Mem):rdAll (w::ws) m=ob (w.rd m) fun x=>(rdAll ws m).map (x :: ·):=by
 rw[rdAll]
 cases w.rd m with
 |none=>rfl
 |some x=>cases rdAll ws m <;> rfl
@[simp] theorem zenb (g:List D→Option D) (ws:List W) (m:Mem):liftA g ws m=ofO (ob (rdAll ws m) g) m:=by
 unfold liftA
 cases rdAll ws m with
 |none=>rfl
 |some xs=>show (match g xs with |some z=>Res.ok (W.d z) m |none=>.no)=ofO (g xs) m;cases g xs <;> rfl
@[simp] theorem zdnb (g:D→List D→Option D) (x:W) (ws:List W) (m:Mem):liftM g x ws m=ofO (ob (x.rd m) fun d=>ob (rdAll ws m) (g d)) m:=by
 unfold liftM
 cases x.rd m with
 |none=>rfl
 |some d=>
  cases rdAll ws m with
  |none=>rfl
  |some xs=>show (match g d xs with |some z=>Res.ok (W.d z) m |none=>.no)=ofO (g d xs) m;cases g d xs <;> rfl
@[simp] theorem zpqb (T:String) (x:D) (m:Mem):isTy T (.d x) m=tyD T x:=rfl
@[simp] theorem zdob (x:Str):tyD "str" (.str x)=true:=rfl
@[simp] theorem zeob (xs:List D):tyD "list" (.lst xs)=true:=rfl
@[simp] theorem zbkb:z5g []=some []:=rfl
@[simp] theorem zt7 (x:D) (ws:List W):z5g (.d x::ws)=(z5g ws).map (x :: ·):=by
 rw[z5g]
 cases z5g ws <;> rfl
@[simp] theorem zbnb (ws:List W) (m:Mem):mkTup ws m=ofO (ob (z5g ws) fun xs=>if xs.length≤sizeLine then some (.tup xs) else none) m:=by
 unfold mkTup
 cases z5g ws with
 |none=>rfl
 |some xs=>show (if xs.length≤sizeLine then Res.ok (W.d (.tup xs)) m else .no)=ofO (if xs.length≤sizeLine then some (.tup xs) else none) m;split <;> rfl
@[simp] theorem zcnb (ws:List W) (m:Mem):mkLst ws m=ofO (ob (z5g ws) fun xs=>if xs.length≤sizeLine then some (.lst xs) else none) m:=by
 unfold mkLst
 cases z5g ws with
 |none=>rfl
 |some xs=>show (if xs.length≤sizeLine then Res.ok (W.d (.lst xs)) m else .no)=ofO (if xs.length≤sizeLine then some (.lst xs) else none) m;split <;> rfl
@[simp] theorem sz1:(1:Nat)≤sizeLine:=by decide
@[simp] theorem sz2:(2:Nat)≤sizeLine:=by decide
@[simp] theorem sz3:(3:Nat)≤sizeLine:=by decide
def ixW (t:Tbl) (x y:W) (m:Mem):Res W:=match clsOf x m with
 |some C=>(match look t C with
  |some F=>F [x,y] m
  |none=>.no)
 |none=>lift2 ixD x y m
@[simp] theorem z8gb (t:Tbl) (a b:DE) (dl:Env) (m:Mem):eIx t a b dl m=(a dl m).bind fun x m1=>(b dl m1).bind fun y m2=>ixW t x y m2:=rfl
@[simp] theorem ztob (t:Tbl) (z:Str) (y:D) (m:Mem):ixW t (.d (.str z)) (.d y) m=ofO (ixD (.str z) y) m:=by unfold ixW clsOf;simp
@[simp] theorem zvob (t:Tbl) (z:List D) (y:D) (m:Mem):ixW t (.d (.lst z)) (.d y) m=ofO (ixD (.lst z) y) m:=by unfold ixW clsOf;simp
@[simp] theorem zlqb (t:Tbl) (z:List D) (y:D) (m:Mem):ixW t (.d (.fz z)) (.d y) m=ofO (ixD (.fz z) y) m:=by unfold ixW clsOf;simp
@[simp] theorem zsob (t:Tbl) (z:List D) (y:D) (m:Mem):ixW t (.d (.tup z)) (.d y) m=ofO (ixD (.tup z) y) m:=by unfold ixW clsOf;simp
@[simp] theorem zuob (t:Tbl) (C:Str) (ns:List Str) (ds:List D) (y:W) (m:Mem):ixW t (.d (.obj C ns ds)) y m=(match look t C with
  |some F=>F [.d (.obj C ns ds),y] m
  |none=>.no):=rfl
@[simp] theorem zxob (z:List D) (i:Int):ixD (.lst z) (.int i)=atI z i:=rfl
@[simp] theorem zoqb (z:List D) (i:Int):ixD (.fz z) (.int i)=atI z i:=rfl
@[simp] theorem zwob (z:List D) (i:Int):ixD (.tup z) (.int i)=atI z i:=rfl
theorem atI_nat {α : Type} (z:List α) (i:Nat):atI z (i:Int)=z[i]?:=by
 unfold atI ixN
 rw[if_pos (by omega)]
 by_cases h:i<z.length
 ·rw[if_pos (by omega)]
  simp
 ·rw[if_neg (by omega)]
  simp
  omega
@[simp] theorem zrnb {α : Type} (z:List α):atI z 0=z[0]?:=atI_nat z 0
@[simp] theorem z9ob {α : Type} (z:List α):atI z 1=z[1]?:=atI_nat z 1
@[simp] theorem z8ob {α : Type} (z:List α):atI z 2=z[2]?:=atI_nat z 2
@[simp] theorem znmb {α : Type} (z:List α):atI z 3=z[3]?:=atI_nat z 3
def lnW (t:Tbl) (x:W) (m:Mem):Res W:=match clsOf x m with
 |some C=>(match look t C with
  |some F=>lenI (F [x] m)
  |none=>.no)
 |none=>liftA lenD [x] m
@[simp] theorem z6ob (t:Tbl) (a:DE) (dl:Env) (m:Mem):eLen t (aCons a aNil) dl m=(a dl m).bind fun x m1=>lnW t x m1:=by
 unfold eLen aCons aNil
 cases a dl m <;> rfl
@[simp] theorem zqob (t:Tbl) (z:Str) (m:Mem):lnW t (.d (.str z)) m=ofO (lenD [.str z]) m:=by unfold lnW clsOf;simp
@[simp] theorem zx6 (t:Tbl) (z:List D) (m:Mem):lnW t (.d (.lst z)) m = .ok (.d (.int z.length)) m:=by unfold lnW clsOf;simp;rfl
@[simp] theorem zkqb (t:Tbl) (z:List D) (m:Mem):lnW t (.d (.fz z)) m = .ok (.d (.int z.length)) m:=by unfold lnW clsOf;simp;rfl
@[simp] theorem zpob (t:Tbl) (z:List D) (m:Mem):lnW t (.d (.tup z)) m = .ok (.d (.int z.length)) m:=by unfold lnW clsOf;simp;rfl
@[simp] theorem zrob (t:Tbl) (C:Str) (ns:List Str) (ds:List D) (m:Mem):lnW t (.d (.obj C ns ds)) m=(match look t C with
  |some F=>lenI (F [.d (.obj C ns ds)] m)
  |none=>.no):=rfl
@[simp] theorem zadb (t:Tbl) (a:DE) (dl:Env) (m:Mem):eStr t (aCons a aNil) dl m=(a dl m).bind fun x m1=>(match clsOf x m1 with
  |some C=>(match look t C with
   |some F=>strI (F [x] m1)
   |none=>.no)
  |none=>liftA strD [x] m1):=by
 unfold eStr aCons aNil
 cases a dl m <;> rfl
@[simp] theorem zvz (C:Str) (ns:List Str) (ds:List D) (m:Mem):clsOf (.d (.obj C ns ds)) m=some C:=rfl
@[simp] theorem z5mb (x:Str) (m:Mem):strI (.ok (.d (.str x)) m) = .ok (.d (.str x)) m:=rfl
@[simp] theorem zwx (C:Str) (F:DF) (r:Tbl):look ((C,F)::r) C=some F:=by unfold look;rw[if_pos rfl]
@[simp] theorem zkt (C:Str) (F:DF) (ns:List Str) (ds:List D) (m:Mem):propW C F (.d (.obj C ns ds)) m=noExc (F [.d (.obj C ns ds)] m):=by unfold propW;rw[zvz,if_pos rfl]
@[simp] theorem z7mb (w:W) (m:Mem):noExc (.ok w m) = .ok w m:=rfl
@[simp] theorem z0qb (C:Str) (b:Bool) (F:DF) (f:DA) (m:Mem) (dl:Env):eCm C b F (eC (.cls C)) f dl m=(f dl m).bind fun ws m2=>F (if b=true then .d (.cls C)::ws else ws) m2:=by
 show (if C=C then (f dl m).bind fun ws m2=>F (if b=true then .d (.cls C)::ws else ws) m2 else .no)=_
 rw[if_pos rfl]
@[simp] theorem zzqb (C:Str) (F:DF) (f:DA) (m:Mem) (dl:Env):eMk C F (eC (.cls C)) f dl m=(f dl m).bind fun ws m2=>makeW C F ws m2:=by
 show (if C=C then (f dl m).bind fun ws m2=>makeW C F ws m2 else .no)=_
 rw[if_pos rfl]
@[simp] theorem zlkb (xs:List D) (m:Mem):starW (.d (.lst xs)) m = .ok (xs.map W.d) m:=rfl
@[simp] theorem zkkb (xs:List D) (m:Mem):starW (.d (.tup xs)) m = .ok (xs.map W.d) m:=rfl
@[simp] theorem zmgb (xs:List D) (m:Mem):zrq (.d (.lst xs)) m = .ok xs m:=rfl
@[simp] theorem zlgb (xs:List D) (m:Mem):zrq (.d (.tup xs)) m = .ok xs m:=rfl
@[simp] theorem zwhb (xs:List D) (m:Mem):zrq (.d (.fz xs)) m = .ok xs m:=rfl
@[simp] theorem z0lb (xs:List D) (m:Mem):enumW [.d (.lst xs)] m = .ok (enumD xs) m:=rfl
@[simp] theorem slW_d (x:D) (lo hi:Option Int) (m:Mem):slW (.d x) lo hi m=ofO (slD x lo hi) m:=by
 unfold slW
 simp only[rd_d]
 cases slD x lo hi <;> rfl
def rngW (ws:List W) (m:Mem):Res (List D):=match ws with
 |[.d (.int j)]=>if -(2 ^ 62)≤j∧j<2 ^ 62 then .ok (rngD 0 j.toNat) m else .no
 |_=>.no
def rngB (r:Res (List W)):Res (List D):=r.bind rngW
@[simp] theorem z9jb (f:DA) (dl:Env) (m:Mem):zfv f dl m=rngB (f dl m):=nr rfl
@[simp] theorem gt_int (i j:Int):gtD (.int i) (.int j)=some (.bl (decide (j<i))):=rfl
@[simp] theorem ge_int (i j:Int):geD (.int i) (.int j)=some (.bl (decide (j≤i))):=rfl
@[simp] theorem lt_int (i j:Int):ltD (.int i) (.int j)=some (.bl (decide (i<j))):=rfl
@[simp] theorem le_int (i j:Int):leD (.int i) (.int j)=some (.bl (decide (i≤j))):=rfl
@[simp] theorem add_int (i j:Int):addD (.int i) (.int j)=some (.int (i+j)):=rfl
@[simp] theorem sub_int (i j:Int):subD (.int i) (.int j)=some (.int (i-j)):=rfl
@[simp] theorem neg_int (i:Int):negD (.int i)=some (.int (-i)):=rfl
@[simp] theorem int_int (i:Int):intD [.int i]=some (.int i):=rfl
@[simp] theorem zz3 (i:Int):absD [.int i]=some (.int (if i<0 then -i else i)):=rfl
@[simp] theorem zfkb (xs:List D):zxo [.lst xs]=some (.tup xs):=rfl
@[simp] theorem zekb (xs:List D):zxo [.tup xs]=some (.tup xs):=rfl
def okD (x:D):Bool:=match toP x with
 |some p=>SeqAt.shaped p
 |none=>false
theorem z7ab {a:List Nat} (h:∀c∈a,c<1114112):PyData.strOk (SX.S a)=true:=by
 unfold PyData.strOk
 rw[←Array.all_toList,yxb]
 exact fun c hc=>decide_eq_true (h c hc)
@[simp] theorem zk (x y:Str):eqD (.str x) (.str y)=some (.bl (decide (x=y))):=nr rfl
@[simp] theorem zf2 (x y:Str):neD (.str x) (.str y)=some (.bl (!decide (x=y))):=nr rfl
end DL
namespace DL
open PySem PySem.Spec L2
open PyProof.Rows hiding St
open Evl (Ex)
/-- data whose text can be told, with n signs beside it -/
def shOk (n:Nat) (p:PyData):Bool:=p.showable&&(!p.hasDict&&(decide (p.depth≤60)&&decide (p.shown.length+n≤sizeLine)))
mutual
theorem Dp.ext {K:Fg} {H H':Hp} (e:Ex H H'):∀{v:V} {p:PyData},Dp K H v p→Dp K H' v p
 |_,_,.non=>.non
 |_,_,.bl b=>.bl b
 |_,_,.int i=>.int i
 |_,_,.str x=>.str x
 |_,_,.lst h r=>.lst (yud e h) (DpAll.ext e r)
 |_,_,.tup h r=>.tup (ybd e h) (DpAll.ext e r)
theorem DpAll.ext {K:Fg} {H H':Hp} (e:Ex H H'):∀{v:List V} {p:List PyData},DpAll K H v p→DpAll K H' v p
 |_,_,.nil=>.nil
 |_,_,.cons h r=>.cons (Dp.ext e h) (DpAll.ext e r)
end
section
variable {X:Cx} {Wx:WX}
def raW (C f:Str) (n:Nat) (dl:Env) (w:W) (m:Mem):SR:=match w with
 |.d x=>(match toP x with
  |some p=>if shOk n p=true then .exc dl C f x m else .no
  |none=>.no)
 |_=>.no
def zvf (C f:Str) (n:Nat) (fe:DE):DS:=fun dl m=>(fe dl m).thenS dl fun w m1=>raW C f n dl w m1
end
def tagIn (ts:List String) (C:Str):Option Tag→Bool
 |some (.bt n)=>decide (n∈ts)
 |some (.own C')=>decide (C'=C)
 |none=>false
def tagOf (y:W) (m:Mem):Option Tag:=match y.rd m with
 |some d=>tagD d
 |none=>none
def bopW (ts:List String) (t:Tbl) (g:D→D→Option D) (x y:W) (m:Mem):Res W:=match clsOf x m with
 |some C=>(match look t C with
  |some F=>if tagIn ts C (tagOf y m)=true then F [x,y] m else .no
  |none=>.no)
 |none=>lift2 g x y m
def eBop (ts:List String) (t:Tbl) (g:D→D→Option D) (a b:DE):DE:=fun dl m=>(a dl m).bind fun x m1=>(b dl m1).bind fun y m2=>bopW ts t g x y m2
section
variable {X:Cx} {Wx:WX}
/-- -x -/
def negW (t:Tbl) (x:W) (m:Mem):Res W:=match clsOf x m with
 |some C=>(match look t C with
  |some F=>F [x] m
  |none=>.no)
 |none=>lift1 negD x m
def eNeg (t:Tbl) (a:DE):DE:=fun dl m=>(a dl m).bind fun x m1=>negW t x m1
end
end DL
namespace DL
open PySem PySem.Spec L2
open PyProof.Rows hiding St
open PySem.W (Frag)
def oexB (K:Frag) (C:Addr):Bool:=match K.lookup C with
 |some ⟨.type "type",_,.cls cd,sl⟩=>(match cd.mro,sl.toList with
  |.ref C'::bm,[_,_,_,_,some (.builtin n),_]=>C'==C&&(n == "ValueError.__new__" && (!cd.hasDel&&(cd.hasDict&&PySem.HandSPX.refsVE bm)))
  |_,_=>false)
 |_=>false
def fErr (C f:Str):Frag→Bool:=fun K=>oexB K (He.ga K C)&&(He.eqO (yh K (.ref (He.ga K C)) "__setattr__") (some (some (.builtin "object.__setattr__")))&&(decide (yrb K (.ref (He.ga K C)) (.type "BaseException")=some true) &&
 (decide (ytc K (.ref (He.ga K C))=some (.type "type"))&&(ym K (.ref (He.ga K C))&&(He.eqO (yh K (.ref (He.ga K C)) "__init__") (some (some (.ref (He.ma K (He.ga K C) "__init__")))) &&
 (decide (ytc K (.ref (He.ma K (He.ga K C) "__init__"))=some (.type "function"))&&He.eqO (yh K (.ref (He.ga K C)) f) (some none)))))))
def fVe:Frag→Bool:=fun K=>match y4b K (.type "ValueError") (.type "type") "__init__" with
 |some (.val (.builtin n))=>n == "ValueError.__init__"
 |_=>false
def isP:Option (Option Value)→Bool
 |some none=>true
 |some (some (.ref _))=>true
 |_=>false
def bopTB (K:Frag) (C:Addr) (nm T:String):Bool:=(yh K (.type T) (y5 nm)).isSome&&((yh K (.type T) (dunderR nm)).isSome&&decide (yrb K (.type T) (.ref C)=some false))
/-- C's own method m for op, the types ts on its right -/
def fBop (C m:Str) (op:Operator) (ts:List String):Frag→Bool:=fun K=>decide (m=y5 op.info.2)&&(fOwn C m K&&(yyb K (He.ga K C)&&(isP (yh K (.ref (He.ga K C)) (dunderR op.info.2))&&(fIsiC C K&&ts.all fun T=>bopTB K (He.ga K C) op.info.2 T))))
end DL
namespace DL
open PySem PySem.Spec L2
open PyProof.Rows hiding St
open Evl (Ex)
section
variable {X:Cx} {Wx:WX}
def chrD (x:Str):List D:=x.cps.toList.map fun c=>.str ⟨#[c]⟩
def zrx (w:W) (m:Mem):Res (List D):=match w with
 |.d (.str x)=>.ok (chrD x) m
 |_=>.no
def iTxt (f:DE):DI:=fun dl m=>(f dl m).bind zrx
end
section
variable (i n:Nat) (C:Str) (Es:List Str) (h:DS) (dl:Env) (m:Mem) (w:W)
@[simp] theorem zumb (f:Str) (e:DE):zvf C f n e dl m=(e dl m).thenS dl fun w m1=>raW C f n dl w m1:=nr rfl
/-- what an error may tell -/
def reOk (n:Nat) (x:D):Bool:=match toP x with
 |some p=>shOk n p
 |none=>false
@[simp] theorem raW_d (f:Str) (x:D):raW C f n dl (.d x) m=if reOk n x=true then .exc dl C f x m else .no:=by
 unfold raW reOk
 simp only[]
 cases toP x with
 |none=>rfl
 |some p=>rfl
@[simp] theorem zlpb (i j:Nat) (g:DA):sPar i j g dl m=(g dl m).thenS dl fun ws m1=>(match ws with
 |[v,w]=>.nx ((dl.set i (some v)).set j (some w)) m1
 |_=>.no):=nr rfl
@[simp] theorem zrpb (a:DE):iTxt a dl m=(a dl m).bind zrx:=nr rfl
@[simp] theorem zkgb (x:Str):zrx (.d (.str x)) m = .ok (chrD x) m:=nr rfl
@[simp] theorem z6pb (ts:List String) (t:Tbl) (g:D→D→Option D) (a b:DE):eBop ts t g a b dl m=(a dl m).bind fun x m1=>(b dl m1).bind fun y m2=>bopW ts t g x y m2:=nr rfl
@[simp] theorem zmnb (ts:List String) (t:Tbl) (g:D→D→Option D) (ns:List Str) (ds:List D) (y:W):bopW ts t g (.d (.obj C ns ds)) y m=(match look t C with
  |some F=>if tagIn ts C (tagOf y m)=true then F [.d (.obj C ns ds),y] m else .no
  |none=>.no):=nr rfl
@[simp] theorem znnb (ts:List String) (t:Tbl) (g:D→D→Option D) (j:Int) (y:W):bopW ts t g (.d (.int j)) y m=lift2 g (.d (.int j)) y m:=nr rfl
@[simp] theorem zlnb (ts:List String) (t:Tbl) (g:D→D→Option D) (j:Str) (y:W):bopW ts t g (.d (.str j)) y m=lift2 g (.d (.str j)) y m:=nr rfl
@[simp] theorem ziob (x:D):tagOf (.d x) m=tagD x:=nr rfl
@[simp] theorem z4mb (ts:List String) (s:String):tagIn ts C (some (.bt s))=decide (s∈ts):=nr rfl
@[simp] theorem za4 (ts:List String):tagIn ts C (some (.own C))=true:=by unfold tagIn;simp
@[simp] theorem zypb (t:Tbl) (a:DE):eNeg t a dl m=(a dl m).bind fun x m1=>negW t x m1:=nr rfl
@[simp] theorem z8mb (t:Tbl) (ns:List Str) (ds:List D):negW t (.d (.obj C ns ds)) m=(match look t C with
  |some F=>F [.d (.obj C ns ds)] m
  |none=>.no):=nr rfl
end
def eqoW (ts:List String) (t:Tbl) (neg:Bool) (x y:W) (m:Mem):Res W:=match clsOf x m with
 |some C=>(match look t C with
  |some F=>if tagIn ts C (tagOf y m)=true then (F [x,y] m).bind fun r m1=>(match r with
    |.d (.bl b)=>.ok (.d (.bl (if neg then !b else b))) m1
    |_=>.no) else .no
  |none=>.no)
 |none=>lift2 (if neg then neD else eqD) x y m
def eOpW (h:W→W→Mem→Res W) (a b:DE):DE:=fun dl m=>(a dl m).bind fun x m1=>(b dl m1).bind fun y m2=>h x y m2
section
variable {X:Cx} {Wx:WX}
/-- o.m(e, .., k = v, ..) -/
def zk9 (C m:Str) (nk:Nat) (F:DF) (a:DE) (f fk:DA):DE:=fun dl mm=>(a dl mm).bind fun x m1=>if hasNo C m x m1=true then (f dl m1).bind fun ws m2=>(fk dl m2).bind fun zs m3=>if zs.length=nk then F (x::(ws++zs)) m3 else .no else .no
end
def fEq (C:Str) (ts:List String):Fg→Bool:=fun K=>fOwn C "__eq__" K&&(He.eqO (yh K (.ref (He.ga K C)) "__ne__") (some (some (.builtin "object.__ne__")))&&(fIsiC C K&&ts.all fun T=>yrd K (He.ga K C) (.type T)))
section
variable (dl:Env) (m:Mem) (C:Str)
@[simp] theorem zwpb (h:W→W→Mem→Res W) (a b:DE):eOpW h a b dl m=(a dl m).bind fun x m1=>(b dl m1).bind fun y m2=>h x y m2:=nr rfl
def blOf (neg:Bool) (r:W) (m:Mem):Res W:=match r with
 |.d (.bl b)=>.ok (.d (.bl (if neg then !b else b))) m
 |_=>.no
@[simp] theorem z1qb (b:Bool):blOf true (.d (.bl b)) m = .ok (.d (.bl (!b))) m:=nr rfl
@[simp] theorem z2qb (b:Bool):blOf false (.d (.bl b)) m = .ok (.d (.bl b)) m:=nr rfl
@[simp] theorem z6t (ts:List String) (t:Tbl) (neg:Bool) (ns:List Str) (ds:List D) (y:W):eqoW ts t neg (.d (.obj C ns ds)) y m=(match look t C with
  |some F=>if tagIn ts C (tagOf y m)=true then (F [.d (.obj C ns ds),y] m).bind (blOf neg) else .no
  |none=>.no):=nr rfl
@[simp] theorem zxmb (n:Str) (nk:Nat) (F:DF) (a:DE) (f fk:DA):zk9 C n nk F a f fk dl m=(a dl m).bind fun x m1=>if hasNo C n x m1=true then (f dl m1).bind fun ws m2=>(fk dl m2).bind fun zs m3=>if zs.length=nk then F (x::(ws++zs)) m3 else .no else .no:=nr rfl
@[simp] theorem z5nb (n:Str) (F:DF) (a:DE) (f:DA):eMeth C n F a f dl m=(a dl m).bind fun x m1=>if hasNo C n x m1=true then (f dl m1).bind fun ws m2=>F (x::ws) m2 else .no:=nr rfl
@[simp] theorem zucb (C' n:Str) (ns:List Str) (ds:List D):hasNo C n (.d (.obj C' ns ds)) m=(decide (C'=C) && !ns.contains n):=nr rfl
@[simp] theorem z9mb (t:Tbl) (i:Int):negW t (.d (.int i)) m = .ok (.d (.int (-i))) m:=nr rfl
end
section
variable {X:Cx} {Wx:WX}
def eMkK (C:Str) (nk:Nat) (F:DF) (a:DE) (f fk:DA):DE:=fun dl m=>(a dl m).bind fun x m1=>match x with
 |.d (.cls C')=>if C'=C then (f dl m1).bind fun ws m2=>(fk dl m2).bind fun zs m3=>if zs.length=nk then makeW C F (ws++zs) m3 else .no else .no
 |_=>.no
end
@[simp] theorem zzpb (C:Str) (nk:Nat) (F:DF) (C':Str) (f fk:DA) (dl:Env) (m:Mem):eMkK C nk F (eC (.cls C')) f fk dl m=if C'=C then (f dl m).bind fun ws m2=>(fk dl m2).bind fun zs m3=>if zs.length=nk then makeW C F (ws++zs) m3 else .no else .no:=nr rfl
def W.hw:W→Option HW
 |.d x=>some (.d x)
 |.h i=>some (.h i)
 |_=>none
def hwAll:List W→Option (List HW)
 |[]=>some []
 |w::ws=>(match w.hw with
  |some h=>(match hwAll ws with
   |some hs=>some (h::hs)
   |none=>none)
  |none=>none)
/-- a new thing of the heap -/
def newH (c:HC) (m:Mem):Res W:=.ok (.h (heapOf m).length) (hset m (heapOf m++[c]))
def zjw (ws:List W) (m:Mem):Res W:=match hwAll ws with
 |some hs=>if hs.length≤sizeLine then newH (.lst hs) m else .no
 |none=>.no
def eLstH (f:DA):DE:=fun dl m=>(f dl m).bind zjw
section
variable {X:Cx} {Wx:WX}
/-- where a list lies that may change -/
inductive Loc where
 |c (k:Nat) |h (i:Nat)
def W.loc:W→Option Loc
 |.c k=>some (.c k)
 |.h i=>some (.h i)
 |_=>none
def datH:List HW→Option (List D)
 |[]=>some []
 |.d x::ws=>(match datH ws with
  |some xs=>some (x::xs)
  |none=>none)
 |.h _::_=>none
def Loc.get:Loc→Mem→Option (List HW)
 |.c k,m=>(match m[k]? with
  |some (.lst ds)=>some (ds.map HW.d)
  |_=>none)
 |.h i,m=>(match (heapOf m)[i]? with
  |some (.lst ws)=>some ws
  |_=>none)
def Loc.put:Loc→List HW→Mem→Option Mem
 |.c k,ws,m=>(match datH ws with
  |some ds=>some (m.set k (.lst ds))
  |none=>none)
 |.h i,ws,m=>some (hset m ((heapOf m).set i (.lst ws)))
/-- xs[i] = e by values -/
def setLW (y o i:W) (m:Mem):Option Mem:=match o.loc,y.hw,i with
 |some l,some h,.d (.int j)=>(match l.get m with
  |some ws=>(match ixN ws.length j with
   |some n=>l.put (ws.set n h) m
   |none=>none)
  |none=>none)
 |_,_,_=>none
def sSetL (e a b:DE):DS:=fun dl m=>(e dl m).thenS dl fun y m1=>(a dl m1).thenS dl fun o m2=>(b dl m2).thenS dl fun i m3=>match setLW y o i m3 with
 |some m4=>.nx dl m4
 |none=>.no
/-- o[i] = e by the own __setitem__ of o's class, or of a list -/
def setOW (t:Tbl) (y o i:W) (m:Mem):Res W:=match clsOf o m with
 |some C=>(match look t C with
  |some F=>F [o,i,y] m
  |none=>.no)
 |none=>(match setLW y o i m with
  |some m'=>.ok (.d .non) m'
  |none=>.no)
def sSetO (t:Tbl) (e a b:DE):DS:=fun dl m=>(e dl m).thenS dl fun y m1=>(a dl m1).thenS dl fun o m2=>(b dl m2).thenS dl fun i m3=>(setOW t y o i m3).thenS dl fun _ m4=>.nx dl m4
/-- the list's methods -/
def appLW (x:W) (ws:List W) (m:Mem):Res W:=match x.loc,hwAll ws with
 |some l,some [h]=>(match l.get m with
  |some us=>if us.length<sizeLine then (match l.put (us++[h]) m with
   |some m'=>.ok (.d .non) m'
   |none=>.no) else .no
  |none=>.no)
 |_,_=>.no
def eAppL (a:DE) (f:DA):DE:=fun dl m=>(a dl m).bind fun x m1=>if isTy "list" x m1=true then (f dl m1).bind fun ws m2=>appLW x ws m2 else .no
def popLW (x:W) (m:Mem):Res W:=match x.loc with
 |some l=>(match l.get m with
  |some us=>(match us[us.length-1]? with
   |some h=>(match l.put us.dropLast m with
    |some m'=>.ok h.toW m'
    |none=>.no)
   |none=>.no)
  |none=>.no)
 |none=>.no
def ePopL (a:DE):DE:=fun dl m=>(a dl m).bind fun x m1=>if isTy "list" x m1=true then popLW x m1 else .no
theorem RpHs.dropLast {K:Fg} {H:Hp} {ha:List Addr}:∀{vs:List V} {ds:List HW},RpHs K H ha vs ds→RpHs K H ha vs.dropLast ds.dropLast
 |_,_,.nil=>.nil
 |_,_,.cons _ .nil=>.nil
 |_,_,.cons a (.cons b c)=>.cons a (RpHs.dropLast (.cons b c))
theorem RpHs.eraseIdx {K:Fg} {H:Hp} {ha:List Addr}:∀{vs:List V} {ds:List HW} (i:Nat),RpHs K H ha vs ds→RpHs K H ha (vs.eraseIdx i) (ds.eraseIdx i)
 |_,_,_,.nil=>.nil
 |_,_,0,.cons _ r=>r
 |_,_,i+1,.cons a r=>.cons a (RpHs.eraseIdx i r)
/-- xs.pop(i) -/
def zh4 (x:W) (ws:List W) (m:Mem):Res W:=match x.loc,ws with
 |some l,[.d (.int i)]=>(match l.get m with
  |some us=>if -(2 ^ 63)≤i∧i<2 ^ 63 then (match seqIndex? i us.length with
   |some k=>(match us[k]? with
    |some h=>(match l.put (us.eraseIdx k) m with
     |some m'=>.ok h.toW m'
     |none=>.no)
    |none=>.no)
   |none=>.no) else .no
  |none=>.no)
 |_,_=>.no
def zt5 (a:DE) (f:DA):DE:=fun dl m=>(a dl m).bind fun x m1=>if isTy "list" x m1=true then (f dl m1).bind fun ws m2=>zh4 x ws m2 else .no
end
def compH (g:DG) (t:DT) (e:DE) (wd:Env):List D→List HW→Mem→Res (List HW)
 |[],acc,m=>.ok acc m
 |d::ds,acc,m=>match g (.d d) wd with
  |none=>.no
  |some dl1=>(match t dl1 m with
   |.ok b m1=>(match b with
    |true=>(match e dl1 m1 with
     |.ok w m2=>(match w.hw with
      |some y=>if acc.length<sizeLine then compH g t e wd ds (acc++[y]) m2 else .no
      |none=>.no)
     |_=>.no)
    |false=>compH g t e wd ds acc m1)
   |_=>.no)
def eLcH (f:DI) (g:DG) (t:DT) (e:DE) (vs:List Nat):DE:=fun dl m=>(f dl m).bind fun items m1=>(compH g t e (wipeD dl vs) items [] m1).bind fun acc m2=>newH (.lst acc) m2
section
variable {X:Cx} {Wx:WX}
def atHW (ws:List HW) (y:W) (m:Mem):Res W:=match y with
 |.d (.int k)=>(match atI ws k with
  |some w=>.ok w.toW m
  |none=>.no)
 |_=>.no
def ixHW (t:Tbl) (x y:W) (m:Mem):Res W:=match x with
 |.h i=>(match (heapOf m)[i]? with
  |some (.lst ws)=>atHW ws y m
  |some (.tup ws)=>atHW ws y m
  |some (.obj C _ _)=>(match look t C with
   |some F=>F [x,y] m
   |none=>.no)
  |_=>.no)
 |_=>ixW t x y m
def eIxH (t:Tbl) (a b:DE):DE:=fun dl m=>(a dl m).bind fun x m1=>(b dl m1).bind fun y m2=>ixHW t x y m2
def fldLH:List Str→List HW→Str→Option HW
 |n::ns,d::ds,f=>if n=f then some d else fldLH ns ds f
 |_,_,_=>none
def fldHW (Cs:List Str) (f:Str) (x:W) (m:Mem):Res W:=match x with
 |.h i=>(match (heapOf m)[i]? with
  |some (.obj C ns ws)=>if C∈Cs then (match fldLH ns ws f with
   |some w=>.ok w.toW m
   |none=>.no) else .no
  |_=>.no)
 |_=>lift1 (fldD Cs f) x m
def eFldH (Cs:List Str) (f:Str) (a:DE):DE:=fun dl m=>(a dl m).bind fun x m1=>fldHW Cs f x m1
def putLH (f:Str) (d:HW):List Str→List HW→List Str × List HW
 |n::ns,x::xs=>if n=f then (n::ns,d::xs) else (n::(putLH f d ns xs).1,x::(putLH f d ns xs).2)
 |_,_=>([f],[d])
def zgw (Cs:List Str) (f:Str) (y o:W) (m:Mem):Option Mem:=match y.hw,o with
 |some d,.h i=>(match (heapOf m)[i]? with
  |some (.obj C ns ds)=>if C∈Cs∧ns.length<1000 then some (hset m ((heapOf m).set i (.obj C (putLH f d ns ds).1 (putLH f d ns ds).2))) else none
  |_=>none)
 |_,_=>none
def sFldH (Cs:List Str) (f:Str) (e a:DE):DS:=fun dl m=>(e dl m).thenS dl fun y m1=>(a dl m1).thenS dl fun o m2=>match zgw Cs f y o m2 with
 |some m3=>.nx dl m3
 |none=>.no
def zw8 (i:Nat) (w:W) (m:Mem):Res W:=match w with
 |.d .non=>.ok (.h i) m
 |_=>.no
def z1l (C:Str) (F:DF) (ws:List W) (m:Mem):Res W:=(F (.h (heapOf m).length::ws) (hset m (heapOf m++[.obj C [] []]))).bind fun w m1=>zw8 (heapOf m).length w m1
def eMkH (C:Str) (F:DF) (a:DE) (f:DA):DE:=fun dl m=>(a dl m).bind fun x m1=>match x with
 |.d (.cls C')=>if C'=C then (f dl m1).bind fun ws m2=>z1l C F ws m2 else .no
 |_=>.no
end
def zzlb (C:Str):Fg→Bool:=fun K=>yvd K (He.ga K C)
@[simp] theorem zob (hs:List HC) (r:Mem):heapOf (.hp hs::r)=hs:=nr rfl
@[simp] theorem zeh (hs hs':List HC) (r:Mem):hset (.hp hs::r) hs' = .hp hs'::r:=nr rfl
@[simp] theorem z6nb (f:DA) (dl:Env) (m:Mem):eLstH f dl m=(f dl m).bind zjw:=nr rfl
@[simp] theorem z1pb (f:DI) (g:DG) (t:DT) (e:DE) (vs:List Nat) (dl:Env) (m:Mem):eLcH f g t e vs dl m=(f dl m).bind fun items m1=>(compH g t e (wipeD dl vs) items [] m1).bind fun acc m2=>newH (.lst acc) m2:=nr rfl
@[simp] theorem z2pb (t:Tbl) (a b:DE) (dl:Env) (m:Mem):eIxH t a b dl m=(a dl m).bind fun x m1=>(b dl m1).bind fun y m2=>ixHW t x y m2:=nr rfl
@[simp] theorem zmqb (t:Tbl) (x:D) (y:W) (m:Mem):ixHW t (.d x) y m=ixW t (.d x) y m:=nr rfl
@[simp] theorem znqb (t:Tbl) (k:Nat) (y:W) (m:Mem):ixHW t (.c k) y m=ixW t (.c k) y m:=nr rfl
@[simp] theorem z8nb (Cs:List Str) (f:Str) (a:DE) (dl:Env) (m:Mem):eFldH Cs f a dl m=(a dl m).bind fun x m1=>fldHW Cs f x m1:=nr rfl
@[simp] theorem z2ob (Cs:List Str) (f:Str) (x:D) (m:Mem):fldHW Cs f (.d x) m=lift1 (fldD Cs f) (.d x) m:=nr rfl
@[simp] theorem z3ob (Cs:List Str) (f:Str) (k:Nat) (m:Mem):fldHW Cs f (.c k) m=lift1 (fldD Cs f) (.c k) m:=nr rfl
@[simp] theorem zynb (Cs:List Str) (f:Str) (a b:DE) (dl:Env) (m:Mem):sFldH Cs f a b dl m=(a dl m).thenS dl fun y m1=>(b dl m1).thenS dl fun o m2=>(match zgw Cs f y o m2 with
 |some m3=>.nx dl m3
 |none=>.no):=nr rfl
@[simp] theorem zvnb (a b c:DE) (dl:Env) (m:Mem):sSetL a b c dl m=(a dl m).thenS dl fun y m1=>(b dl m1).thenS dl fun o m2=>(c dl m2).thenS dl fun i m3=>(match setLW y o i m3 with
 |some m4=>.nx dl m4
 |none=>.no):=nr rfl
@[simp] theorem zunb (t:Tbl) (a b c:DE) (dl:Env) (m:Mem):sSetO t a b c dl m=(a dl m).thenS dl fun y m1=>(b dl m1).thenS dl fun o m2=>(c dl m2).thenS dl fun i m3=>(setOW t y o i m3).thenS dl fun _ m4=>.nx dl m4:=nr rfl
@[simp] theorem zaob (a:DE) (f:DA) (dl:Env) (m:Mem):eAppL a f dl m=(a dl m).bind fun x m1=>if isTy "list" x m1=true then (f dl m1).bind fun ws m2=>appLW x ws m2 else .no:=nr rfl
@[simp] theorem z4nb (a:DE) (dl:Env) (m:Mem):ePopL a dl m=(a dl m).bind fun x m1=>if isTy "list" x m1=true then popLW x m1 else .no:=nr rfl
@[simp] theorem zwmb (a:DE) (f:DA) (dl:Env) (m:Mem):zt5 a f dl m=(a dl m).bind fun x m1=>if isTy "list" x m1=true then (f dl m1).bind fun ws m2=>zh4 x ws m2 else .no:=nr rfl
@[simp] theorem rd_h (i:Nat) (m:Mem):W.rd (.h i) m=((heapOf m)[i]?).map HC.toD:=rfl
@[simp] theorem ztlb (ws:List HW):HC.toD (.lst ws) = .lst (ws.map HW.toD):=nr rfl
@[simp] theorem zqqb (C:Str) (ns:List Str) (ws:List HW):HC.toD (.obj C ns ws) = .obj C ns (ws.map HW.toD):=nr rfl
@[simp] theorem hw_d (x:D):HW.toD (.d x)=x:=nr rfl
@[simp] theorem hw_h (i:Nat):HW.toD (.h i) = .opq:=nr rfl
@[simp] theorem hww_d (x:D):HW.toW (.d x) = .d x:=nr rfl
@[simp] theorem hww_h (i:Nat):HW.toW (.h i) = .h i:=nr rfl
@[simp] theorem whw_d (x:D):W.hw (.d x)=some (.d x):=nr rfl
@[simp] theorem whw_h (i:Nat):W.hw (.h i)=some (.h i):=nr rfl
@[simp] theorem z5ob (C:Str) (F:DF) (f:DA) (m:Mem) (dl:Env):eMkH C F (eC (.cls C)) f dl m=(f dl m).bind fun ws m2=>z1l C F ws m2:=by
 show (if C=C then (f dl m).bind fun ws m2=>z1l C F ws m2 else .no)=_
 rw[if_pos rfl]
@[simp] theorem frz_h (n i:Nat) (m:Mem):frz n (.h i) m = .ok (.h i) (m.take n):=nr rfl
section
variable {X:Cx} {Wx:WX}
def zipD (as bs:List D):List D:=(as.zip bs).map fun p=>.tup [p.1,p.2]
def zipW (ws:List W) (m:Mem):Res (List D):=match ws with
 |[.d (.lst as),.d (.lst bs)]=>.ok (zipD as bs) m
 |[.d (.tup as),.d (.tup bs)]=>.ok (zipD as bs) m
 |_=>.no
def iZp (f:DA):DI:=fun dl m=>(f dl m).bind zipW
end
def strV:Value→Option Str
 |.str s _=>some s
 |_=>none
def zc6:List Value→Option (List Str)
 |[]=>some []
 |v::vs=>(match strV v with
  |some s=>(match zc6 vs with
   |some ss=>some (s::ss)
   |none=>none)
  |none=>none)
def fTupG (x:Str) (ss:List Str):Fg→Bool:=fun K=>(match K.lookup (He.ga K x) with
 |some ⟨c,_,.seq its _,_⟩=>decide (c = .type "tuple")&&(decide (its.size≤sizeLine)&&decide (zc6 its.toList=some ss))
 |_=>false)
section
variable {X:Cx} {Wx:WX}
/-- x + y where x is changed in its place if it is a list -/
def augW (x y:W) (m:Mem):Res W:=match x.loc with
 |some l=>(match l.get m with
  |some us=>(match y.rd m with
   |some (.lst zs)=>if us.length+zs.length≤sizeLine then (match l.put (us++zs.map HW.d) m with
    |some m'=>.ok x m'
    |none=>.no) else .no
   |_=>.no)
  |none=>.no)
 |none=>(match x,y with
  |.d (.int i),.d (.int j)=>.ok (.d (.int (i+j))) m
  |.d (.str a),.d (.str b)=>if a.length+b.length≤sizeLine then .ok (.d (.str (a++b))) m else .no
  |_,_=>.no)
def sAug (i:Nat) (e:DE):DS:=fun dl m=>match dl[i]? with
 |some (some x)=>(e dl m).thenS dl fun y m1=>(augW x y m1).thenS dl fun z m2=>.nx (dl.set i (some z)) m2
 |_=>.no
end
@[simp] theorem znpb (i:Nat) (e:DE) (dl:Env) (m:Mem):sAug i e dl m=(match dl[i]? with
 |some (some x)=>(e dl m).thenS dl fun y m1=>(augW x y m1).thenS dl fun z m2=>.nx (dl.set i (some z)) m2
 |_=>.no):=nr rfl
@[simp] theorem zqnb (i j:Int) (m:Mem):augW (.d (.int i)) (.d (.int j)) m = .ok (.d (.int (i+j))) m:=nr rfl
@[simp] theorem zpnb (a b:Str) (m:Mem):augW (.d (.str a)) (.d (.str b)) m=if a.length+b.length≤sizeLine then .ok (.d (.str (a++b))) m else .no:=nr rfl
@[simp] theorem x_iZp (f:DA) (dl:Env) (m:Mem):iZp f dl m=(f dl m).bind zipW:=nr rfl
@[simp] theorem zbpb (as bs:List D) (m:Mem):zipW [.d (.lst as),.d (.lst bs)] m = .ok (zipD as bs) m:=nr rfl
@[simp] theorem zapb (as bs:List D) (m:Mem):zipW [.d (.tup as),.d (.tup bs)] m = .ok (zipD as bs) m:=nr rfl
theorem RpL.reverse {K:Fg} {H:Hp}:∀{vs:List V} {ds:List D},RpL K H vs ds→RpL K H vs.reverse ds.reverse
 |_,_,.nil=>.nil
 |_,_,.cons h t=>by
  rw[List.reverse_cons,List.reverse_cons]
  exact t.reverse.append (.cons h .nil)
def zn4:List Value:=[.type "LookupError",.type "Exception",.type "BaseException",.type "object"]
def zybb:List Value:=[.type "OverflowError",.type "ArithmeticError",.type "Exception",.type "BaseException",.type "object"]
open PySem.W (Frag) in
def fErrB (newId:String) (tl:List Value) (C f:Str):Frag→Bool:=fun K=>PySem.W.excInitIn K (He.ga K C) tl newId&&(PySem.W.excOver K (He.ga K C) tl&&(PySem.W.hasDictIn K (He.ga K C)&&(He.eqO (yh K (.ref (He.ga K C)) "__setattr__") (some (some (.builtin "object.__setattr__")))&&(decide (yrb K (.ref (He.ga K C)) (.type "BaseException")=some true) &&
 (decide (ytc K (.ref (He.ga K C))=some (.type "type"))&&(ym K (.ref (He.ga K C))&&(He.eqO (yh K (.ref (He.ga K C)) "__init__") (some (some (.ref (He.ma K (He.ga K C) "__init__")))) &&
 (decide (ytc K (.ref (He.ma K (He.ga K C) "__init__"))=some (.type "function"))&&He.eqO (yh K (.ref (He.ga K C)) f) (some none)))))))))
open PySem.W (Frag) in
def fBi (B initId:String):Frag→Bool:=fun K=>match y4b K (.type B) (.type "type") "__init__" with
 |some (.val (.builtin n))=>n==initId
 |_=>false
end DL
namespace DL
open PySem PySem.Spec L2
open PySem.W (Frag Hook)
def obsLG (as:List Addr) (fs:List (Frag→Bool)) (fn:List He5.DefA) (g:Addr→Option Obj):He.AlD:=obsM fs fn (He.frG g as)
abbrev Part:=List (Frag→Bool) × List He5.DefA
/-- the facts in parts, over one list of objects -/
def zy4 (as:List Addr) (ps:List Part):Hook where
 α := List He.AlD
 obs:=fun s=>ps.map fun p=>obsLG as p.1 p.2 s.heap.get?
 val:=fun _=>ps.map fun p=>He5.valA p.2
 says:=fun _ h=>∃K:Frag,K.In h∧∀p∈ps,SaysM p.1 p.2 K
 of:=fun w s e=>⟨_,He.frG_in,fun p hp=>by
  have e2:(ps.map fun p=>obsLG as p.1 p.2 s.heap.get?)=ps.map fun p=>He5.valA p.2:=e
  exact List.map_inj_left.mp e2 p hp⟩
 keeps:=fun _ _ _ ⟨K,kIn,c⟩ stay=>⟨K,PySem.W.Frag.In.keeps kIn stay,c⟩
def obLs (as:List Addr) (ps:List Part) (s:PySem.W.SharedT):List He.AlD:=ps.map fun p=>obsLG as p.1 p.2 (yic s)
theorem zhib (as:List Addr) (ps:List Part) (s:PySem.W.SharedT):obLs as ps s=(zy4 as ps).obs s.abs:=by
 unfold obLs
 have e:yic s=s.abs.heap.get?:=funext (HandSHeadRun.getT_eq s)
 rw[e]
 rfl
noncomputable abbrev endS (r:PySem.W.OpenRow) (M:Nat) (w:World) (os:OsState):Option PySem.W.SharedT:=HandSHeadRun.endF (HandSHeadRun.stepQ (HandSHeadRun.denQ HandSHeadRun.tabQ) r.prog w) M r.prog w os
def LookE (r:PySem.W.OpenRow) (M:Nat) (w:World):Prop:=∀os,(endS r M w os).map (fun s=>yzd r.prog (PySem.W.boot_heap w.params) s.abs)=some true
def SeenE (r:PySem.W.OpenRow) (q:PySem.Program) (M:Nat) (loose:List PySem.Str) (w:World):Prop:=∀os,(endS r M w os).map (fun s=>HandSHeadRun.seenQ q loose (importedModules r.prog.main.body) (fun s=>PySem.W.xlAt q [] s&&PySem.W.recOk r.toRowW.records s) s.abs)=some (PySem.W.openGood q loose)
def ObsE (r:PySem.W.OpenRow) (M:Nat) (as:List Addr) (p:Part) (w:World):Prop:=∀os,(endS r M w os).map (fun s=>obsLG as p.1 p.2 (yic s))=some (He5.valA p.2)
theorem zmkb {r:PySem.W.OpenRow} {q:PySem.Program} {M:Nat} {loose:List PySem.Str} {w:World} {as:List Addr} {ps:List Part} (h1:LookE r M w) (h2:SeenE r q M loose w) (h3:∀p∈ps,ObsE r M as p w):HandSHeadRun.RunEq r q (zy4 as ps) (obLs as ps) M loose w:=by
 intro os
 have a1:=h1 os
 have a2:=h2 os
 have a3:∀p∈ps,(endS r M w os).map (fun s=>obsLG as p.1 p.2 (yic s))=some (He5.valA p.2):=fun p hp=>h3 p hp os
 show (endS r M w os).map _=_
 cases hs:endS r M w os with
 |none=>rw[hs] at a1;cases a1
 |some s=>
  rw[hs] at a1 a2
  have b1:yzd r.prog (PySem.W.boot_heap w.params) s.abs=true:=ynb a1
  have b2:=ynb a2
  have b3:obLs as ps s=(zy4 as ps).val w:=List.map_inj_left.mpr fun p hp=>by
   have e:=a3 p hp
   rw[hs] at e
   exact ynb e
  rw[Option.map_some,b1,b3]
  dsimp only at b2
  rw[b2]
end DL
namespace DL
open PySem PySem.Spec L2
open PyProof.Rows hiding St
open Evl (Ex)
section
variable {K:Fg} {H1 H:Hp} {al:Gh} {m:Mem}
theorem z8db.mono (x:Ex H1 H) {k:MKey} {b:Addr} {w:V} (h:z8db H1 k b w):z8db H k b w:=by
 cases k with
 |none=>exact h
 |some is=>exact⟨h.1,x _ _ h.2⟩
theorem MOk.mono (x:Ex H1 H) {xs:List MVRow} (h:MOk H1 xs):MOk H xs:=fun y hy is e=>x _ _ (h y hy is e)
end
end DL
namespace DL
open PySem PySem.Spec L2
open PyProof.Rows hiding St
open Evl (Ex)
variable {P:Program} {w:World} {K:Fg} {mg:Str→Option Value} {base:Heap}
def FnDL (P:Program) (w:World) (K:Fg) (mg:Str→Option Value) (base:Heap) (k:Nat) (f:Addr) (F:DF):Prop:=
 ∀(A:Around) (outer:List PySem.Env) (s:Shared) (H:Hp) (us:List Value) (vs:List V) (Q:VK) (E:XK),RoomG k A→Env0 P w K mg base A outer s H→Vals vs us→spR K F vs H Q E →
  codeAny (model P w) A (.call (.ref f) ⟨us,[]⟩) (CR (L2.CX P w) outer P w H s Q E) s
theorem FnDL.mono {j k:Nat} {f:Addr} {F:DF} (h:FnDL P w K mg base j f F) (l:j≤k):FnDL P w K mg base k f F:=fun A outer s H us vs Q E hr=>h A outer s H us vs Q E (hr.mono l)
end DL
namespace DL
open PySem PySem.Spec L2
open PyProof.Rows hiding St
open Evl (Ex)
def ze2 (op:Operator) (K:Fg) (T:String):Bool:=match yh K (.type T) (y5 op.info.2),yh K (.type T) (dunderR op.info.2) with
 |some fo,some ro => !((fo.isSome && !isSeqSlot fo) ||(ro.isSome && !isSeqSlot ro))
 |_,_=>false
def zrcb (d:D):Bool:=match d with
 |.int _=>true
 |.bl _=>true
 |_=>false
def ropOW (ts:List String) (t:Tbl) (g:D→D→Option D) (x y:W) (m:Mem):Res W:=match clsOf y m with
 |some C=>(match look t C with
  |some F=>(match x with
   |.d d=>(if zrcb d=true then F [y,.d d] m else match tagD d with
    |some (.bt T)=>if T∈ts then F [y,.d d] m else .no
    |_=>.no)
   |_=>.no)
  |none=>.no)
 |none=>lift2 g x y m
def fRopO (op:Operator) (fn rn:Str) (ts:List String) (C:Str):Fg→Bool:=fun K=>fOwn C rn K&&(fOwn C fn K&&(yyb K (He.ga K C)&&((ts.all fun T=>ze2 op K T)&&(decide (yrb K (.ref (He.ga K C)) (.type "int")=some false)&&decide (yrb K (.ref (He.ga K C)) (.type "bool")=some false)))))
def ropTs:List String:=["str", "list", "tuple", "NoneType"]
def liveH (k n:Nat) (m:Mem):Option (List HW):=match (heapOf m)[k]? with
 |some (.lst ws)=>if ws.length=n then some ws else none
 |_=>none
def zot (w:W) (m:Mem):Option (Nat × Nat):=match w with
 |.h k=>(match (heapOf m)[k]? with
  |some (.lst ws)=>some (k,ws.length)
  |_=>none)
 |_=>none
section
variable {P:Program} {w:World} {K:Fg} {mg:Str→Option Value} {base:Heap}
def CRN (outer:List PySem.Env) (P:Program) (w:World) (H:Hp) (s:Shared) (Q:VK) (E:XK) (r:Except Value Flow) (s':Shared):Prop:=match r with
 |.ok fl=>fl = .ret .notImplemented∧CE outer P w H s Q .none s'
 |.error e=>L2N.CX P w outer H s E e s'
def FnNo (P:Program) (w:World) (K:Fg) (mg:Str→Option Value) (base:Heap) (k:Nat) (f:Addr) (F:DF):Prop:=
 ∀(A:Around) (outer:List PySem.Env) (s:Shared) (H:Hp) (us:List Value) (vs:List V) (Q:VK) (E:XK),RoomG k A→Env0 P w K mg base A outer s H→Vals vs us→spR K F vs H Q E →
  codeAny (model P w) A (.call (.ref f) ⟨us,[]⟩) (CRN outer P w H s Q E) s
theorem FnNo.mono {j k:Nat} {f:Addr} {F:DF} (h:FnNo P w K mg base j f F) (l:j≤k):FnNo P w K mg base k f F:=fun A outer s H us vs Q E hr=>h A outer s H us vs Q E (hr.mono l)
end
def lk2 {α : Type} (t:List ((Str × Str) × α)) (C C2:Str):Option α := match t with
 |[]=>none
 |p::r=>if p.1=(C,C2) then some p.2 else lk2 r C C2
abbrev Acc:=List ((Str × Str) × DF)
abbrev Dcl:=List ((Str × Str) × (DF × DF))
def binRW (ts:List String) (t:Tbl) (acc:Acc) (dec:Dcl) (rts:List String) (rt:Tbl) (g:D→D→Option D) (x y:W) (m:Mem):Res W:=match clsOf x m with
 |some C=>(match clsOf y m with
  |some C2=>(if C2=C then bopW ts t g x y m else match lk2 acc C C2 with
   |some F=>F [x,y] m
   |none=>(match lk2 dec C C2 with
    |some q=>(q.1 [x,y] m).bind fun _ m1=>if clsOf x m1=some C∧clsOf y m1=some C2 then q.2 [y,x] m1 else .no
    |none=>.no))
  |none=>bopW ts t g x y m)
 |none=>ropOW rts rt g x y m
def eBinR (ts:List String) (t:Tbl) (acc:Acc) (dec:Dcl) (rts:List String) (rt:Tbl) (g:D→D→Option D) (a b:DE):DE:=fun dl m=>(a dl m).bind fun x m1=>(b dl m1).bind fun y m2=>binRW ts t acc dec rts rt g x y m2
def fTwo (C C2:Str):Fg→Bool:=fun K=>decide (He.ga K C≠He.ga K C2)&&decide (yrb K (.ref (He.ga K C2)) (.ref (He.ga K C))=some false)
@[simp] theorem z9nb (ts:List String) (t:Tbl) (acc:Acc) (dec:Dcl) (rts:List String) (rt:Tbl) (g:D→D→Option D) (a b:DE) (dl:Env) (m:Mem):eBinR ts t acc dec rts rt g a b dl m=(a dl m).bind fun x m1=>(b dl m1).bind fun y m2=>binRW ts t acc dec rts rt g x y m2:=nr rfl
section
variable {X:Cx} {Wx:WX}
def addHW (x y:W) (m:Mem):Res W:=match x.rd m,y.rd m with
 |some (.lst ds),some (.lst es)=>if ds.length+es.length≤sizeLine then newH (.lst ((ds++es).map HW.d)) m else .no
 |_,_=>.no
def eAddH (a b:DE):DE:=fun dl m=>(a dl m).bind fun x m1=>(b dl m1).bind fun y m2=>addHW x y m2
def zm4 (ws:List W) (m:Mem):Res W:=match hwAll ws with
 |some hs=>if hs.length≤sizeLine then newH (.tup hs) m else .no
 |none=>.no
def eTupH (f:DA):DE:=fun dl m=>(f dl m).bind zm4
end
def fIop (op:Operator) (m C:Str):Fg→Bool:=fun K=>decide (m=PySem.dunderI op.info.2)&&(fOwn C m K&&yyb K (He.ga K C))
@[simp] theorem zbob (a b:DE) (dl:Env) (m:Mem):eAddH a b dl m=(a dl m).bind fun x m1=>(b dl m1).bind fun y m2=>addHW x y m2:=nr rfl
@[simp] theorem z2nb (f:DA) (dl:Env) (m:Mem):eTupH f dl m=(f dl m).bind zm4:=nr rfl
def zxp (g:DG) (t:DT) (e:DE) (wd:Env) (k n:Nat):Nat→List HW→Mem→Res (List HW)
 | 0,acc,m=>(match liveH k n m with
   |some _=>.ok acc m
   |none=>.no)
 |r+1,acc,m=>(match liveH k n m with
  |none=>.no
  |some ds=>(match ds[n-(r+1)]? with
   |none=>.no
   |some d=>(match g d.toW wd with
    |none=>.no
    |some dl1=>(match t dl1 m with
     |.ok b m1=>(match b with
      |true=>(match e dl1 m1 with
       |.ok w m2=>(match w.hw with
        |some y=>if acc.length<sizeLine then zxp g t e wd k n r (acc++[y]) m2 else .no
        |none=>.no)
       |_=>.no)
      |false=>zxp g t e wd k n r acc m1)
     |_=>.no))))
def lcHW (g:DG) (t:DT) (e:DE) (wd:Env) (w:W) (m:Mem):Res W:=match zot w m with
 |some (k,n)=>(zxp g t e wd k n n [] m).bind fun acc m2=>newH (.lst acc) m2
 |none=>.no
def eLcLH (f:DE) (g:DG) (t:DT) (e:DE) (vs:List Nat):DE:=fun dl m=>(f dl m).bind fun w m1=>lcHW g t e (wipeD dl vs) w m1
@[simp] theorem z7nb (f:DE) (g:DG) (t:DT) (e:DE) (vs:List Nat) (dl:Env) (m:Mem):eLcLH f g t e vs dl m=(f dl m).bind fun w m1=>lcHW g t e (wipeD dl vs) w m1:=nr rfl
def FnKL (P:Program) (w:World) (K:Fg) (mg:Str→Option Value) (base:Heap) (k:Nat) (f:Addr) (ks:List Str) (F:DF):Prop:=
 ∀(A:Around) (outer:List PySem.Env) (s:Shared) (H:Hp) (us ws:List Value) (vs zs:List V) (Q:VK) (E:XK),RoomG k A→Env0 P w K mg base A outer s H→Vals vs us→Vals zs ws→ws.length=ks.length→spR K F (vs++zs) H Q E →
  codeAny (model P w) A (.call (.ref f) ⟨us,ks.zip ws⟩) (CR (L2.CX P w) outer P w H s Q E) s
section
variable {X:Cx} {Wx:WX}
theorem FnKL.mono {P:Program} {w:World} {K:Fg} {mg:Str→Option Value} {base:Heap} {j k:Nat} {f:Addr} {ks:List Str} {F:DF} (h:FnKL P w K mg base j f ks F) (l:j≤k):FnKL P w K mg base k f ks F:=fun A outer s H us ws vs zs Q E hr=>h A outer s H us ws vs zs Q E (hr.mono l)
end
end DL
namespace DL
open PySem PySem.Spec
def GrpE (r:PySem.W.OpenRow) (q:PySem.Program) (M:Nat) (loose:List PySem.Str) (as:List Addr) (ps:List Part) (w:World):Prop:=∀os,(endS r M w os).map (fun s=>(yzd r.prog (PySem.W.boot_heap w.params) s.abs,HandSHeadRun.seenQ q loose (importedModules r.prog.main.body) (fun s=>PySem.W.xlAt q [] s&&PySem.W.recOk r.toRowW.records s) s.abs,ps.map fun p=>obsLG as p.1 p.2 (yic s)))=some (true,PySem.W.openGood q loose,ps.map fun p=>He5.valA p.2)
def ObsPE (r:PySem.W.OpenRow) (M:Nat) (as:List Addr) (ps:List Part) (w:World):Prop:=∀os,(endS r M w os).map (fun s=>ps.map fun p=>obsLG as p.1 p.2 (yic s))=some (ps.map fun p=>He5.valA p.2)
theorem GrpE.look {r:PySem.W.OpenRow} {q:PySem.Program} {M:Nat} {loose:List PySem.Str} {as:List Addr} {ps:List Part} {w:World} (h:GrpE r q M loose as ps w):LookE r M w:=fun os=>by
 have e:=h os
 cases hs:endS r M w os with
 |none=>rw[hs] at e;cases e
 |some s=>
  rw[hs] at e
  have e:=ynb e
  exact congrArg some (y2d e).1
theorem GrpE.seen {r:PySem.W.OpenRow} {q:PySem.Program} {M:Nat} {loose:List PySem.Str} {as:List Addr} {ps:List Part} {w:World} (h:GrpE r q M loose as ps w):SeenE r q M loose w:=fun os=>by
 have e:=h os
 cases hs:endS r M w os with
 |none=>rw[hs] at e;cases e
 |some s=>
  rw[hs] at e
  have e:=ynb e
  exact congrArg some (y2d (y2d e).2).1
theorem z8bb {α β : Type} {f g : α → β}:∀{xs:List α},xs.map f=xs.map g→∀x∈xs,f x=g x
 |x::xs,h,y,hy=>by
  rw[yr,yr] at h
  obtain⟨h1,h2⟩:=List.cons.inj h
  rcases yo.mp hy with rfl |hy
  ·exact h1
  ·exact z8bb h2 y hy
theorem GrpE.obs {r:PySem.W.OpenRow} {q:PySem.Program} {M:Nat} {loose:List PySem.Str} {as:List Addr} {ps:List Part} {w:World} (h:GrpE r q M loose as ps w):∀p∈ps,ObsE r M as p w:=fun p hp os=>by
 have e:=h os
 cases hs:endS r M w os with
 |none=>rw[hs] at e;cases e
 |some s=>
  rw[hs] at e
  have e:=ynb e
  exact congrArg some (z8bb (y2d (y2d e).2).2 p hp)
theorem ObsPE.obs {r:PySem.W.OpenRow} {M:Nat} {as:List Addr} {ps:List Part} {w:World} (h:ObsPE r M as ps w):∀p∈ps,ObsE r M as p w:=fun p hp os=>by
 have e:=h os
 cases hs:endS r M w os with
 |none=>rw[hs] at e;cases e
 |some s=>
  rw[hs] at e
  have e:=ynb e
  exact congrArg some (z8bb e p hp)
end DL
namespace DL
open PySem PySem.Spec L2
open PyProof.Rows hiding St
open Evl (Ex)
abbrev DGM:=W→Env→Mem→Option Env
section
variable {X:Cx} {Wx:WX}
def z9o (g:DGM) (b:DS) (k n:Nat):Nat→Env→Mem→SR
 | 0,dl,m=>(match liveH k n m with
   |some _=>.nx dl m
   |none=>.no)
 |r+1,dl,m=>(match liveH k n m with
  |none=>.no
  |some ws=>(match ws[n-(r+1)]? with
   |none=>.no
   |some d=>(match g d.toW dl m with
    |none=>.no
    |some dl1=>(match b dl1 m with
     |.nx dl2 m2=>z9o g b k n r dl2 m2
     |.ct dl2 m2=>z9o g b k n r dl2 m2
     |.bk dl2 m2=>.nx dl2 m2
     |.rt w m2=>.rt w m2
     |.exc dl2 C f p m2=>.exc dl2 C f p m2
     |.no=>.no))))
def zk8 (f:DE) (g:DGM) (b:DS):DS:=fun dl m=>(f dl m).thenS dl fun w m1=>match zot w m1 with
 |some (k,n)=>z9o g b k n n dl m1
 |none=>.no
end
@[simp] theorem zvmb (f:DE) (g:DGM) (b:DS) (dl:Env) (m:Mem):zk8 f g b dl m=(f dl m).thenS dl fun w m1=>(match zot w m1 with
 |some (k,n)=>z9o g b k n n dl m1
 |none=>.no):=nr rfl
end DL
namespace LK
open PySem PySem.Spec L2 DL
open PyProof.Rows hiding St
open Evl (Ex)
def top (i:Nat):Stmt:=PySem.Challenge.pw_indentholes_k26_sums_and_blocks.main.body.getD i (.Pass ⟨0,0,0,0⟩)
def bopTs:List String:=["NoneType", "bool", "int", "str", "list", "tuple"]
def zue:List (Tag × Bool):=[(.bt "NoneType",false),(.bt "bool",false),(.bt "int",false),(.bt "str",false),(.bt "list",false),(.bt "tuple",false),(.bt "dict",false),(.own "Block",true),(.own "Program",false)]
def znd:List (Tag × Bool):=[(.bt "NoneType",false),(.bt "bool",false),(.bt "int",false),(.bt "str",true),(.bt "list",false),(.bt "tuple",false),(.bt "dict",false),(.own "Block",true),(.own "Program",false)]
def zwd:List (Tag × Bool):=[(.bt "NoneType",false),(.bt "bool",false),(.bt "int",false),(.bt "str",false),(.bt "list",false),(.bt "tuple",false),(.bt "dict",false),(.own "Block",false),(.own "Program",true)]
def zkk:List (Tag × Bool):=[(.bt "NoneType",false),(.bt "bool",true),(.bt "int",false),(.bt "str",false),(.bt "list",false),(.bt "tuple",false),(.bt "dict",false),(.own "Block",false),(.own "Program",false)]
def zwn:List (Tag × Bool):=[(.bt "NoneType",false),(.bt "bool",true),(.bt "int",true),(.bt "str",false),(.bt "list",false),(.bt "tuple",false),(.bt "dict",false),(.own "Block",false),(.own "Program",false)]
def zde:List (Tag × Bool):=[(.bt "NoneType",false),(.bt "bool",false),(.bt "int",false),(.bt "str",true),(.bt "list",false),(.bt "tuple",false),(.bt "dict",false),(.own "Block",false),(.own "Program",false)]
abbrev zcc:Stmt:=inClass (top 37) 8
abbrev zhc:Stmt:=top 85
abbrev z2d:Stmt:=top 19
abbrev zje:Stmt:=top 20
abbrev z6:Stmt:=inClass (top 37) 10
abbrev z6d:Stmt:=top 86
abbrev zcf:Stmt:=top 87
abbrev z6b:Stmt:=top 88
abbrev z4d:Stmt:=top 89
abbrev zhd:Stmt:=top 90
abbrev zke:Stmt:=top 91
abbrev zrd:Stmt:=top 92
abbrev zbf:Stmt:=top 22
abbrev zhb:Stmt:=inClass (top 37) 1
abbrev zld:Stmt:=inClass (top 37) 2
abbrev zac:Stmt:=inClass (top 37) 7
abbrev z2c:Stmt:=inClass (top 37) 4
abbrev z1d:Stmt:=top 24
abbrev zuf:Stmt:=top 23
abbrev zed:Stmt:=top 40
abbrev zdd:Stmt:=top 48
abbrev zr:Stmt:=inClass (top 69) 0
abbrev zlh:Stmt:=top 74
abbrev zaf:Stmt:=top 75
abbrev z2k:Stmt:=top 76
abbrev z0d:Stmt:=top 38
abbrev zrb:Stmt:=inClass (top 37) 14
abbrev zgf:Stmt:=top 70
abbrev zpd:Stmt:=top 71
abbrev zod:Stmt:=top 72
abbrev zoe:Stmt:=top 73
abbrev zzc:Stmt:=top 79
abbrev zdg:Stmt:=top 80
abbrev zic:Stmt:=top 78
abbrev zkb:Stmt:=inClass (top 69) 3
abbrev z3d:Stmt:=top 21
abbrev zjc:Stmt:=top 25
abbrev zz:Stmt:=inClass (top 37) 18
abbrev z9e:Stmt:=top 81
abbrev zx:Stmt:=inClass (top 69) 5
abbrev z4b:Stmt:=top 28
abbrev zqc:Stmt:=top 31
abbrev zdb:Stmt:=inClass (top 37) 19
abbrev zy:Stmt:=inClass (top 69) 6
abbrev z8b:Stmt:=inClass (top 69) 10
abbrev z9b:Stmt:=inClass (top 69) 8
abbrev zkc:Stmt:=inClass (top 69) 9
abbrev ztb:Stmt:=inClass (top 69) 11
abbrev z5b:Stmt:=top 29
abbrev zqd:Stmt:=top 30
abbrev zbc:Stmt:=inClass (top 37) 20
abbrev zjb:Stmt:=inClass (top 69) 7
abbrev zrc:Stmt:=inClass (top 69) 15
abbrev z3k:Stmt:=top 77
abbrev z5d:Stmt:=top 99
abbrev z0c:Stmt:=top 100
abbrev zab:Stmt:=inClass (top 37) 1
abbrev z1c:Stmt:=inClass (top 37) 2
abbrev zfd:Stmt:=top 101
abbrev zlc:Stmt:=inClass (top 37) 12
abbrev ztc:Stmt:=inClass (top 69) 1
abbrev z7b:Stmt:=inClass (top 69) 17
abbrev zid:Stmt:=inClass (top 69) 12
abbrev zre:Stmt:=top 94
abbrev zgd:Stmt:=top 102
abbrev z4:Stmt:=inClass (top 37) 11
abbrev zu:Stmt:=inClass (top 37) 22
abbrev zvb:Stmt:=inClass (top 37) 21
abbrev zub:Stmt:=inClass (top 37) 15
abbrev zcb:Stmt:=inClass (top 69) 4
abbrev st_law:Stmt:=top 103
abbrev zmc:Stmt:=inClass (top 3) 0
abbrev z7c:Stmt:=inClass (top 6) 0
abbrev z6c:Stmt:=inClass (top 2) 0
abbrev z5c:Stmt:=inClass (top 4) 0
abbrev zmd:Stmt:=inClass (top 5) 0
abbrev zkd:Stmt:=inClass (top 11) 0
abbrev zjd:Stmt:=inClass (top 12) 0
abbrev z4c:Stmt:=inClass (top 8) 0
abbrev z3c:Stmt:=inClass (top 15) 0
abbrev zvd:Stmt:=inClass (top 7) 0
end LK
namespace LK
open PySem PySem.Spec L2 DL
open PyProof.Rows hiding St
def dd0:He5.DefA:=⟨fun K=>He.ma K (He.ga K "Block") "__len__", "__len__", "Block.__len__",defArgs zcc,defBody zcc,defScope zcc,[],[]⟩
def dd1:He5.DefA:=⟨fun K=>He.ga K "_law_start", "_law_start", "_law_start",defArgs zhc,defBody zhc,defScope zhc,[],[]⟩
def dd2:He5.DefA:=⟨fun K=>He.ga K "is_number", "is_number", "is_number",defArgs z2d,defBody z2d,defScope z2d,[],[]⟩
def dd3:He5.DefA:=⟨fun K=>He.ga K "is_index", "is_index", "is_index",defArgs zje,defBody zje,defScope zje,[],[]⟩
def dd4:He5.DefA:=⟨fun K=>He.ma K (He.ga K "Block") "__getitem__", "__getitem__", "Block.__getitem__",defArgs z6,defBody z6,defScope z6,[],[]⟩
def dd5:He5.DefA:=⟨fun K=>He.ga K "_law_draw", "_law_draw", "_law_draw",defArgs z6d,defBody z6d,defScope z6d,[],[]⟩
def dd6:He5.DefA:=⟨fun K=>He.ga K "_law_of", "_law_of", "_law_of",defArgs zcf,defBody zcf,defScope zcf,[],[]⟩
def dd7:He5.DefA:=⟨fun K=>He.ga K "_law_letters", "_law_letters", "_law_letters",defArgs z6b,defBody z6b,defScope z6b,[],[]⟩
def dd8:He5.DefA:=⟨fun K=>He.ga K "_law_word", "_law_word", "_law_word",defArgs z4d,defBody z4d,defScope z4d,[],[]⟩
def dd9:He5.DefA:=⟨fun K=>He.ga K "_law_fixed", "_law_fixed", "_law_fixed",defArgs zhd,defBody zhd,defScope zhd,[],[]⟩
def dd10:He5.DefA:=⟨fun K=>He.ga K "_law_sum", "_law_sum", "_law_sum",defArgs zke,defBody zke,defScope zke,[],[]⟩
def dd11:He5.DefA:=⟨fun K=>He.ga K "_law_leaf", "_law_leaf", "_law_leaf",defArgs zrd,defBody zrd,defScope zrd,[],[]⟩
def dd12:He5.DefA:=⟨fun K=>He.ga K "is_line", "is_line", "is_line",defArgs zbf,defBody zbf,defScope zbf,[],[]⟩
def dd13:He5.DefA:=⟨fun K=>He.ma K (He.ga K "Block") "__init__", "__init__", "Block.__init__",defArgs zhb,defBody zhb,defScope zhb,[],[]⟩
def dd14:He5.DefA:=⟨fun K=>He5.wf K (He.ga K "Block") "classmethod" "read", "read", "Block.read",defArgs zld,defBody zld,defScope zld,[],[]⟩
def dd15:He5.DefA:=⟨fun K=>He.ma K (He.ga K "Block") "__str__", "__str__", "Block.__str__",defArgs zac,defBody zac,defScope zac,[],[]⟩
def dd16:He5.DefA:=⟨fun K=>He5.wf K (He.ga K "Block") "property" "lines", "lines", "Block.lines",defArgs z2c,defBody z2c,defScope z2c,[],[]⟩
def dd17:He5.DefA:=⟨fun K=>He.ga K "margin_of", "margin_of", "margin_of",defArgs z1d,defBody z1d,defScope z1d,[],[]⟩
def dd18:He5.DefA:=⟨fun K=>He.ga K "is_tag", "is_tag", "is_tag",defArgs zuf,defBody zuf,defScope zuf,[],[]⟩
def dd19:He5.DefA:=⟨fun K=>He.ga K "line_nodes", "line_nodes", "line_nodes",defArgs zed,defBody zed,defScope zed,[],[]⟩
def dd20:He5.DefA:=⟨fun K=>He.ga K "split_text", "split_text", "split_text",defArgs zdd,defBody zdd,defScope zdd,[],[]⟩
def dd21:He5.DefA:=⟨fun K=>He.ma K (He.ga K "Program") "__init__", "__init__", "Program.__init__",defArgs zr,defBody zr,defScope zr,[.non,.non,.non,.non],[]⟩
def dd22:He5.DefA:=⟨fun K=>He.ga K "fixed", "fixed", "fixed",defArgs zlh,defBody zlh,defScope zlh,[],[]⟩
def dd23:He5.DefA:=⟨fun K=>He.ga K "is_name", "is_name", "is_name",defArgs zaf,defBody zaf,defScope zaf,[],[]⟩
def dd24:He5.DefA:=⟨fun K=>He.ga K "hole", "hole", "hole",defArgs z2k,defBody z2k,defScope z2k,[],[]⟩
def dd25:He5.DefA:=⟨fun K=>He.ga K "rows_from", "rows_from", "rows_from",defArgs z0d,defBody z0d,defScope z0d,[],[]⟩
def dd26:He5.DefA:=⟨fun K=>He.ma K (He.ga K "Block") "__add__", "__add__", "Block.__add__",defArgs zrb,defBody zrb,defScope zrb,[],[]⟩
def dd27:He5.DefA:=⟨fun K=>He.ga K "all_parts", "all_parts", "all_parts",defArgs zgf,defBody zgf,defScope zgf,[],[]⟩
def dd28:He5.DefA:=⟨fun K=>He.ga K "name_list", "name_list", "name_list",defArgs zpd,defBody zpd,defScope zpd,[],[]⟩
def dd29:He5.DefA:=⟨fun K=>He.ga K "weight_of", "weight_of", "weight_of",defArgs zod,defBody zod,defScope zod,[],[]⟩
def dd30:He5.DefA:=⟨fun K=>He.ga K "checked", "checked", "checked",defArgs zoe,defBody zoe,defScope zoe,[],[]⟩
def dd31:He5.DefA:=⟨fun K=>He.ga K "sum_members", "sum_members", "sum_members",defArgs zzc,defBody zzc,defScope zzc,[],[]⟩
def dd32:He5.DefA:=⟨fun K=>He.ga K "summed", "summed", "summed",defArgs zdg,defBody zdg,defScope zdg,[],[]⟩
def dd33:He5.DefA:=⟨fun K=>He.ga K "program_from", "program_from", "program_from",defArgs zic,defBody zic,defScope zic,[],[]⟩
def dd34:He5.DefA:=⟨fun K=>He.ma K (He.ga K "Program") "__add__", "__add__", "Program.__add__",defArgs zkb,defBody zkb,defScope zkb,[],[]⟩
def dd35:He5.DefA:=⟨fun K=>He.ga K "is_amount", "is_amount", "is_amount",defArgs z3d,defBody z3d,defScope z3d,[],[]⟩
def dd36:He5.DefA:=⟨fun K=>He.ga K "moved_blocks", "moved", "moved",defArgs zjc,defBody zjc,defScope zjc,[],[]⟩
def dd37:He5.DefA:=⟨fun K=>He.ma K (He.ga K "Block") "__rshift__", "__rshift__", "Block.__rshift__",defArgs zz,defBody zz,defScope zz,[],[]⟩
def dd38:He5.DefA:=⟨fun K=>He.ga K "shifted", "shifted", "shifted",defArgs z9e,defBody z9e,defScope z9e,[],[]⟩
def dd39:He5.DefA:=⟨fun K=>He.ma K (He.ga K "Program") "__rshift__", "__rshift__", "Program.__rshift__",defArgs zx,defBody zx,defScope zx,[],[]⟩
def dd40:He5.DefA:=⟨fun K=>He.ga K "shallow_place", "shallow_place", "shallow_place",defArgs z4b,defBody z4b,defScope z4b,[],[]⟩
def dd41:He5.DefA:=⟨fun K=>He.ga K "raised_rows", "raised_rows", "raised_rows",defArgs zqc,defBody zqc,defScope zqc,[],[]⟩
def dd42:He5.DefA:=⟨fun K=>He.ma K (He.ga K "Block") "__lshift__", "__lshift__", "Block.__lshift__",defArgs zdb,defBody zdb,defScope zdb,[],[]⟩
def dd43:He5.DefA:=⟨fun K=>He.ma K (He.ga K "Program") "__lshift__", "__lshift__", "Program.__lshift__",defArgs zy,defBody zy,defScope zy,[],[]⟩
def dd44:He5.DefA:=⟨fun K=>He.ma K (He.ga K "Program") "flush", "flush", "Program.flush",defArgs z8b,defBody z8b,defScope z8b,[],[]⟩
def dd45:He5.DefA:=⟨fun K=>He.ma K (He.ga K "Program") "first", "first", "Program.first",defArgs z9b,defBody z9b,defScope z9b,[],[]⟩
def dd46:He5.DefA:=⟨fun K=>He.ma K (He.ga K "Program") "rest", "rest", "Program.rest",defArgs zkc,defBody zkc,defScope zkc,[],[]⟩
def dd47:He5.DefA:=⟨fun K=>He.ma K (He.ga K "Program") "tagged", "tagged", "Program.tagged",defArgs ztb,defBody ztb,defScope ztb,[],[("hang",.bl true)]⟩
def dd48:He5.DefA:=⟨fun K=>He.ga K "least_margin", "least_margin", "least_margin",defArgs z5b,defBody z5b,defScope z5b,[],[]⟩
def dd49:He5.DefA:=⟨fun K=>He.ga K "flat_rows", "flat_rows", "flat_rows",defArgs zqd,defBody zqd,defScope zqd,[],[]⟩
def dd50:He5.DefA:=⟨fun K=>He.ma K (He.ga K "Block") "__neg__", "__neg__", "Block.__neg__",defArgs zbc,defBody zbc,defScope zbc,[],[]⟩
def dd51:He5.DefA:=⟨fun K=>He.ma K (He.ga K "Program") "__neg__", "__neg__", "Program.__neg__",defArgs zjb,defBody zjb,defScope zjb,[],[]⟩
def dd52:He5.DefA:=⟨fun K=>He5.wf K (He.ga K "Program") "property" "row", "row", "Program.row",defArgs zrc,defBody zrc,defScope zrc,[],[]⟩
def dd53:He5.DefA:=⟨fun K=>He.ga K "each", "each", "each",defArgs z3k,defBody z3k,defScope z3k,[],[]⟩
def dd54:He5.DefA:=⟨fun K=>He.ga K "_law_program", "_law_program", "_law_program",defArgs z5d,defBody z5d,defScope z5d,[],[]⟩
def dd55:He5.DefA:=⟨fun K=>He.ga K "_law_member", "_law_member", "_law_member",defArgs z0c,defBody z0c,defScope z0c,[],[]⟩
def dd56:He5.DefA:=⟨fun K=>He.ma K (He.ga K "Block") "__init__", "__init__", "Block.__init__",defArgs zab,defBody zab,defScope zab,[],[]⟩
def dd57:He5.DefA:=⟨fun K=>He5.wf K (He.ga K "Block") "classmethod" "read", "read", "Block.read",defArgs z1c,defBody z1c,defScope z1c,[],[]⟩
def dd58:He5.DefA:=⟨fun K=>He.ga K "_law_thing", "_law_thing", "_law_thing",defArgs zfd,defBody zfd,defScope zfd,[],[]⟩
def dd59:He5.DefA:=⟨fun K=>He.ma K (He.ga K "Block") "__eq__", "__eq__", "Block.__eq__",defArgs zlc,defBody zlc,defScope zlc,[],[]⟩
def dd60:He5.DefA:=⟨fun K=>He.ma K (He.ga K "Program") "__eq__", "__eq__", "Program.__eq__",defArgs ztc,defBody ztc,defScope ztc,[],[]⟩
def dd61:He5.DefA:=⟨fun K=>He5.wf K (He.ga K "Program") "property" "parts", "parts", "Program.parts",defArgs z7b,defBody z7b,defScope z7b,[],[]⟩
def dd62:He5.DefA:=⟨fun K=>He.ma K (He.ga K "Program") "at", "at", "Program.at",defArgs zid,defBody zid,defScope zid,[],[]⟩
def dd63:He5.DefA:=⟨fun K=>He.ga K "_law_parts", "_law_parts", "_law_parts",defArgs zre,defBody zre,defScope zre,[],[]⟩
def dd64:He5.DefA:=⟨fun K=>He.ga K "_law_right", "_law_right", "_law_right",defArgs zgd,defBody zgd,defScope zgd,[],[]⟩
def dd65:He5.DefA:=⟨fun K=>He.ma K (He.ga K "Block") "__setitem__", "__setitem__", "Block.__setitem__",defArgs z4,defBody z4,defScope z4,[],[]⟩
def dd66:He5.DefA:=⟨fun K=>He.ma K (He.ga K "Block") "__irshift__", "__irshift__", "Block.__irshift__",defArgs zu,defBody zu,defScope zu,[],[]⟩
def dd67:He5.DefA:=⟨fun K=>He.ma K (He.ga K "Block") "__iadd__", "__iadd__", "Block.__iadd__",defArgs zvb,defBody zvb,defScope zvb,[],[]⟩
def dd68:He5.DefA:=⟨fun K=>He.ma K (He.ga K "Block") "__radd__", "__radd__", "Block.__radd__",defArgs zub,defBody zub,defScope zub,[],[]⟩
def dd69:He5.DefA:=⟨fun K=>He.ma K (He.ga K "Program") "__radd__", "__radd__", "Program.__radd__",defArgs zcb,defBody zcb,defScope zcb,[],[]⟩
def dd70:He5.DefA:=⟨fun K=>He.ga K "law", "law", "law",defArgs st_law,defBody st_law,defScope st_law,[],[]⟩
def dd71:He5.DefA:=⟨fun K=>He.ma K (He.ga K "BadAmount") "__init__", "__init__", "BadAmount.__init__",defArgs zmc,defBody zmc,defScope zmc,[],[]⟩
def dd72:He5.DefA:=⟨fun K=>He.ma K (He.ga K "BadEach") "__init__", "__init__", "BadEach.__init__",defArgs z7c,defBody z7c,defScope z7c,[],[]⟩
def dd73:He5.DefA:=⟨fun K=>He.ma K (He.ga K "BadLine") "__init__", "__init__", "BadLine.__init__",defArgs z6c,defBody z6c,defScope z6c,[],[]⟩
def dd74:He5.DefA:=⟨fun K=>He.ma K (He.ga K "BadName") "__init__", "__init__", "BadName.__init__",defArgs z5c,defBody z5c,defScope z5c,[],[]⟩
def dd75:He5.DefA:=⟨fun K=>He.ma K (He.ga K "BadTag") "__init__", "__init__", "BadTag.__init__",defArgs zmd,defBody zmd,defScope zmd,[],[]⟩
def dd76:He5.DefA:=⟨fun K=>He.ma K (He.ga K "NoLine") "__init__", "__init__", "NoLine.__init__",defArgs zkd,defBody zkd,defScope zkd,[],[]⟩
def dd77:He5.DefA:=⟨fun K=>He.ma K (He.ga K "NoPart") "__init__", "__init__", "NoPart.__init__",defArgs zjd,defBody zjd,defScope zjd,[],[]⟩
def dd78:He5.DefA:=⟨fun K=>He.ma K (He.ga K "Shallow") "__init__", "__init__", "Shallow.__init__",defArgs z4c,defBody z4c,defScope z4c,[],[]⟩
def dd79:He5.DefA:=⟨fun K=>He.ma K (He.ga K "TooMany") "__init__", "__init__", "TooMany.__init__",defArgs z3c,defBody z3c,defScope z3c,[],[]⟩
def dd80:He5.DefA:=⟨fun K=>He.ma K (He.ga K "Twice") "__init__", "__init__", "Twice.__init__",defArgs zvd,defBody zvd,defScope zvd,[],[]⟩
def fns0:List He5.DefA:=[dd0,dd2,dd4,dd6,dd8,dd10,dd12,dd14,dd16,dd18,dd20,dd22,dd24,dd26,dd28,dd30,dd32,dd34,dd36,dd38,dd40,dd42,dd44,dd46,dd48,dd50,dd52,dd54,dd56,dd58,dd60,dd62,dd64,dd66,dd68,dd70,dd72,dd74,dd76,dd78,dd80]
def cks0:List (PySem.W.Frag→Bool):=[fGlo "BadAmount",fGlo "BadLine",fGlo "BadTag",fGlo "NoLine",fGlo "Program",fGlo "TAGS",fGlo "Twice",fGlo "_law_fixed",fGlo "_law_letters",fGlo "_law_of",fGlo "_law_program",fGlo "_law_start",fGlo "_law_thing",fGlo "all_parts",fGlo "each",fGlo "flat_rows",fGlo "is_amount",fGlo "is_line",fGlo "is_number",fGlo "law",fGlo "line_nodes",fGlo "moved_blocks",fGlo "program_from",fGlo "rows_from",fGlo "shifted",fGlo "sum_members",fGlo "weight_of",fInt "MOST_LINES" 6,fInt "MOST_TAG" 8,fInt "MOST_WIDTH" 60,fFree "LookupError",fFree "OverflowError",fFree "abs",fFree "bool",fFree "int",fFree "len",fFree "max",fFree "range",fFree "str",fFree "tuple",fKeep "_law_draw",fKeep "_law_leaf",fKeep "_law_member",fKeep "_law_parts",fKeep "_law_right",fKeep "_law_sum",fKeep "_law_word",fKeep "checked",fKeep "fixed",fKeep "hole",fKeep "is_index",fKeep "is_name",fKeep "is_tag",fKeep "line_nodes",fKeep "moved_blocks",fKeep "program_from",fKeep "rows_from",fKeep "shifted",fKeep "sum_members",fKeep "weight_of",fCls "Program",fMkr "Block",fBi "LookupError" "LookupError.__init__",fBop "Block" "__add__" .Add bopTs,fBop "Block" "__rshift__" .RShift bopTs,fBop "Program" "__lshift__" .LShift bopTs,fCm "Block" "read",fEq "Program" bopTs,fErr "BadEach" "name",fErr "BadName" "value",fErr "Shallow" "line",fErrB "LookupError.__new__" zn4 "NoLine" "value",fErrB "OverflowError.__new__" zybb "TooMany" "limit",fIop .RShift "__irshift__" "Block",fOwn "Block" "__getitem__",fOwn "Block" "__neg__",fOwn "Block" "__str__",fOwn "Program" "at",fOwn "Program" "flush",fOwn "Program" "tagged",fProp "Program" "parts",fRopO .Add "__add__" "__radd__" ropTs "Block",fTwo "Block" "Program",fVe,fNoat "Program" "amount",fNoat "Program" "block",fNoat "Program" "cut",fNoat "Program" "members",fNoat "Program" "name",fNoat "Block" "rows",fNoat "Program" "size",fNoat "Program" "spots",fNoat "Program" "tag",fNoat "Program" "word",fTab znd [.own "Block",.bt "str"],fTab zkk [.bt "bool"],fTab zde [.bt "str"]]
def fns1:List He5.DefA:=[dd1,dd3,dd5,dd7,dd9,dd11,dd13,dd15,dd17,dd19,dd21,dd23,dd25,dd27,dd29,dd31,dd33,dd35,dd37,dd39,dd41,dd43,dd45,dd47,dd49,dd51,dd53,dd55,dd57,dd59,dd61,dd63,dd65,dd67,dd69,dd71,dd73,dd75,dd77,dd79]
def cks1:List (PySem.W.Frag→Bool):=[fGlo "BadEach",fGlo "BadName",fGlo "Block",fGlo "NoPart",fGlo "Shallow",fGlo "TooMany",fGlo "_law_draw",fGlo "_law_leaf",fGlo "_law_member",fGlo "_law_parts",fGlo "_law_right",fGlo "_law_sum",fGlo "_law_word",fGlo "checked",fGlo "fixed",fGlo "hole",fGlo "is_index",fGlo "is_name",fGlo "is_tag",fGlo "least_margin",fGlo "margin_of",fGlo "name_list",fGlo "raised_rows",fGlo "shallow_place",fGlo "split_text",fGlo "summed",fInt "MOST_AMOUNT" 20,fInt "MOST_PARTS" 16,fInt "MOST_WEIGHT" 3,fTupG "TAGS" ["tag", "raw"],fFree "NotImplemented",fFree "ValueError",fFree "all",fFree "enumerate",fFree "isinstance",fFree "list",fFree "min",fFree "sorted",fFree "sum",fFree "zip",fKeep "_law_fixed",fKeep "_law_letters",fKeep "_law_of",fKeep "_law_program",fKeep "_law_start",fKeep "_law_thing",fKeep "all_parts",fKeep "each",fKeep "flat_rows",fKeep "is_amount",fKeep "is_line",fKeep "is_number",fKeep "least_margin",fKeep "margin_of",fKeep "name_list",fKeep "raised_rows",fKeep "shallow_place",fKeep "split_text",fKeep "summed",fCls "Block",fRead "Block",fMkr "Program",fBi "OverflowError" "OverflowError.__init__",fBop "Block" "__lshift__" .LShift bopTs,fBop "Program" "__add__" .Add bopTs,fBop "Program" "__rshift__" .RShift bopTs,fEq "Block" bopTs,fErr "BadAmount" "value",fErr "BadLine" "value",fErr "BadTag" "value",fErr "Twice" "name",fErrB "LookupError.__new__" zn4 "NoPart" "value",fIop .Add "__iadd__" "Block",zzlb "Block",fOwn "Block" "__len__",fOwn "Block" "__setitem__",fOwn "Program" "__neg__",fOwn "Program" "first",fOwn "Program" "rest",fProp "Block" "lines",fProp "Program" "row",fRopO .Add "__add__" "__radd__" ropTs "Program",fTwo "Program" "Block",fCls "Program",fCls "Program",fCls "Program",fCls "Program",fCls "Program",fCls "Block",fCls "Program",fCls "Program",fCls "Program",fCls "Program",fTab zue [.own "Block"],fTab zwd [.own "Program"],fTab zwn [.bt "int"]]
def pts:List Part:=[(cks0,fns0),(cks1,fns1)]
abbrev RR:PySem.W.OpenRow:=PySem.W.OpenLaw.row PySem.Challenge.rw_indentholes_k26_sums_and_blocks
def objs:List Addr:=[3,0,4,6,15,16,17,18,19,20,21,29,30,31,32,33,34,35,36,37,38,39,49,50,51,52,53,54,55,56,57,58,59,69,70,71,72,73,74,75,
 76,77,78,79,89,90,91,92,93,94,95,96,97,98,99,109,110,111,112,113,114,115,116,117,118,119,129,130,131,132,133,134,135,136,137,138,139,149,150,151,
 152,153,154,155,156,157,158,159,169,170,171,172,173,174,175,176,177,178,179,189,190,191,192,193,194,195,196,197,198,199,209,210,211,212,213,214,215,216,217,218,
 219,229,230,231,232,233,234,235,236,237,238,239,249,250,251,252,253,254,255,256,257,258,259,269,270,271,272,273,274,275,276,277,278,279,289,290,291,292,293,294,
 295,296,297,298,299,302,303,304,305,306,307,308,309,310,311,312,313,314,315,316,317,318,319,320,321,322,323,324,325,326,327,328,329,330,331,332,333,334,335,336,
 337,338,339,340,341,342,343,344,345,346,347,348,349,350,351,352,353,354,355,356,357,358,359,360,361,362,363,364,365,366,367,368,369,370,371,372,373,374,375,376,
 377,378,379,380,381,382,383,384,385,386,387,388,389,390,391,392,393,394,395,396,397,398,399,400,401,402,403,404,412,413,414,415,416,422,423,424,425,426,432,433,
 434,435,436,442,443,444,448,449,450,456,457,458,459,460,461,462,463,464,465,466,467,468,469,470,471,472,473,474,475,476,477,478,479,480,481,482,483,484,485,486,
 487,488,489,490,491,492,493,494,495,496,497,498,499,500,501,502,503,504,505,506,507,508,509,510,511,512,513,514,515,516,517,518,519,520,521,522,523,524,525,526,
 527,528,529,530,531,532,533,534,535,536,537,538,539,540,541,542,543,544,545,546,547,548,549,550,551,552,553,554,555,556,557,558,559,560,561,562,563,564,565,566,
 567,568,569,570,571,572,573,574,575,576,577,578,579,580,581,582,583,584,585,586,587,588,589,590,591,592,593,594,595,596,597,598,599,600,601,602,603,604,605,606,
 607,610,611,612,613,614,615,616,617,618,619,620,621,622,623,624,625,626,627,628,629,630,631,632,633,634,635,636,637,638,639,640,641,642,643,644,645,646,647,648,
 649,650,651,652,653,654,655,656,657,658,659,660,661,662,663,664,665,666,667,668,669,670,671,672,673,674,675,676,677,678,679,680,681,682,683,684,685,686,687,688,
 689,690,691,692,693,694,695,696,697,698,699,700,701,702,703,704,705,706,707,708,709,710,711,712,713,714,715,716,717,718,719,720,721,722,723,724,725,726,727,728,
 729,730,731,732,733,734,735,736,737,738,739,740,741,742,743,751,752,753,754,755,756,757,758,759,760,761,762,763,764,765,766,767,768,769,770,771,772,773,774,775,
 776,777,778,779,780,781,782,783,784,785,786,787,788,789,790,791,792,793,794,795,796,797,798,799,800,801,802,803,804,805,806,807,808,809,810,811,812,813,814,815,
 816,817,818,819,820,821,822,823,824,825,826,827,828,829,830,831,832,833,834,835,836,837,838,839,840,841,842,843,844,845,846,852,853,854,858,859,860,866,867,868,
 874,875,876,882,883,884,885,886,887,888,889,892,893,894,895,896,897,898,899,900,901,902,903,904,905,906,907,908,909,910,911,912,913,914,915,916,917,918,919,920,
 921,922,923,924,925,926,927,928,929,930,931,932,933,934,935,936,937,938,939,940,941,942,943,944,945,946,947,948,949,950,951,952,953,954,955,956,957,958,959,960,
 961,962,963,964,965,966,967,968,969,970,971,972,973,974,975,976,977,978,979,980,981,982,983,984,985,986,987,988,989,990,991,992,993,994,995,996,997,998,999,1000,
 1001,1002,1003,1004,1005,1006,1007,1008,1009,1010,1011,1012,1013,1014,1015,1016,1017,1018,1019,1020,1021,1022,1023,1024,1025,1026,1027,1028,1029,1030,1031,1032,1033,1034,1035,1036,1037,1038,1039,1040,
 1041,1042,1043,1044,1045,1046,1047,1048,1049,1050,1051,1052,1053,1054,1055,1056,1057,1058,1059,1060,1061,1062,1063,1064,1065,1066,1067,1068,1069,1070,1071,1072,1073,1074,1075,1076,1077,1078,1079,1080,
 1081,1082,1083,1084,1085,1086,1087,1088,1089,1090,1091,1092,1093,1094,1095,1096,1097,1098,1099,1100,1101,1102]
abbrev hk:PySem.W.Hook:=zy4 (cStatics::objs) pts
abbrev ob:PySem.W.SharedT→List He.AlD:=obLs (cStatics::objs) pts
theorem ob_eq (s:PySem.W.SharedT):ob s=hk.obs s.abs:=zhib _ _ s
def loose:List PySem.Str:=(["_wall", "BadLine", "BadAmount", "BadName", "BadTag", "BadEach", "Twice", "Shallow", "NoResult", "BadFilling", "NoLine", "NoPart", "NoHole", "Unfilled", "TooMany", "MOST_AMOUNT", "MOST_TAG", "is_number", "is_index", "is_amount", "is_line", "is_tag", "margin_of", "moved", "moved_blocks", "first_place", "shallow_place", "least_margin", "flat_rows", "raised_rows"]:List PySem.Str)++(["parted_rows", "flushed_rows", "tagged_rows", "place_within", "lies_within", "Block", "rows_from", "line_nodes", "nodes_of", "levels_of", "first_off_level", "is_level", "is_filling", "split_text", "prepared", "prepared_text", "fixed_lines", "hole_lines", "moved_printing", "first_line", "outdented", "tagged_lines", "step_lines", "member_lines", "lines_of", "text_of", "line_text", "TAGS", "MOST_PARTS", "MOST_WEIGHT"]:List PySem.Str)++(["MOST_LINES", "MOST_WIDTH", "Program", "all_parts", "name_list", "weight_of", "checked", "fixed", "is_name", "hole", "each", "program_from", "sum_members", "summed", "shifted", "is_row", "given_texts", "_law_start", "_law_draw", "_law_of", "_law_letters", "_law_word", "_law_fixed", "_law_sum", "_law_leaf", "_law_nice", "_law_parts", "_law_names", "_law_put", "_law_spoilt"]:List PySem.Str)++(["_law_tree", "_law_program", "_law_member", "_law_thing", "_law_right"]:List PySem.Str)
set_option maxHeartbeats 0 in
theorem runA (w:World):GrpE RR (PySem.W.view RR.prog [103]) 40000 loose (cStatics::objs) [] w:=by
 intro os
 kernel_rfl
set_option maxHeartbeats 0 in
theorem runP0 (w:World):ObsPE RR 40000 (cStatics::objs) [(cks0,fns0)] w:=by
 intro os
 kernel_rfl
set_option maxHeartbeats 0 in
theorem runP1 (w:World):ObsPE RR 40000 (cStatics::objs) [(cks1,fns1)] w:=by
 intro os
 kernel_rfl
theorem run (w:World):HandSHeadRun.RunEq RR (PySem.W.view RR.prog [103]) (zy4 (cStatics::objs) pts) (obLs (cStatics::objs) pts) 40000 loose w:=by
 refine zmkb (as:=cStatics::objs) (ps:=pts) (runA w).look (runA w).seen ?_
 intro p hp
 have hp:p∈[(cks0,fns0),(cks1,fns1)]:=hp
 simp only[yo,y9b,or_false] at hp
 rcases hp with rfl |rfl
 ·exact (runP0 w).obs _ yb
 ·exact (runP1 w).obs _ yb
end LK
open PySem PySem.W PySem.Calls PyProof.Rows in
/-- the look at the law and the head, for any reading of the law's own def -/
theorem LK.early {R:DL.DF} (ht:∀ns:List Int,ns.length≤63→∃m',R [.d (.fz (ns.map DL.D.int))] [.hp []] = .ok (.d (.bl true)) m')
  (hf:∀{K:DL.Fg} {h:Heap} {mg:PySem.Str→Option Value},K.In h→h.Ns mainGlobals mg→(∀p∈LK.pts,DL.SaysM p.1 p.2 K)→mg ("law" : PySem.Str)=some (.ref (He.ga K "law"))∧∀(w:World) (base:Heap),DL.FnD (PySem.Challenge.rw_indentholes_k26_sums_and_blocks).prog w K mg base 154 (He.ga K "law") R):PySem.Challenge.rw_indentholes_k26_sums_and_blocks.Holds:=by
 w_on;o_law
 refine HandSHeadRun.head_any (r:=OpenLaw.row PySem.Challenge.rw_indentholes_k26_sums_and_blocks) (q:=view (OpenLaw.row PySem.Challenge.rw_indentholes_k26_sums_and_blocks).prog [103]) (H:=LK.hk) (ob:=LK.ob) (M:=40000) (loose:=LK.loose) (d:=HandSHeadRun.topDef (OpenLaw.row PySem.Challenge.rw_indentholes_k26_sums_and_blocks).prog 103) (kwd:=[]) LK.ob_eq
  (by kernel_rfl) (fun s=>by kernel_rfl) LK.run (by kernel_rfl) (by kernel_rfl) (by kernel_rfl) (by rfl) (by first |assumption |decide +kernel) (by decide +kernel) ⟨rfl,rfl,rfl,rfl,rfl,by decide +kernel⟩ ?hw ?hc
 case hw=>w_witness2
 case hc=>
  refine DL.zaeb (l:=PySem.Challenge.rw_indentholes_k26_sums_and_blocks) (n:=63) (k:=154) (R:=R) rfl (by decide) (by kernel_rfl) ⟨rfl,by decide,by decide⟩ ht ?F
  intro w mg fa h Y G hmg0
  obtain⟨K,KX,c⟩:=Y
  have hmg:mg ("law" : PySem.Str)=some (.ref fa):=by
   have e:(HandSHeadRun.topDef (OpenLaw.row PySem.Challenge.rw_indentholes_k26_sums_and_blocks).prog 103).name=("law" : PySem.Str):=by kernel_rfl
   rw[←e]
   exact hmg0
  obtain⟨g,f⟩:=hf KX G c
  have e:=hmg.symm.trans g
  cases e
  exact⟨K,KX,fun base=>f w base⟩
set_option Elab.async false
set_option linter.all false
set_option maxRecDepth 100000
set_option maxHeartbeats 4000000
namespace DL
open PySem PySem.Spec L2
open Evl (Ex)
def HC.cell:HC→Cell
 |.lst ws=>.lst (ws.map HW.toD)
 |.obj C ns ws=>.obj C ns (ws.map HW.toD)
 |.dic ks ws=>.dic ks (ws.map HW.toD)
 |.tup _=>.zd .opq
theorem HC.cell_toD:∀h:HC,h.cell.toD=h.toD
 |.lst _=>rfl
 |.obj _ _ _=>rfl
 |.dic _ _=>rfl
 |.tup _=>rfl
section
variable {K:Fg} {H H':Hp}
theorem RpL.getV:∀{vs:List V} {ds:List D} {i:Nat} {v:V},RpL K H vs ds→vs[i]?=some v→∃d,ds[i]?=some d∧Rp K H v d
 |_,_,_,_,.nil,e=>by simp at e
 |_,_,0,_,.cons r _,e=>by simp at e;subst e;exact⟨_,rfl,r⟩
 |_,_,i+1,d,.cons _ t,e=>by
  obtain⟨u,h1,h2⟩:=RpL.getV (i:=i) (v:=d) t (by simpa using e)
  exact⟨u,by simpa using h1,h2⟩
theorem RpL.of_strs:∀{vs:List V} {xs:List Str},RpL K H vs (xs.map D.str)→vs=xs.map V.str
 |_,[],h=>by cases h;rfl
 |_,x::xs,h=>by
  cases h with
  |cons a b=>
   cases a
   rw[RpL.of_strs b] <;> rfl
theorem RpL.of_ints:∀{vs:List V} {xs:List Int},RpL K H vs (xs.map D.int)→vs=xs.map V.int
 |_,[],h=>by cases h;rfl
 |_,x::xs,h=>by
  cases h with
  |cons a b=>
   cases a
   rw[RpL.of_ints b] <;> rfl
theorem RpL.of_bls:∀{vs:List V} {xs:List Bool},RpL K H vs (xs.map D.bl)→vs=xs.map V.bl
 |_,[],h=>by cases h;rfl
 |_,x::xs,h=>by
  cases h with
  |cons a b=>
   cases a
   rw[RpL.of_bls b] <;> rfl
end
structure Le0 (g g':Gh0):Prop where
 pre:g.al <+: g'.al
 pn:g'.pn=g.pn
def AA.push (g:AA) (q:Addr):AA:=⟨g.fl++[q],g.ha⟩
def AA.hpush (g:AA) (q:Addr):AA:=⟨g.fl,g.ha++[q]⟩
def Gh.push (g:Gh) (q:Addr):Gh:=⟨g.al.push q,g.pn⟩
def Gh.hpush (g:Gh) (q:Addr):Gh:=⟨g.al.hpush q,g.pn⟩
/-- the old cells, the new heap -/
def Gh.up (g g':Gh):Gh:=⟨⟨g.al.fl,g'.al.ha⟩,g.pn⟩
theorem z2b (g:Gh):Le g g:=⟨AA.refl _,rfl⟩
theorem Le.push (g:Gh) (q:Addr):Le g (g.push q):=⟨⟨⟨[q],rfl⟩,ycb _⟩,rfl⟩
theorem Le.hpush (g:Gh) (q:Addr):Le g (g.hpush q):=⟨⟨ycb _,⟨[q],rfl⟩⟩,rfl⟩
theorem Le.up {g g':Gh} (l:Le g g'):Le g (g.up g'):=⟨⟨ycb _,l.pre.hpre⟩,rfl⟩
theorem Le.l0 {g g':Gh} (l:Le g g'):Le0 g.g0 g'.g0:=⟨l.pre.pre,l.pn⟩
section
variable {K:Fg} {H1 H1' H H':Hp} {al al':Gh} {m:Mem}
theorem zsbb {al al':Gh} (p:Le al al') {k:Nat} {a:Addr} (h:al.al.fl[k]?=some a):al'.al.fl[k]?=some a:=by
 obtain⟨r,e⟩:=p.pre.pre
 rw[←e,yl (yc.mp h).1]
 exact h
theorem RpE.monoP (e:Ex H1 H1') (p:AA.le al.al al'.al) {σ : St} {dl:Env} (h:RpE K H1 al σ dl):RpE K H1' al' σ dl:=
 ⟨h.len,fun i w q=>let ⟨v,a,b⟩:=h.at_ i w q;⟨v,a,b.monoP e p⟩⟩
theorem CellAt.there {a:Addr}:∀{c:Cell},CellAt K H1 H a c→(∀hs,c ≠ .hp hs)→∃o,H a=some o
 |.lst _,⟨_,h,_⟩,_=>⟨_,h⟩
 |.obj _ _ _,⟨_,_,h,_,_⟩,_=>⟨_,h⟩
 |.zd _,⟨h,_⟩,_=>h
 |.dic _ _,⟨_,h,_,_⟩,_=>⟨_,h⟩
 |.dn _ _,⟨_,h,_,_⟩,_=>⟨_,h⟩
 |.dt _ _,⟨_,h,_⟩,_=>⟨_,h⟩
 |.hp _,_,n=>absurd rfl (n _)
theorem CellAt.thereL {a:Addr} {c:Cell} (h:CellAt K H1 H a c) (l:c.live=true):∃o,H a=some o:=h.there fun hs e=>by subst e;cases l
theorem zbeb {l:List Addr} {a:Addr} (h:a∈l.tail):∃i,0<i∧l[i]?=some a:=by
 obtain⟨k,hk⟩:=List.getElem?_of_mem h
 cases l with
 |nil=>simp at hk
 |cons x l=>exact⟨k+1,Nat.succ_pos _,hk⟩
theorem zoq {l r:List Addr} (h:0<l.length):(l++r).tail=l.tail++r:=by
 cases l with
 |nil=>cases h
 |cons x l=>rfl
section
variable {al al':Gh0}
/-- a live cell as data -/
theorem zzjb {a:Addr} {o:HO} {c:Cell} (e1:Ex H1 (upd H1 a o)) (ho:H a=some o) (hlv:c.live=true) (q:CellAt K H1 H a c):Rp K (upd H1 a o) (.ref a) c.fz:=by
 cases c with
 |lst ds=>
  obtain⟨vs,h1,h2⟩:=q
  rw[ho] at h1
  cases h1
  exact .lst upd_same (h2.mono e1)
 |obj C ns ds=>
  obtain⟨dx,fs,h1,h2,h3⟩:=q
  rw[ho] at h1
  cases h1
  exact .obj upd_same h2 (h3.mono e1)
 |dic ks ds=>exact .opq
 |dn ks ds=>exact .opq
 |dt ks ds=>exact .opq
 |zd x=>cases hlv
 |hp x=>cases hlv
theorem Rel0.pos (r:Rel0 K H1 H al m):0<al.al.length:=by
 obtain⟨hs,rest,e⟩:=r.hp0
 rw[r.len,e]
 exact Nat.succ_pos _
theorem Rel0.nohp (r:Rel0 K H1 H al m) {k:Nat} {c:Cell} (h:m[k]?=some c) (hk:0<k):∀hs,c ≠ .hp hs:=fun hs e=>by
 subst e
 have:=r.only k hs h
 omega
theorem Rel0.mem (r:Rel0 K H1 H al m) {a:Addr} (h:a∈al.al.tail):∃o,H a=some o:=by
 obtain⟨k,hp,hk⟩:=zbeb h
 obtain⟨c,hc,q⟩:=r.at_ hk
 exact q.there (r.nohp hc hp)
/-- a new object is made -/
theorem Rel0.new (r:Rel0 K H1 H al m) {p:Addr} {o:HO} (hp:H p=none):Rel0 K (upd H1 p o) (upd H p o) al m:=by
 have hp1:H1 p=none:=Evl.fresh_back r.ex hp
 have e1:Ex H1 (upd H1 p o):=ylb hp1
 refine⟨fun a u h=>?_,r.len,r.nd,fun k a c h1 h2 hl=>?_,fun k a c h1 h2=>?_,fun q hq=>?_,r.hp0,r.only,r.pnd⟩
 ·by_cases e:a=p
  ·subst e
   rw[upd_same] at h ⊢
   exact h
  ·rw[upd_ne e] at h ⊢
   exact r.ex a u h
 ·obtain⟨u,hu⟩:=(r.cells k a c h1 h2).thereL hl
  rw[upd_ne (ne_of_none hu hp)]
  exact r.fr k a c h1 h2 hl
 ·exact (r.cells k a c h1 h2).mono e1 fun u hu=>by rw[upd_ne (ne_of_none hu hp)];exact hu
 ·obtain⟨q1,q2,q3⟩:=r.pin q hq
  have ne:=ne_of_none q1 hp
  exact⟨by rw[upd_ne ne];exact q1,by rw[upd_ne ne];exact q2,q3⟩
theorem Rel0.fresh1 (r:Rel0 K H1 H al m) {p:Addr} (hp:H p=none):H1 p=none:=Evl.fresh_back r.ex hp
/-- .. that is untracked by the data -/
theorem Rel0.grow (r:Rel0 K H1 H al m) (e:Ex H H'):Rel0 K H1 H' al m:=
 ⟨r.ex.trans e,r.len,r.nd,r.fr,fun k a c h1 h2=>(r.cells k a c h1 h2).mono (Ex.refl _) fun u hu=>e a u hu,fun q hq=>let ⟨q1,q2,q3⟩:=r.pin q hq;⟨e _ _ q1,q2,q3⟩,r.hp0,r.only,r.pnd⟩
theorem z5u {l:List Addr} {p:Addr} (h:l.Nodup) (hp:p ∉ l):(l++[p]).Nodup:=by
 rw[yjc]
 refine⟨h,by simp,fun a ha b hb=>?_⟩
 rw[yj] at hb
 subst hb
 intro e
 subst e
 exact hp ha
theorem zabb {l:List Addr} {m:Mem} (hlen:l.length=m.length) {p a:Addr} {c c':Cell} {k:Nat} (h1:(l++[p])[k]?=some a) (h2:(m++[c])[k]?=some c'):(l[k]?=some a∧m[k]?=some c')∨(k=m.length∧a=p∧c'=c):=by
 by_cases hk:k<l.length
 ·rw[yl hk] at h1
  rw[yl (by rw[←hlen];exact hk)] at h2
  exact .inl ⟨h1,h2⟩
 ·rw[yf (yac hk)] at h1
  rw[yf (by rw[←hlen];exact yac hk)] at h2
  have e:k-l.length=0:=by
   have q:=(yc.mp h1).1
   simp at q
   omega
  rw[e] at h1
  rw[←hlen,e] at h2
  simp at h1 h2
  exact .inr ⟨by omega,h1.symm,h2.symm⟩
theorem z9ab {m:Mem} {c:Cell} (o:∀(k:Nat) (hs:List HC),m[k]?=some (.hp hs)→k=0) (n:∀hs,c ≠ .hp hs) (k:Nat) (hs:List HC) (h:(m++[c])[k]?=some (.hp hs)):k=0:=by
 by_cases hk:k<m.length
 ·rw[yl hk] at h
  exact o k hs h
 ·rw[yf (yac hk)] at h
  have e:k-m.length=0:=by
   have q:=(yc.mp h).1
   simp at q
   omega
  rw[e] at h
  simp at h
  exact absurd h (n hs)
theorem zslb {m n:Mem} (h:∃hs rest,m = .hp hs::rest):∃hs rest,m++n = .hp hs::rest:=by
 obtain⟨hs,rest,rfl⟩:=h
 exact⟨hs,rest++n,rfl⟩
/-- a new cell -/
theorem Rel0.cell (r:Rel0 K H1 H al m) {p:Addr} {o:HO} {c:Cell} (hp:H p=none) (hc:CellAt K H1 (upd H p o) p c) (nh:∀hs,c ≠ .hp hs):Rel0 K H1 (upd H p o) (⟨al.al++[p],al.pn⟩:Gh0) (m++[c]):=by
 have hn:p ∉ al.al.tail:=fun h=>by
  obtain⟨u,hu⟩:=r.mem h
  rw[hp] at hu
  cases hu
 refine⟨fun a u h=>?_,by rw[yg,yg,r.len] <;> rfl,by show (al.al++[p]).tail.Nodup;rw[zoq r.pos];exact z5u r.nd hn,fun k a c' h1 h2 hl=>?_,fun k a c' h1 h2=>?_,fun q hq=>?_,zslb r.hp0,z9ab r.only nh,r.pnd⟩
 ·rw[upd_ne (ne_of_none (r.ex a u h) hp)]
  exact r.ex a u h
 ·rcases zabb r.len h1 h2 with ⟨h1,h2⟩ |⟨_,rfl,rfl⟩
  ·exact r.fr k a c' h1 h2 hl
  ·exact r.fresh1 hp
 ·rcases zabb r.len h1 h2 with ⟨h1,h2⟩ |⟨_,rfl,rfl⟩
  ·exact (r.cells k a c' h1 h2).mono (Ex.refl _) fun u hu=>by rw[upd_ne (ne_of_none hu hp)];exact hu
  ·exact hc
 ·obtain⟨q1,q2,q3⟩:=r.pin q hq
  have ne:=ne_of_none q1 hp
  refine⟨by rw[upd_ne ne];exact q1,q2,fun z=>?_⟩
  replace z:q.1∈(al.al++[p]).tail:=z
  rw[zoq r.pos] at z
  rcases yz.mp z with z |z
  ·exact q3 z
  ·exact ne (yj.mp z)
theorem z8ib {m:Mem} (h:∃hs rest,m = .hp hs::rest) {n:Nat} (hn:0<n):∃hs rest,m.take n = .hp hs::rest:=by
 obtain⟨hs,rest,rfl⟩:=h
 cases n with
 |zero=>cases hn
 |succ n=>exact⟨hs,rest.take n,rfl⟩
theorem z2ab {m:Mem} {n:Nat} (o:∀(k:Nat) (hs:List HC),m[k]?=some (.hp hs)→k=0) (k:Nat) (hs:List HC) (h:(m.take n)[k]?=some (.hp hs)):k=0:=by
 have hk:=(yc.mp h).1
 rw[y6c] at hk
 rw[y1b (by omega)] at h
 exact o k hs h
/-- cells are forgotten -/
theorem Rel0.cut (r:Rel0 K H1 H al' m) (p:Le0 al al') (hn:0<al.al.length):Rel0 K H1 H al (m.take al.al.length):=by
 obtain⟨⟨rest,e⟩,e2⟩:=p
 have nd:=r.nd
 have ln:=r.len
 rw[←e] at nd ln
 rw[zoq hn] at nd
 have sub:∀a,a∈al.al.tail→a∈al'.al.tail:=fun a ha=>by rw[←e,zoq hn];exact ypb _ ha
 refine⟨r.ex,?_,(yjc.mp nd).1,fun k a c h1 h2 hl=>?_,fun k a c h1 h2=>?_,fun q hq=>?_,z8ib r.hp0 hn,z2ab r.only,by rw[←e2];exact r.pnd⟩
 ·rw[y6c,←ln,yg]
  omega
 ·have hk:=(yc.mp h1).1
  rw[y1b hk] at h2
  exact r.fr k a c (by rw[←e,yl hk];exact h1) h2 hl
 ·have hk:=(yc.mp h1).1
  rw[y1b hk] at h2
  exact r.cells k a c (by rw[←e,yl hk];exact h1) h2
 ·obtain⟨q1,q2,q3⟩:=r.pin q (by rw[e2];exact hq)
  exact⟨q1,q2,fun z=>q3 (sub _ z)⟩
/-- a cell becomes data -/
theorem Rel0.freeze (r:Rel0 K H1 H al' m) (p:Le0 al al') (hn:0<al.al.length) {k:Nat} {a:Addr} {c:Cell} (hk:al'.al[k]?=some a) (hl:al.al.length≤k) (hc:m[k]?=some c) :
  ∃H1',Ex H1 H1'∧(∀b,H1' b=H1 b∨b=a)∧Rel0 K H1' H al (m.take al.al.length)∧Rp K H1' (.ref a) c.fz:=by
 have q:=r.cells k a c hk hc
 cases hlv:c.live with
 |false=>
  cases c with
  |zd x=>exact⟨H1,Ex.refl _,fun _=>.inl rfl,r.cut p hn,q.2⟩
  |hp x=>exact⟨H1,Ex.refl _,fun _=>.inl rfl,r.cut p hn,.opq⟩
  |lst _=>cases hlv
  |obj _ _ _=>cases hlv
  |dic _ _=>cases hlv
  |dn _ _=>cases hlv
  |dt _ _=>cases hlv
 |true=>
 obtain⟨o,ho⟩:=q.thereL hlv
 have e1:Ex H1 (upd H1 a o):=ylb (r.fr k a c hk hc hlv)
 have r0:=r.cut p hn
 refine⟨upd H1 a o,e1,fun b=>if h:b=a then .inr h else .inl (upd_ne h),⟨fun b u h=>?_,r0.len,r0.nd,fun j b c' hj hc' hl'=>?_,fun j b c' h1 h2=>(r0.cells j b c' h1 h2).mono e1 fun _ z=>z,fun q hq=>?_,r0.hp0,r0.only,r0.pnd⟩,?_⟩
 ·by_cases e:b=a
  ·subst e
   rw[upd_same] at h
   rw[←h]
   exact ho
  ·rw[upd_ne e] at h
   exact r.ex b u h
 ·rw[upd_ne]
  ·exact r0.fr j b c' hj hc' hl'
  ·rintro rfl
   have hj2:=(yc.mp hj).1
   have:=zh8 r.nd (by omega) (DL.nohp r0.hp0 hc' hl') hk (z6o p.pre hj)
   omega
 ·obtain⟨q1,q2,q3⟩:=r.pin q (by rw[p.pn];exact hq)
  have ne:q.1≠a:=fun e=>q3 (by rw[e];exact zun (by omega) hk)
  exact⟨q1,by rw[upd_ne ne];exact q2,(r0.pin q hq).2.2⟩
 ·exact zzjb e1 ho hlv q
/-- a list under construction -/
theorem Rel0.pinNew (r:Rel0 K H1 H al m) {p:Addr} {o:HO} (hp:H p=none):Rel0 K H1 (upd H p o) ⟨al.al,(p,o)::al.pn⟩ m:=by
 have g:=r.grow (ylb (o:=o) hp)
 refine⟨g.ex,g.len,g.nd,g.fr,g.cells,fun q hq=>?_,g.hp0,g.only,?_⟩
 ·rcases yo.mp hq with e |hq
  ·subst e
   refine⟨upd_same,r.fresh1 hp,fun z=>?_⟩
   obtain⟨u,hu⟩:=r.mem z
   rw[hp] at hu
   cases hu
  ·exact g.pin q hq
 ·show (p::al.pn.map (·.1)).Nodup
  refine ywc.mpr ⟨fun z=>?_,r.pnd⟩
  obtain⟨q,hq,e⟩:=yfb.mp z
  have q1:=(r.pin q hq).1
  rw[e,hp] at q1
  cases q1
theorem Rel0.zero (r:Rel0 K H1 H al m) {c:Cell} (h:m[0]?=some c):CellAt K H1 H' a c:=by
 obtain⟨hs,rest,e⟩:=r.hp0
 rw[e] at h
 cases h
 trivial
theorem Rel0.pinPut {pn:List (Addr × HO)} {aa:List Addr} {p:Addr} {o o':HO} (r:Rel0 K H1 H ⟨aa,(p,o)::pn⟩ m):Rel0 K H1 (upd H p o') ⟨aa,(p,o')::pn⟩ m:=by
 obtain⟨p1,p2,p3⟩:=r.pin (p,o) yb
 have nd:(p::pn.map (·.1)).Nodup:=r.pnd
 refine⟨fun a u h=>?_,r.len,r.nd,r.fr,fun k a c h1 h2=>?_,fun q hq=>?_,r.hp0,r.only,nd⟩
 ·rw[upd_ne (fun e=>by rw[e,p2] at h;cases h)]
  exact r.ex a u h
 ·by_cases hz:k=0
  ·subst hz
   exact r.zero h2
  ·refine (r.cells k a c h1 h2).mono (Ex.refl _) fun u hu=>?_
   rw[upd_ne (fun e=>p3 (by rw[←e];exact zun (Nat.pos_of_ne_zero hz) h1))]
   exact hu
 ·rcases yo.mp hq with e |hq
  ·subst e
   exact⟨upd_same,p2,p3⟩
  ·obtain⟨q1,q2,q3⟩:=r.pin q (yd _ hq)
   refine⟨?_,q2,q3⟩
   rw[upd_ne]
   ·exact q1
   ·intro e
    exact (ywc.mp nd).1 (by rw[←e];exact List.mem_map_of_mem hq)
theorem Rel0.pinEnd {pn:List (Addr × HO)} {aa:List Addr} {p:Addr} {o:HO} (r:Rel0 K H1 H ⟨aa,(p,o)::pn⟩ m):Ex H1 (upd H1 p o)∧Rel0 K (upd H1 p o) H ⟨aa,pn⟩ m:=by
 obtain⟨p1,p2,p3⟩:=r.pin (p,o) yb
 have nd:(p::pn.map (·.1)).Nodup:=r.pnd
 have e1:Ex H1 (upd H1 p o):=ylb p2
 refine⟨e1,⟨fun a u h=>?_,r.len,r.nd,fun k a c h1 h2 hl=>?_,fun k a c h1 h2=>(r.cells k a c h1 h2).mono e1 fun _ z=>z,fun q hq=>?_,r.hp0,r.only,(ywc.mp nd).2⟩⟩
 ·by_cases e:a=p
  ·subst e
   rw[upd_same] at h
   rw[←h]
   exact p1
  ·rw[upd_ne e] at h
   exact r.ex a u h
 ·rw[upd_ne (fun e=>p3 (by rw[←e];exact zun (DL.nohp r.hp0 h2 hl) h1))]
  exact r.fr k a c h1 h2 hl
 ·obtain⟨q1,q2,q3⟩:=r.pin q (yd _ hq)
  refine⟨q1,?_,q3⟩
  rw[upd_ne]
  ·exact q2
  ·intro e
   exact (ywc.mp nd).1 (by rw[←e];exact List.mem_map_of_mem hq)
end
theorem RpHs.ofD {ha:List Addr}:∀{vs:List V} {ds:List D},RpL K H1 vs ds→RpHs K H1 ha vs (ds.map HW.d)
 |_,_,.nil=>.nil
 |_,_,.cons (d:=x) h r=>.cons (w:=.d x) h (RpHs.ofD r)
theorem HAt.there {ha:List Addr} {a:Addr}:∀{c:HC},HAt K H1 ha H a c→∃o,H a=some o
 |.lst _,⟨_,h,_⟩=>⟨_,h⟩
 |.obj _ _ _,⟨_,_,h,_,_⟩=>⟨_,h⟩
 |.dic _ _,⟨_,h,_,_⟩=>⟨_,h⟩
 |.tup _,⟨_,h,_⟩=>⟨_,h⟩
theorem HAt.cell {ha:List Addr} {a:Addr}:∀{c:HC},HAt K H1 ha H a c→CellAt K H1 H a c.cell
 |.lst _,⟨vs,h,r⟩=>⟨vs,h,r.toD⟩
 |.obj _ _ _,⟨dx,fs,h,n,r⟩=>⟨dx,fs,h,n,r.toD⟩
 |.dic _ _,⟨kvs,h,n,r⟩=>⟨kvs,h,n,r.toD⟩
 |.tup _,⟨vs,h,r⟩=>⟨⟨_,h⟩,.opq⟩
theorem Rel.hat (r:Rel K H1 H al m) {i:Nat} {a:Addr} (h:al.al.ha[i]?=some a):∃c,(heapOf m)[i]?=some c∧HAt K H1 al.al.ha H a c:=by
 have hl:i<(heapOf m).length:=by
  rw[←r.hlen]
  exact (yc.mp h).1
 exact⟨(heapOf m)[i],yt hl,r.hcells i a _ h (yt hl)⟩
theorem Rel.hmem (r:Rel K H1 H al m) {a:Addr} (h:a∈al.al.ha):∃o,H a=some o:=by
 obtain⟨k,hk⟩:=List.getElem?_of_mem h
 obtain⟨c,_,q⟩:=r.hat hk
 exact q.there
theorem Rel.fresh1 (r:Rel K H1 H al m) {p:Addr} (hp:H p=none):H1 p=none:=r.b.fresh1 hp
theorem Rel.mem (r:Rel K H1 H al m) {a:Addr} (h:a∈al.al.fl.tail):∃o,H a=some o:=r.b.mem h
/-- a new object is made -/
theorem Rel.new (r:Rel K H1 H al m) {p:Addr} {o:HO} (hp:H p=none):Rel K (upd H1 p o) (upd H p o) al m:=
 ⟨r.b.new hp,r.hpin,r.hlen,r.hnd,fun a h=>by
  obtain⟨u,hu⟩:=r.hmem h
  rw[upd_ne (ne_of_none hu hp)]
  exact r.hfr a h,fun i a h h1 h2=>by
  obtain⟨u,hu⟩:=(r.hcells i a h h1 h2).there
  exact (r.hcells i a h h1 h2).mono (ylb (r.fresh1 hp)) (ycb _) fun u hu=>by rw[upd_ne (ne_of_none hu hp)];exact hu⟩
theorem Rel.grow (r:Rel K H1 H al m) (e:Ex H H'):Rel K H1 H' al m:=
 ⟨r.b.grow e,r.hpin,r.hlen,r.hnd,r.hfr,fun i a h h1 h2=>(r.hcells i a h h1 h2).mono (Ex.refl _) (ycb _) fun u hu=>e a u hu⟩
theorem zk1 {m n:Mem} (h:∃hs rest,m = .hp hs::rest):heapOf (m++n)=heapOf m:=by
 obtain⟨hs,rest,rfl⟩:=h
 rfl
theorem z76 {m:Mem} (h:∃hs rest,m = .hp hs::rest) {n:Nat} (hn:0<n):heapOf (m.take n)=heapOf m∧∃hs rest,m.take n = .hp hs::rest:=by
 obtain⟨hs,rest,rfl⟩:=h
 cases n with
 |zero=>cases hn
 |succ n=>exact⟨rfl,hs,rest.take n,rfl⟩
/-- a new cell -/
theorem Rel.cell (r:Rel K H1 H al m) {p:Addr} {o:HO} {c:Cell} (hp:H p=none) (hc:CellAt K H1 (upd H p o) p c) (nh:∀hs,c ≠ .hp hs:=by intro _ z;cases z):Rel K H1 (upd H p o) (al.push p) (m++[c]):=by
 have hh:=r.hp
 refine⟨r.b.cell hp hc nh,r.hpin,by rw[zk1 hh];exact r.hlen,r.hnd,fun a h=>⟨(r.hfr a h).1,fun z=>?_⟩,fun i a h h1 h2=>?_⟩
 ·obtain⟨u,hu⟩:=r.hmem h
  replace z:a∈(al.al.fl++[p]).tail:=z
  rw[zoq (show 0<al.al.fl.length from r.b.pos)] at z
  rcases yz.mp z with z |z
  ·exact (r.hfr a h).2 z
  ·exact ne_of_none hu hp (yj.mp z)
 ·rw[zk1 hh] at h2
  exact (r.hcells i a h h1 h2).mono (Ex.refl _) (ycb _) fun u hu=>by rw[upd_ne (ne_of_none hu hp)];exact hu
/-- cells are forgotten -/
theorem Rel.cut (r:Rel K H1 H al' m) (p:Le al al') (hn:0<al.al.fl.length):Rel K H1 H (al.up al') (m.take al.al.fl.length):=by
 obtain⟨e1,e2⟩:=z76 r.hp hn
 have b:=r.b.cut p.l0 hn
 refine⟨b,fun q hq=>r.hpin q (by rw[p.pn];exact hq),by rw[e1];exact r.hlen,r.hnd,fun a h=>⟨(r.hfr a h).1,fun z=>(r.hfr a h).2 ?_⟩,fun i a h h1 h2=>?_⟩
 ·obtain⟨rest,e⟩:=p.pre.pre
  rw[←e,zoq hn]
  exact ypb _ z
 ·rw[e1] at h2
  exact r.hcells i a h h1 h2
theorem Rel.pos (r:Rel K H1 H al m):0<al.al.fl.length:=by
 obtain⟨hs,rest,e⟩:=r.hp
 rw[r.len,e]
 exact Nat.succ_pos _
/-- a cell becomes data -/
theorem Rel.freeze (r:Rel K H1 H al' m) (p:Le al al') (hn:0<al.al.fl.length) {k:Nat} {a:Addr} {c:Cell} (hk:al'.al.fl[k]?=some a) (hl:al.al.fl.length≤k) (hc:m[k]?=some c) :
  ∃H1',Ex H1 H1'∧Rel K H1' H (al.up al') (m.take al.al.fl.length)∧Rp K H1' (.ref a) c.fz:=by
 obtain⟨H1',e,ch,b,q⟩:=r.b.freeze p.l0 hn hk hl hc
 have r0:=r.cut p hn
 refine⟨H1',e,⟨b,r0.hpin,r0.hlen,r0.hnd,fun x h=>⟨?_,(r0.hfr x h).2⟩,fun i x h h1 h2=>(r0.hcells i x h h1 h2).mono e (ycb _) fun _ z=>z⟩,q⟩
 rcases ch x with z |rfl
 ·rw[z]
  exact (r.hfr x h).1
 ·exact absurd (zun (by omega) hk) (r.hfr x h).2
/-- a list under construction -/
theorem Rel.pinNew (r:Rel K H1 H al m) {p:Addr} {o:HO} (hp:H p=none):Rel K H1 (upd H p o) ⟨al.al,(p,o)::al.pn⟩ m:=by
 have g:=r.grow (ylb (o:=o) hp)
 refine⟨r.b.pinNew hp,fun q hq=>?_,g.hlen,g.hnd,g.hfr,g.hcells⟩
 rcases yo.mp hq with e |hq
 ·subst e
  intro z
  obtain⟨u,hu⟩:=r.hmem z
  rw[hp] at hu
  cases hu
 ·exact r.hpin q hq
theorem Rel.pinPut {pn:List (Addr × HO)} {aa:AA} {p:Addr} {o o':HO} (r:Rel K H1 H ⟨aa,(p,o)::pn⟩ m):Rel K H1 (upd H p o') ⟨aa,(p,o')::pn⟩ m:=by
 have np:p ∉ aa.ha:=r.hpin (p,o) yb
 refine⟨r.b.pinPut,fun q hq=>?_,r.hlen,r.hnd,r.hfr,fun i a h h1 h2=>?_⟩
 ·rcases yo.mp hq with e |hq
  ·subst e
   exact np
  ·exact r.hpin q (yd _ hq)
 ·refine (r.hcells i a h h1 h2).mono (Ex.refl _) (ycb _) fun u hu=>?_
  rw[upd_ne (fun e=>np (by rw[←e];exact ywb h1))]
  exact hu
theorem Rel.pinEnd {pn:List (Addr × HO)} {aa:AA} {p:Addr} {o:HO} (r:Rel K H1 H ⟨aa,(p,o)::pn⟩ m):Ex H1 (upd H1 p o)∧Rel K (upd H1 p o) H ⟨aa,pn⟩ m:=by
 have np:p ∉ aa.ha:=r.hpin (p,o) yb
 obtain⟨e,b⟩:=r.b.pinEnd
 refine⟨e,b,fun q hq=>r.hpin q (yd _ hq),r.hlen,r.hnd,fun a h=>⟨?_,(r.hfr a h).2⟩,fun i a h h1 h2=>(r.hcells i a h h1 h2).mono e (ycb _) fun _ z=>z⟩
 rw[upd_ne (fun e=>np (by rw[←e];exact h))]
 exact (r.hfr a h).1
theorem Rel.hsetB (r:Rel K H1 H al m) (hs:List HC):Rel0 K H1 H al.g0 (hset m hs):=by
 obtain⟨h0,rest,rfl⟩:=r.hp
 refine⟨r.ex,r.len,r.nd,fun k a c h1 h2 hl=>?_,fun k a c h1 h2=>?_,r.b.pin,⟨_,_,rfl⟩,fun k hs' h=>?_,r.b.pnd⟩
 ·cases k with
  |zero=>cases h2;cases hl
  |succ k=>exact r.fr (k+1) a c h1 h2 hl
 ·cases k with
  |zero=>
   cases h2
   trivial
  |succ k=>exact r.cells (k+1) a c h1 h2
 ·cases k with
  |zero=>rfl
  |succ k=>exact r.b.only (k+1) hs' h
theorem zes {m:Mem} (h:∃hs rest,m = .hp hs::rest) (hs:List HC):heapOf (hset m hs)=hs∧∃hs' rest,hset m hs = .hp hs'::rest:=by
 obtain⟨h0,rest,rfl⟩:=h
 exact⟨rfl,_,_,rfl⟩
theorem Rel.hnew (r:Rel K H1 H al m) {p:Addr} {o:HO} {c:HC} (hp:H p=none) (hc:HAt K H1 (al.al.ha++[p]) (upd H p o) p c):Rel K H1 (upd H p o) (al.hpush p) (hset m (heapOf m++[c])):=by
 obtain⟨e1,e2⟩:=zes r.hp (heapOf m++[c])
 have g:=r.grow (ylb (o:=o) hp)
 have np:p ∉ al.al.ha:=fun z=>by
  obtain⟨u,hu⟩:=r.hmem z
  rw[hp] at hu
  cases hu
 have nf:p ∉ al.al.fl.tail:=fun z=>by
  obtain⟨u,hu⟩:=r.mem z
  rw[hp] at hu
  cases hu
 refine⟨g.hsetB _,fun q hq=>?_,?_,z5u r.hnd np,fun a h=>?_,fun i a h h1 h2=>?_⟩
 ·intro z
  rcases yz.mp (show q.1∈al.al.ha++[p] from z) with z |z
  ·exact r.hpin q hq z
  ·have q1:=(r.b.pin q hq).1
   rw[yj.mp z,hp] at q1
   cases q1
 ·rw[e1]
  show (al.al.ha++[p]).length=_
  rw[yg,yg,r.hlen] <;> rfl
 ·rcases yz.mp (show a∈al.al.ha++[p] from h) with z |z
  ·exact r.hfr a z
  ·rw[yj.mp z]
   exact⟨r.fresh1 hp,nf⟩
 ·rw[e1] at h2
  replace h1:(al.al.ha++[p])[i]?=some a:=h1
  show HAt K H1 (al.al.ha++[p]) (upd H p o) a h
  by_cases hk:i<al.al.ha.length
  ·rw[yl hk] at h1
   rw[yl (by rw[←r.hlen];exact hk)] at h2
   exact (r.hcells i a h h1 h2).mono (Ex.refl _) ⟨[p],rfl⟩ fun u hu=>by rw[upd_ne (ne_of_none hu hp)];exact hu
  ·rw[yf (yac hk)] at h1
   rw[yf (by rw[←r.hlen];exact yac hk)] at h2
   have e:i-al.al.ha.length=0:=by
    have q:=(yc.mp h1).1
    simp at q
    omega
   rw[e] at h1
   rw[←r.hlen,e] at h2
   simp at h1 h2
   subst h1 h2
   exact hc
/-- a thing of the heap changes -/
theorem Rel.hput (r:Rel K H1 H al m) {i:Nat} {a:Addr} {o:HO} {c:HC} (hi:al.al.ha[i]?=some a) (hc:HAt K H1 al.al.ha (upd H a o) a c):Rel K H1 (upd H a o) al (hset m ((heapOf m).set i c)):=by
 obtain⟨e1,e2⟩:=zes r.hp ((heapOf m).set i c)
 obtain⟨n1,nf⟩:=r.hfr a (ywb hi)
 have ne:∀{j:Nat} {b:Addr},i≠j→al.al.ha[j]?=some b→b≠a:=fun hj h1 e=>by
  subst e
  exact hj ((List.getElem?_inj (yc.mp hi).1 r.hnd).mp (hi.trans h1.symm))
 have b:Rel0 K H1 (upd H a o) al.g0 m:=by
  refine⟨fun b u h=>?_,r.len,r.nd,r.fr,fun k b c h1 h2=>?_,fun q hq=>?_,r.hp,r.b.only,r.b.pnd⟩
  ·rw[upd_ne (fun e=>by rw[e,n1] at h;cases h)]
   exact r.ex b u h
  ·by_cases hz:k=0
   ·subst hz
    exact r.b.zero h2
   ·refine (r.cells k b c h1 h2).mono (Ex.refl _) fun u hu=>?_
    rw[upd_ne (fun e=>nf (by rw[←e];exact zun (Nat.pos_of_ne_zero hz) h1))]
    exact hu
  ·obtain⟨q1,q2,q3⟩:=r.b.pin q hq
   have ne:q.1≠a:=fun e=>r.hpin q hq (by rw[e];exact ywb hi)
   exact⟨by rw[upd_ne ne];exact q1,q2,q3⟩
 have b2:Rel0 K H1 (upd H a o) al.g0 (hset m ((heapOf m).set i c)):=by
  obtain⟨h0,rest,rfl⟩:=r.hp
  refine⟨b.ex,b.len,b.nd,fun k a c h1 h2 hl=>?_,fun k a c h1 h2=>?_,b.pin,⟨_,_,rfl⟩,fun k hs' h=>?_,b.pnd⟩
  ·cases k with
   |zero=>cases h2;cases hl
   |succ k=>exact b.fr (k+1) a c h1 h2 hl
  ·cases k with
   |zero=>
    cases h2
    trivial
   |succ k=>exact b.cells (k+1) a c h1 h2
  ·cases k with
   |zero=>rfl
   |succ k=>exact b.only (k+1) hs' h
 refine⟨b2,r.hpin,by rw[e1,yeb];exact r.hlen,r.hnd,r.hfr,fun j b h h1 h2=>?_⟩
 rw[e1] at h2
 by_cases hj:i=j
 ·subst hj
  rw[hi] at h1
  cases h1
  have hl:i<(heapOf m).length:=by
   have:=(yc.mp h2).1
   rwa [yeb] at this
  rw[yu hl] at h2
  cases h2
  exact hc
 ·rw[yq hj] at h2
  refine (r.hcells j b h h1 h2).mono (Ex.refl _) (ycb _) fun u hu=>?_
  rw[upd_ne (ne hj h1)]
  exact hu
theorem RpW.rh (r:Rel K H1 H al m) {v:V} {w:W} {x:D} (h:RpW K H1 al v w) (e:w.rd m=some x):Rh K H1 H v x:=by
 cases w with
 |d y=>
  cases e
  exact .p h
 |c k=>
  obtain⟨a,ha,rfl⟩:=h
  obtain⟨c,hc,q⟩:=r.at_ ha
  have e2:(m[k]?).map Cell.toD=some x:=e
  rw[hc] at e2
  cases e2
  cases hlv:c.live with
  |true=>exact .c hlv q
  |false=>
   cases c with
   |zd x=>exact .p q.2
   |hp x=>exact .p .opq
   |lst _=>cases hlv
   |obj _ _ _=>cases hlv
   |dic _ _=>cases hlv
   |dn _ _=>cases hlv
   |dt _ _=>cases hlv
 |ex _ _ _ _ _=>cases e
 |h i=>
  obtain⟨a,ha,rfl⟩:=h
  obtain⟨c,hc,q⟩:=r.hat ha
  have e2:((heapOf m)[i]?).map HC.toD=some x:=e
  rw[hc] at e2
  cases e2
  rw[←HC.cell_toD]
  cases c with
  |tup _=>exact .p .opq
  |lst _=>exact .c rfl q.cell
  |obj _ _ _=>exact .c rfl q.cell
  |dic _ _=>exact .c rfl q.cell
end
def GV (K:Fg) (Q:VK):Hp→Gh→Hp→W→Prop:=fun H1 al H w=>∀v,RpW K H1 al v w→Q v H
def GT (Q:Bool→Hp→Prop):Hp→Gh→Hp→Bool→Prop:=fun _ _ H b=>Q b H
def GA (K:Fg) (Q:List V→Hp→Prop):Hp→Gh→Hp→List W→Prop:=fun H1 al H ws=>∀vs,RpWs K H1 al vs ws→Q vs H
def tD (K:Fg) (Wx:WX) (f:DE):TE:=fun σ H Q=>∃H1 al dl m,Rel K H1 H al m∧RpE K H1 al σ dl∧Post K H1 al σ Wx (GV K Q) (f dl m)
def tT (K:Fg) (Wx:WX) (f:DT):TT:=fun σ H Q=>∃H1 al dl m,Rel K H1 H al m∧RpE K H1 al σ dl∧Post K H1 al σ Wx (GT Q) (f dl m)
def tA (K:Fg) (Wx:WX) (f:DA):TA:=fun σ H Q=>∃H1 al dl m,Rel K H1 H al m∧RpE K H1 al σ dl∧Post K H1 al σ Wx (GA K Q) (f dl m)
section
variable {K:Fg} {H1 H1' H H':Hp} {al al':Gh} {m:Mem} {σ : St} {Wx:WX} {α β : Type}
theorem Post.ok_ {G:Hp→Gh→Hp → α → Prop} {w : α} (r:Rel K H1 H al m) (h:Post K H1 al σ Wx G (.ok w m)):G H1 al H w:=h H1 al H (Ex.refl _) (z2b _) r
end
theorem peImp {X:Cx} {e:Expr} {t t':TE} (h:PE X e t) (k:∀ σ H Q,t' σ H Q→t σ H Q):PE X e t':=⟨fun pins s σ H Q I hw=>h.run pins s σ H Q I (k σ H Q hw)⟩
theorem ptImp {X:Cx} {e:Expr} {t t':TT} (h:PT X e t) (k:∀ σ H Q,t' σ H Q→t σ H Q):PT X e t':=⟨fun pins s σ H Q I hw=>h.run pins s σ H Q I (k σ H Q hw)⟩
theorem paImp {X:Cx} {e:List Expr} {t t':TA} (h:PA X e t) (k:∀ σ H Q,t' σ H Q→t σ H Q):PA X e t':=⟨fun pos pins s σ H Q I hw=>h.run pos pins s σ H Q I (k σ H Q hw)⟩
theorem zxkb {X:Cx}:Passes (L2N.CX X.prog X.w) X E0:=fun _ _ _ _ _ _ _ h=>by
 obtain⟨_,_,_,_,_,_,_,_,_,_,_,_,z⟩:=h
 exact z.elim
theorem cxUpN {P:Program} {w:World}:StX.CXUp (L2N.CX P w):=by
 rintro outer s H s2 H2 E e s' un kp ho ⟨a,B,H',cls,d,ea,fl,hok,ub,na,os,ag,he⟩
 refine⟨a,B,H',cls,d,ea,fl,hok,⟨fun b o q n hb=>ub.keep b o (kp b o q) (un.free b o q n (by simp)) hb,fun b o q hb=>ub.slot b o (kp b o q) hb,fun b o q n=>ub.free b o (kp b o q) (un.free b o q n (by simp)),
  fun b o q hb=>ub.there b o (kp b o q) hb,fun b xs q=>ub.tups b xs (un.tups b xs q),fun b o xs q=>ub.frzs b o xs (un.frzs b o xs q),fun b ps q=>?_⟩,na,os.trans ho,ag,he⟩
 obtain⟨m1,e1⟩:=un.tbls b ps q
 obtain⟨m2,e2⟩:=ub.tbls b _ e1
 exact⟨m1++m2,by rw[e2,Array.append_assoc]⟩
theorem zvhb {B:Heap} {l:List PySem.Env} {a L:Addr} {Z Z':Obj→Prop} {h:Heap} (z:∀o,Z o→Z' o) (x:Sky B l a Z L h):Sky B l a Z' L h:=by
 rcases x with ⟨h1,h2,h3,oe,vs,e,q,d,r⟩ |x |x
 ·exact .inl ⟨h1,h2,h3,oe,vs,e,z _ q,d,r⟩
 ·exact .inr (.inl (L2H.flyingZ_imp z x))
 ·obtain⟨h1,h2,h3,r⟩:=x
  exact .inr (.inr ⟨h1,h2,h3,by first |exact L2H.tracedZ_imp z r |exact r.imp_right (L2H.tracedZ_imp z) |exact r.imp_left (L2H.tracedZ_imp z)⟩)
theorem zphb {X:Cx} {W:WX} (tk:L2.Takes X W):yk X W:=fun u s' x=>by
 obtain⟨a,B,sI,pins,σ,H,cls,d,e,I,nb,up,sky,r⟩:=x
 exact tk u s' ⟨a,B,sI,pins,σ,H,cls,d,e,I,nb,up,zvhb (fun o z=>z.zc) sky,r⟩
theorem zxj {X:Cx}:yk X (fun _ _ _ _=>False):=zphb takes0
section
variable {X:Cx} {Wx:WX}
theorem ze {i:Nat} {e:Expr} (h:PE X e (tVar i)):PE X e (tD X.K Wx (eVar i)):=peImp h fun σ H Q ⟨H1,al,dl,m,r,en,p⟩=>by
 unfold eVar at p
 split at p
 ·rename_i w hw
  obtain⟨v,hv,q⟩:=en.at_ i w hw
  exact⟨v,hv,p.ok_ r v q⟩
 ·exact p.elim
theorem de_c {e:Expr} {v:V} {d:D} (h:PE X e (tC v)) (hd:∀H1,Rp X.K H1 v d):PE X e (tD X.K Wx (eC d)):=peImp h fun σ H Q ⟨H1,al,dl,m,r,en,p⟩=>p.ok_ r v (hd H1)
theorem zo {i j pos}:PE X (.Constant (.int i) j pos) (tD X.K Wx (eC (.int i))):=de_c pe_int fun _=>.int i
theorem de_bl {i j pos}:PE X (.Constant (.bool i) j pos) (tD X.K Wx (eC (.bl i))):=de_c pe_bl fun _=>.bl i
theorem ztr {j pos}:PE X (.Constant .none j pos) (tD X.K Wx (eC .non)):=de_c pe_non fun _=>.non
theorem zl {i j pos}:PE X (.Constant (.str i) j pos) (tD X.K Wx (eC (.str i))):=de_c pe_str fun _=>.str i
/-- a two-place operation by values keeps g -/
def OpOk (X:Cx) (f:Value→Value→Sem Value) (g:D→D→Option D):Prop:=∃r:R2,OpR X f r ∧
 ∀H1 H al m v w x y z Q,Rel X.K H1 H al m→Rh X.K H1 H v x→Rh X.K H1 H w y→g x y=some z→(∀H1' H' u,Ex H1 H1'→Rel X.K H1' H' al m→Rp X.K H1' u z→Q u H')→r v w H Q
def UnOk (X:Cx) (f:Value→Sem Value) (g:D→Option D):Prop:=∃r,UnR X f r ∧
 ∀H1 H al m v x z Q,Rel X.K H1 H al m→Rh X.K H1 H v x→g x=some z→(∀H1' H' u,Ex H1 H1'→Rel X.K H1' H' al m→Rp X.K H1' u z→Q u H')→r v H Q
theorem zpe {K:Fg} {H1 H:Hp} {al:Gh} {m:Mem} {σ : L2.St} {Q:VK} {g:D→D→Option D} {x y:W} {v w:V} {r:R2} (rl:Rel K H1 H al m) (hx:RpW K H1 al v x) (hy:RpW K H1 al w y)
  (hr:∀H1 H al m v w x y z Q,Rel K H1 H al m→Rh K H1 H v x→Rh K H1 H w y→g x y=some z→(∀H1' H' u,Ex H1 H1'→Rel K H1' H' al m→Rp K H1' u z→Q u H')→r v w H Q)
  (p:Post K H1 al σ Wx (GV K Q) (lift2 g x y m)):r v w H Q:=by
 unfold lift2 at p
 split at p
 ·rename_i a ha
  split at p
  ·rename_i b hb
   split at p
   ·rename_i z hz
    exact hr H1 H al m v w a b z Q rl (hx.rh rl ha) (hy.rh rl hb) hz fun H1' H' u e r' q=>p H1' al H' e (z2b _) r' u q
   ·exact p.elim
  ·exact p.elim
 ·exact p.elim
theorem zyq {K:Fg} {H1 H:Hp} {al:Gh} {m:Mem} {σ : L2.St} {Q:VK} {g:D→Option D} {x:W} {v:V} {r:V→Hp→VK→Prop} (rl:Rel K H1 H al m) (hx:RpW K H1 al v x)
  (hr:∀H1 H al m v x z Q,Rel K H1 H al m→Rh K H1 H v x→g x=some z→(∀H1' H' u,Ex H1 H1'→Rel K H1' H' al m→Rp K H1' u z→Q u H')→r v H Q)
  (p:Post K H1 al σ Wx (GV K Q) (lift1 g x m)):r v H Q:=by
 unfold lift1 at p
 split at p
 ·rename_i a ha
  split at p
  ·rename_i z hz
   exact hr H1 H al m v a z Q rl (hx.rh rl ha) hz fun H1' H' u e r' q=>p H1' al H' e (z2b _) r' u q
  ·exact p.elim
 ·exact p.elim
/-- two expressions, then something by their values -/
theorem zbw {K:Fg} {Wx:WX} {fa fb:DE} {k:W→W→Mem→Res W} {σ : L2.St} {H:Hp} {Q:VK} {R:V→V→Hp→VK→Prop} (h:tD K Wx (fun dl m=>(fa dl m).bind fun x m1=>(fb dl m1).bind fun y m2=>k x y m2) σ H Q)
  (f:∀H1 H al m x y v w,Rel K H1 H al m→RpW K H1 al v x→RpW K H1 al w y→Post K H1 al σ Wx (GV K Q) (k x y m)→R v w H Q) :
  tD K Wx fa σ H fun v H'=>tD K Wx fb σ H' fun w H2=>R v w H2 Q:=by
 obtain⟨H1,al,dl,m,r,en,p⟩:=h
 refine⟨H1,al,dl,m,r,en,p.bind fun x m1 H1' al' H' e pr r' p' v hv=>?_⟩
 refine⟨H1',al',dl,m1,r',en.mono e pr,p'.bind fun y m2 H1'' al'' H'' e2 pr2 r'' p'' w hw=>?_⟩
 exact f H1'' H'' al'' m2 x y v w r'' (hv.mono e2 pr2) hw p''
theorem zcw {K:Fg} {Wx:WX} {fa:DE} {k:W→Mem→Res W} {σ : L2.St} {H:Hp} {Q:VK} {R:V→Hp→VK→Prop} (h:tD K Wx (fun dl m=>(fa dl m).bind fun x m1=>k x m1) σ H Q)
  (f:∀H1 H al m x v,Rel K H1 H al m→RpW K H1 al v x→Post K H1 al σ Wx (GV K Q) (k x m)→R v H Q) :
  tD K Wx fa σ H fun v H'=>R v H' Q:=by
 obtain⟨H1,al,dl,m,r,en,p⟩:=h
 refine⟨H1,al,dl,m,r,en,p.bind fun x m1 H1' al' H' e pr r' p' v hv=>?_⟩
 exact f H1' H' al' m1 x v r' hv p'
theorem de_op {a b:Expr} {op:Operator} {pos:Pos} {g:D→D→Option D} {fa fb:DE} (ho:OpOk X (binaryOp op) g) (ha:PE X a (tD X.K Wx fa)) (hb:PE X b (tD X.K Wx fb)):PE X (.BinOp a op b pos) (tD X.K Wx (eOp g fa fb)):=by
 obtain⟨r,hr,hs⟩:=ho
 exact peImp (pe_op hr ha hb) fun σ H Q h=>zbw h fun H1 H al m x y v w rl hx hy p=>zpe rl hx hy hs p
theorem de_un {a:Expr} {op:UnaryOp} {pos:Pos} {g:D→Option D} {fa:DE} (ho:UnOk X (unaryOp op) g) (ha:PE X a (tD X.K Wx fa)):PE X (.UnaryOp op a pos) (tD X.K Wx (eUn g fa)):=by
 obtain⟨r,hr,hs⟩:=ho
 exact peImp (pe_un hr ha) fun σ H Q h=>zcw h fun H1 H al m x v rl hx p=>zyq rl hx hs p
theorem zx5 {a b:Expr} {op:CmpOp} {pos:Pos} {g:D→D→Option D} {fa fb:DE} (ho:OpOk X (compareOp op) g) (ha:PE X a (tD X.K Wx fa)) (hb:PE X b (tD X.K Wx fb)) (hm:behindInMarks op b=false):PE X (.Compare a [op] [b] pos) (tD X.K Wx (eOp g fa fb)):=by
 obtain⟨r,hr,hs⟩:=ho
 exact peImp (pe_cmpR hr ha hb hm) fun σ H Q h=>zbw h fun H1 H al m x y v w rl hx hy p=>zpe rl hx hy hs p
theorem zdv {K:Fg} {H:Hp} {vs:List V} {ds:List D} (r:RpL K H vs ds):vs.isEmpty=ds.isEmpty:=by
 cases r <;> rfl
theorem tru_ok {K:Fg} {H1 H:Hp} (e:Ex H1 H) {v:V} {x:D} {k:Bool} (h:Rh K H1 H v x) (hk:truD x=some k):TruV K v H k:=by
 cases x with
 |non=>cases h.non;cases hk;rfl
 |bl b=>cases h.bl;cases hk;rfl
 |int i=>cases h.int;cases hk;rfl
 |str y=>
  cases h.str
  have hk':(if y.length≤sizeLine then some ((y.length:Int) != 0) else none)=some k:=hk
  by_cases hl:y.length≤sizeLine
  ·rw[if_pos hl] at hk'
   cases hk'
   exact⟨hl,rfl⟩
  ·rw[if_neg hl] at hk'
   cases hk'
 |lst ds=>
  obtain⟨a,vs,rfl,h1,h2⟩:=h.lst e
  cases hk
  exact .inl ⟨vs,SqL.of h1,by rw[zdv h2]⟩
 |fz ds=>
  obtain⟨a,vs,rfl,h1,h2⟩:=h.fz e
  cases hk
  exact .inl ⟨vs,h1,by rw[zdv h2]⟩
 |tup ds=>
  obtain⟨a,vs,rfl,h1,h2⟩:=h.tup e
  cases hk
  exact .inr (.inl ⟨vs,h1,by rw[zdv h2]⟩)
 |dic _ _=>cases hk
 |tk _=>cases hk
 |obj _ _ _=>cases hk
 |cls _=>cases hk
 |opq=>cases hk
theorem zsd {e:Expr} {f:DE} (h:PE X e (tD X.K Wx f)) (he:∀whole,isTrue e X.env whole=(do let v ←whole;standAt e.pos;holding [v] (truthy v)):=by intro _;rfl):PT X e (tT X.K Wx (bT f)):=by
 refine ptImp (pt_truth h he) fun σ H Q ⟨H1,al,dl,m,r,en,p⟩=>?_
 refine⟨H1,al,dl,m,r,en,p.bind fun x m1 H1' al' H' e pr r' p' v hv=>?_⟩
 unfold tru at p'
 split at p'
 ·rename_i a ha
  split at p'
  ·rename_i k hk
   exact⟨k,tru_ok r'.ex (hv.rh r' ha) hk,p'.ok_ r'⟩
  ·exact p'.elim
 ·exact p'.elim
/-- a comparison as a test -/
theorem zfb {a b:Expr} {op:CmpOp} {pos:Pos} {g:D→D→Option D} {fa fb:DE} (ho:OpOk X (compareOp op) g) (ha:PE X a (tD X.K Wx fa)) (hb:PE X b (tD X.K Wx fb)) (hm:behindInMarks op b=false)
  (hg:∀x y z,g x y=some z→∃k,z = .bl k):PT X (.Compare a [op] [b] pos) (tT X.K Wx (bT (eOp g fa fb))):=by
 obtain⟨r,hr,hs⟩:=ho
 refine ptImp (pt_cmpR hr ha hb hm) fun σ H Q ⟨H1,al,dl,m,rl,en,p⟩=>?_
 unfold bT eOp at p
 have assoc:∀(r1:Res W) (k1:W→Mem→Res W) (k2:W→Mem→Res Bool),(r1.bind k1).bind k2=r1.bind fun x m=>(k1 x m).bind k2:=fun r1 k1 k2=>by cases r1 <;> rfl
 rw[assoc] at p
 simp only[assoc] at p
 refine⟨H1,al,dl,m,rl,en,p.bind fun x m1 H1' al' H' e pr r' p' v hv=>?_⟩
 refine⟨H1',al',dl,m1,r',en.mono e pr,p'.bind fun y m2 H1'' al'' H'' e2 pr2 r'' p'' w hw=>?_⟩
 refine zpe (K:=X.K) (Wx:=Wx) (σ := σ) (r:=r) (g:=g) (x:=x) (y:=y) (m:=m2) r'' (hv.mono e2 pr2) hw hs ?_
 unfold lift2 at p'' ⊢
 split at p''
 ·rename_i a ha
  split at p''
  ·rename_i b hb
   split at p''
   ·rename_i z hz
    obtain⟨k,rfl⟩:=hg a b z hz
    intro H3 al3 H3' e3 pr3 r3 u hu
    cases (show Rp X.K H3 u (.bl k) from hu)
    exact⟨k,rfl,p'' H3 al3 H3' e3 pr3 r3⟩
   ·exact p''.elim
  ·exact p''.elim
 ·exact p''.elim
theorem pwImp {X:Cx} {e:Expr} {t t':TT} (h:PW X e t) (k:∀ σ H Q,t' σ H Q→t σ H Q):PW X e t':=⟨fun wh pins s σ H Q I hw=>h.run wh pins s σ H Q I (k σ H Q hw)⟩
variable {a b:Expr} {rest:List Expr} {pos:Pos} {fa fb:DE} {ga gb:DT}
theorem zl7 (ha:PT X a (tT X.K Wx ga)):PW X (.BoolOp .And [a] pos) (tT X.K Wx ga):=pw_and1 ha
theorem ztw (ha:PT X a (tT X.K Wx ga)):PW X (.BoolOp .Or [a] pos) (tT X.K Wx ga):=pw_or1 ha
theorem zcdb (ha:PT X a (tT X.K Wx ga)) (hb:PW X (.BoolOp .And (b::rest) pos) (tT X.K Wx gb)):PW X (.BoolOp .And (a::b::rest) pos) (tT X.K Wx (bAnd ga gb)):=
 pwImp (pw_and ha hb) fun σ H Q ⟨H1,al,dl,m,r,en,p⟩=>⟨H1,al,dl,m,r,en,p.bind fun c m1 H1' al' H' e pr r' p'=>by
  cases c with
  |true=>
   show (if true=true then tT X.K Wx gb σ H' Q else Q false H')
   exact iteT ⟨H1',al',dl,m1,r',en.mono e pr,p'⟩
  |false=>
   show (if false=true then tT X.K Wx gb σ H' Q else Q false H')
   exact iteF (p'.ok_ r')⟩
theorem dw_or (ha:PT X a (tT X.K Wx ga)) (hb:PW X (.BoolOp .Or (b::rest) pos) (tT X.K Wx gb)):PW X (.BoolOp .Or (a::b::rest) pos) (tT X.K Wx (bOr ga gb)):=
 pwImp (pw_or ha hb) fun σ H Q ⟨H1,al,dl,m,r,en,p⟩=>⟨H1,al,dl,m,r,en,p.bind fun c m1 H1' al' H' e pr r' p'=>by
  cases c with
  |true=>
   show (if true=true then Q true H' else tT X.K Wx gb σ H' Q)
   exact iteT (p'.ok_ r')
  |false=>
   show (if false=true then Q true H' else tT X.K Wx gb σ H' Q)
   exact iteF ⟨H1',al',dl,m1,r',en.mono e pr,p'⟩⟩
theorem zif (ha:PT X a (tT X.K Wx ga)):PT X (.UnaryOp .Not a pos) (tT X.K Wx (bNot ga)):=
 ptImp (pt_not ha) fun σ H Q ⟨H1,al,dl,m,r,en,p⟩=>⟨H1,al,dl,m,r,en,p.bind fun c m1 H1' al' H' e pr r' p'=>(show GT Q H1' al' H' (!c) from p'.ok_ r')⟩
theorem zd8 {β : Type} {K:Fg} {H1 H:Hp} {al:Gh} {m:Mem} {σ : L2.St} {x:W} {v:V} {G:Hp→Gh→Hp → β → Prop} {k:Bool→Mem→Res β} (r:Rel K H1 H al m) (hv:RpW K H1 al v x) (p:Post K H1 al σ Wx G ((tru x m).bind k)) :
  ∃c,TruV K v H c∧Post K H1 al σ Wx G (k c m):=by
 unfold tru at p
 split at p
 ·rename_i a ha
  split at p
  ·rename_i c hc
   exact⟨c,tru_ok r.ex (hv.rh r ha) hc,p⟩
  ·exact p.elim
 ·exact p.elim
theorem zs1 {op} (h:PE X a (tD X.K Wx fa)):PE X (.BoolOp op [a] pos) (tD X.K Wx fa):=pe_one h
theorem zlz (ha:PE X a (tD X.K Wx fa)) (hb:PE X (.BoolOp .And (b::rest) pos) (tD X.K Wx fb)):PE X (.BoolOp .And (a::b::rest) pos) (tD X.K Wx (eAnd fa fb)):=
 peImp (pe_andT ha hb) fun σ H Q ⟨H1,al,dl,m,r,en,p⟩=>⟨H1,al,dl,m,r,en,p.bind fun x m1 H1' al' H' e pr r' p' v hv=>by
  obtain⟨c,hc,p2⟩:=zd8 r' hv p'
  refine⟨c,hc,?_⟩
  cases c with
  |true=>exact iteT ⟨H1',al',dl,m1,r',en.mono e pr,p2⟩
  |false=>exact iteF (p2.ok_ r' v hv)⟩
theorem z6lb (ha:PE X a (tD X.K Wx fa)):PE X (.UnaryOp .Not a pos) (tD X.K Wx (eNot fa)):=
 peImp (pe_notT ha) fun σ H Q ⟨H1,al,dl,m,r,en,p⟩=>⟨H1,al,dl,m,r,en,p.bind fun x m1 H1' al' H' e pr r' p' v hv=>by
  obtain⟨c,hc,p2⟩:=zd8 r' hv p'
  exact⟨c,hc,p2.ok_ r' _ (.bl (!c))⟩⟩
theorem de_if {c:Expr} (hc:PT X c (tT X.K Wx ga)) (ha:PE X a (tD X.K Wx fa)) (hb:PE X b (tD X.K Wx fb)):PE X (.IfExp c a b pos) (tD X.K Wx (eIf ga fa fb)):=
 peImp (pe_ifExp hc ha hb) fun σ H Q ⟨H1,al,dl,m,r,en,p⟩=>⟨H1,al,dl,m,r,en,p.bind fun c m1 H1' al' H' e pr r' p'=>by
  cases c with
  |true=>
   show (if true=true then tD X.K Wx fa σ H' Q else tD X.K Wx fb σ H' Q)
   exact iteT ⟨H1',al',dl,m1,r',en.mono e pr,p'⟩
  |false=>
   show (if false=true then tD X.K Wx fa σ H' Q else tD X.K Wx fb σ H' Q)
   exact iteF ⟨H1',al',dl,m1,r',en.mono e pr,p'⟩⟩
theorem zg:PA X [] (tA X.K Wx aNil):=paImp pa_nil fun σ H Q ⟨H1,al,dl,m,r,en,p⟩=>p.ok_ r [] .nil
theorem zb {es:List Expr} {fr:DA} (ha:PE X a (tD X.K Wx fa)) (hr:PA X es (tA X.K Wx fr)) (hs:starEach (a::es) X.env=(false,eval a X.env)::starEach es X.env:=by rfl):PA X (a::es) (tA X.K Wx (aCons fa fr)):=
 paImp (pa_cons ha hr hs) fun σ H Q ⟨H1,al,dl,m,r,en,p⟩=>⟨H1,al,dl,m,r,en,p.bind fun x m1 H1' al' H' e pr r' p' v hv=>
  ⟨H1',al',dl,m1,r',en.mono e pr,p'.bind fun xs m2 H2' al2 H2 e2 pr2 r2 p2 vs hvs=>p2.ok_ r2 (v::vs) (.cons (hv.mono e2 pr2) hvs)⟩⟩
/-- arguments, then something by their values -/
theorem zem {K:Fg} {f:DA} {k:List W→Mem→Res W} {σ : L2.St} {H:Hp} {Q:VK} {R:List V→Hp→VK→Prop} (h:tD K Wx (fun dl m=>(f dl m).bind fun xs m1=>k xs m1) σ H Q)
  (g:∀H1 H al m xs vs,Rel K H1 H al m→RpWs K H1 al vs xs→Post K H1 al σ Wx (GV K Q) (k xs m)→R vs H Q):tA K Wx f σ H fun vs H'=>R vs H' Q:=by
 obtain⟨H1,al,dl,m,r,en,p⟩:=h
 exact⟨H1,al,dl,m,r,en,p.bind fun xs m1 H1' al' H' e pr r' p' vs hvs=>g H1' H' al' m1 xs vs r' hvs p'⟩
inductive RhL (K:Fg) (H1 H:Hp):List V→List D→Prop
 |nil:RhL K H1 H [] []
 |cons {v:V} {vs:List V} {x:D} {xs:List D}:Rh K H1 H v x→RhL K H1 H vs xs→RhL K H1 H (v::vs) (x::xs)
theorem zb2 {K:Fg} {H1 H:Hp} {al:Gh} {m:Mem} (r:Rel K H1 H al m):∀{vs:List V} {ws:List W} {xs:List D},RpWs K H1 al vs ws→rdAll ws m=some xs→RhL K H1 H vs xs
 |_,_,_,.nil,e=>by cases e;exact .nil
 |_,_,xs,.cons (w:=w) (ws:=ws) h t,e=>by
  unfold rdAll at e
  cases h1:w.rd m with
  |none=>rw[h1] at e;cases e
  |some x=>
   rw[h1] at e
   cases h2:rdAll ws m with
   |none=>rw[h2] at e;cases e
   |some ys=>
    rw[h2] at e
    cases e
    exact .cons (h.rh r h1) (zb2 r t h2)
theorem zvp {K:Fg} {H1:Hp} {al:Gh}:∀{vs:List V} {ws:List W} {xs:List D},RpWs K H1 al vs ws→z5g ws=some xs→RpL K H1 vs xs
 |_,_,_,.nil,e=>by cases e;exact .nil
 |_,_,xs,.cons (w:=w) (ws:=ws) h t,e=>by
  cases w with
  |c k=>cases e
  |ex _ _ _ _ _=>cases e
  |h _=>cases e
  |d x=>
   have e':(match z5g ws with
   |some xs=>some (x::xs)
   |none=>none)=some xs:=e
   cases h2:z5g ws with
   |none=>rw[h2] at e';cases e'
   |some ys=>
    rw[h2] at e'
    cases e'
    exact .cons h (zvp t h2)
theorem z7k {K:Fg} {H1 H:Hp} {al:Gh} {m:Mem} {vs:List V} {xs:List D} {p:Addr} (r:Rel K H1 H al m) (h:RpL K H1 vs xs) (hp:H p=none) :
  Ex H1 (upd H1 p (.tup vs))∧Rel K (upd H1 p (.tup vs)) (upd H p (.tup vs)) al m∧Rp K (upd H1 p (.tup vs)) (.ref p) (.tup xs):=
 ⟨ylb (r.fresh1 hp),r.new hp,.tup (SqT.of upd_same) (h.mono (ylb (r.fresh1 hp)))⟩
theorem z5o {K:Fg} {H1 H:Hp} {al:Gh} {m:Mem} {vs:List V} {xs:List D} {p:Addr} (r:Rel K H1 H al m) (h:RpL K H1 vs xs) (hp:H p=none) :
  Ex H1 (upd H1 p (.lst vs))∧Rel K (upd H1 p (.lst vs)) (upd H p (.lst vs)) al m∧Rp K (upd H1 p (.lst vs)) (.ref p) (.lst xs):=
 ⟨ylb (r.fresh1 hp),r.new hp,.lst upd_same (h.mono (ylb (r.fresh1 hp)))⟩
theorem zwb {es:List Expr} {x1} {f:DA} (h:PA X es (tA X.K Wx f)):PE X (.Tuple es x1 pos) (tD X.K Wx (eTup f)):=
 peImp (pe_tup h) fun σ H Q hq=>zem (R:=fun vs H Q=>vs.length≤sizeLine∧∀p,H p=none→Q (.ref p) (upd H p (.tup vs))) hq fun H1 H al m xs vs r hvs p=>by
  unfold mkTup at p
  split at p
  ·rename_i ys hy
   have h2:=zvp hvs hy
   split at p
   ·rename_i hl
    refine⟨by rw[h2.length];exact hl,fun q hq=>?_⟩
    obtain⟨a,b,c⟩:=z7k r h2 hq
    exact p _ _ _ a (z2b _) b _ c
   ·exact p.elim
  ·exact p.elim
theorem zzi {es:List Expr} {f:DA} (h:PA X es (tA X.K Wx f)):PE X (.List es pos) (tD X.K Wx (eLst f)):=
 peImp (pe_lst h) fun σ H Q hq=>zem (R:=fun vs H Q=>vs.length≤sizeLine∧∀p,H p=none→Q (.ref p) (upd H p (.lst vs))) hq fun H1 H al m xs vs r hvs p=>by
  unfold mkLst at p
  split at p
  ·rename_i ys hy
   have h2:=zvp hvs hy
   split at p
   ·rename_i hl
    refine⟨by rw[h2.length];exact hl,fun q hq=>?_⟩
    obtain⟨a,b,c⟩:=z5o r h2 hq
    exact p _ _ _ a (z2b _) b _ c
   ·exact p.elim
  ·exact p.elim
theorem zo9 {es:List Expr} {f:DA} (h:PA X es (tA X.K Wx f)):PE X (.List es pos) (tD X.K Wx (eCel f)):=
 peImp (pe_lst h) fun σ H Q hq=>zem (R:=fun vs H Q=>vs.length≤sizeLine∧∀p,H p=none→Q (.ref p) (upd H p (.lst vs))) hq fun H1 H al m xs vs r hvs p=>by
  unfold mkCel at p
  split at p
  ·rename_i ys hy
   have h2:=zvp hvs hy
   split at p
   ·rename_i hl
    refine⟨by rw[h2.length];exact hl,fun q hq=>?_⟩
    refine p H1 (al.push q) _ (Ex.refl _) (Le.push _ _) (r.cell hq ⟨vs,upd_same,h2⟩) _ ⟨q,?_,rfl⟩
    show (al.al.fl++[q])[m.length]?=some q
    rw[←r.len,yf (yp _),yib] <;> rfl
   ·exact p.elim
  ·exact p.elim
theorem zweb {K:Fg} {H1:Hp} {al:Gh} {σ : L2.St} {Q:VK}:∀{r:Res W},Post K H1 al σ Wx (GV K Q) r→PostF K H1 al Q (fun c d H=>Wx c d σ H) r
 |.ok w m,h=>fun H1' al' H' v e l r q=>h H1' al' H' e l r v q
 |.exc C f p m,h=>fun H1' al' H' v dx e l r q q2=>h H1' al' H' v dx e l r q q2
 |.no,h=>h
end
def tS (K:Fg) (Wx:WX) (g:DS):TS:=fun En σ H=>∃H1 al dl m,Rel K H1 H al m∧RpE K H1 al σ dl∧PostS K H1 al Wx En (g dl m)
section
variable {K:Fg} {H1 H1' H H':Hp} {al al':Gh} {m:Mem} {σ : L2.St} {Wx:WX} {α : Type} {En En':Ends} {dl:Env}
theorem PostS.nx_ (r:Rel K H1 H al m) (en:RpE K H1 al σ dl) (h:PostS K H1 al Wx En (.nx dl m)):En.nx σ H:=h H1 al H σ (Ex.refl _) (z2b _) r en
end
theorem psImp {X:Cx} {e:Stmt} {t t':TS} (h:PS X e t) (k:∀En σ H,t' En σ H→t En σ H):PS X e t':=⟨fun pins s σ H En I hw=>h.run pins s σ H En I (k En σ H hw)⟩
theorem zngb {X:Cx} {e:List Stmt} {t t':TS} (h:PSs X e t) (k:∀En σ H,t' En σ H→t En σ H):PSs X e t':=⟨fun pins s σ H En I hw=>h.run pins s σ H En I (k En σ H hw)⟩
def sNext:DS:=fun dl m=>.nx dl m
def zj8:DS:=fun _ _=>.no
section
variable {X:Cx} {Wx:WX} {st:Stmt} {rest:List Stmt} {f g:DS} {e:Expr} {fe:DE} {pos:Pos}
theorem z0b:PSs X [] (tS X.K Wx sNext):=zngb pss_nil fun En σ H ⟨H1,al,dl,m,r,en,p⟩=>p.nx_ r en
theorem zi (h1:PS X st (tS X.K Wx f)) (h2:PSs X rest (tS X.K Wx g)):PSs X (st::rest) (tS X.K Wx (sSeq f g)):=zngb (pss_cons h1 h2) fun En σ H ⟨H1,al,dl,m,r,en,p⟩=>by
 refine⟨H1,al,dl,m,r,en,?_⟩
 unfold sSeq at p
 cases h:f dl m with
 |nx dl' m'=>
  rw[h] at p
  exact fun H1' al' H' σ' e pr r' en'=>⟨H1',al',dl',m',r',en',PostS.mono e pr p⟩
 |rt w m'=>rw[h] at p;exact p
 |bk dl' m'=>rw[h] at p;exact p
 |ct dl' m'=>rw[h] at p;exact p
 |exc dl' C f' p' m'=>rw[h] at p;exact p
 |no=>rw[h] at p;exact p
theorem zj (h1:PS X st (tS X.K Wx f)):PSs X [st] (tS X.K Wx f):=pss_one h1
theorem zg3:PS X st (tS X.K Wx zj8):=⟨fun _ _ _ _ _ _ ⟨_,_,_,_,_,_,h⟩=>h.elim⟩
theorem zq (he:PE X e (tD X.K Wx fe)):PS X (.Return (some e) pos) (tS X.K Wx (sRet fe)):=psImp (ps_ret he) fun En σ H ⟨H1,al,dl,m,r,en,p⟩=>
 ⟨H1,al,dl,m,r,en,p.of en fun w m1 H1' al' H' e pr r' p' v hv=>p' H1' al' H' v (Ex.refl _) (z2b _) r' hv⟩
theorem zqv (he:PE X e (tD X.K Wx fe)) (hs:swapsWith e none pos.line X.env=pure false:=by rfl):PS X (.Expr e pos) (tS X.K Wx (sDrop fe)):=psImp (ps_expr he hs) fun En σ H ⟨H1,al,dl,m,r,en,p⟩=>
 ⟨H1,al,dl,m,r,en,p.of en fun w m1 H1' al' H' e pr r' p' v hv=>p'.nx_ r' (en.mono e pr)⟩
theorem ds_if {c:Expr} {a b:List Stmt} {t:DT} (hc:PT X c (tT X.K Wx t)) (ha:PSs X a (tS X.K Wx f)) (hb:PSs X b (tS X.K Wx g)):PS X (.If c a b pos) (tS X.K Wx (sIf t f g)):=psImp (ps_if hc ha hb) fun En σ H ⟨H1,al,dl,m,r,en,p⟩=>
 ⟨H1,al,dl,m,r,en,p.of en fun c m1 H1' al' H' e pr r' p'=>by
  cases c with
  |true=>
   show (if true=true then tS X.K Wx f En σ H' else tS X.K Wx g En σ H')
   exact iteT ⟨H1',al',dl,m1,r',en.mono e pr,p'⟩
  |false=>
   show (if false=true then tS X.K Wx f En σ H' else tS X.K Wx g En σ H')
   exact iteF ⟨H1',al',dl,m1,r',en.mono e pr,p'⟩⟩
def tG (K:Fg) (vs:List Nat) (g:DG):TG:=fun v σ H Q=>∃H1 al dl m w dl',Rel K H1 H al m∧RpE K H1 al σ dl∧RpW K H1 al v w∧g w dl=some dl'∧∀ σ',RpE K H1 al σ' dl'→But vs σ σ'→Q σ' H
def tGs (K:Fg) (is:List Nat) (g:DGs):TGs:=fun vs σ H Q=>∃H1 al dl m ds dl',Rel K H1 H al m∧RpE K H1 al σ dl∧RpL K H1 vs ds∧g ds dl=some dl'∧∀ σ',RpE K H1 al σ' dl'→But is σ σ'→Q σ' H
theorem pgImp {e:Expr} {t t':TG} (h:PG X e t) (k:∀v σ H Q,t' v σ H Q→t v σ H Q):PG X e t':=⟨fun pins s σ H v u Q I r hw=>h.run pins s σ H v u Q I r (k v σ H Q hw)⟩
theorem zp8 {e:List Expr} {t t':TGs} (h:PGs X e t) (k:∀v σ H Q,t' v σ H Q→t v σ H Q):PGs X e t':=⟨fun pins s σ H v u Q I r hw=>h.run pins s σ H v u Q I r (k v σ H Q hw)⟩
theorem zq7 {i:Nat} (h:PG X e (gName i)):PG X e (tG X.K [i] (gNm i)):=pgImp h fun v σ H Q ⟨H1,al,dl,m,w,dl',r,en,hv,e,k⟩=>by
 cases e
 exact k _ (en.set i hv) ⟨by rw[yeb],fun j hj=>yq fun z=>hj (by rw[z];exact yj.mpr rfl)⟩
theorem zsv:PGs X [] (tGs X.K [] gNil_):=zp8 pgs_nil fun v σ H Q ⟨H1,al,dl,m,ds,dl',r,en,hv,e,k⟩=>by
 cases hv with
 |nil=>
  cases e
  exact⟨rfl,k _ en (But.refl _ _)⟩
 |cons _ _=>cases e
theorem z7f {es:List Expr} {is js:List Nat} {g1:DG} {gs:DGs} (h1:PG X e (tG X.K is g1)) (h2:PGs X es (tGs X.K js gs)) (hs:(assignEach (e::es) X.env).map (·.2)=assign e X.env::(assignEach es X.env).map (·.2):=by rfl):PGs X (e::es) (tGs X.K (is++js) (zve g1 gs)):=
 zp8 (pgs_cons h1 h2 hs) fun v σ H Q ⟨H1,al,dl,m,ds,dl',r,en,hv,e,k⟩=>by
  cases hv with
  |nil=>cases e
  | @cons v1 vs d ds hv1 hvs=>
    have e':(match g1 (.d d) dl with
     |some dl1=>gs ds dl1
     |none=>none)=some dl':=e
    cases h:g1 (.d d) dl with
    |none=>rw[h] at e';cases e'
    |some dl1=>
     rw[h] at e'
     exact⟨v1,vs,rfl,H1,al,dl,m,.d d,dl1,r,en,hv1,h,fun σ' en' b'=>⟨H1,al,dl1,m,ds,dl',r,en',hvs,e',fun σ2 en2 b2=>k σ2 en2 (b'.trans b2)⟩⟩
theorem zr1 {es:List Expr} {k n:Nat} {is:List Nat} {gs:DGs} (hc:X.calm=true) (h:PGs X es (tGs X.K is gs)) (hn:(assignEach es X.env).length=n:=by rfl) (hst:(assignEach es X.env).findIdx? (·.1)=none:=by rfl):PG X (.Tuple es k pos) (tG X.K is (gTp n gs)):=
 pgImp (pg_tup (k:=k) hc h hn hst) fun v σ H Q ⟨H1,al,dl,m,w,dl',r,en,hv,e,k⟩=>by
  unfold gTp at e
  split at e
  ·rename_i ds
   split at e
   ·rename_i hl
    have hv':Rp X.K H1 v (.tup ds):=hv
    cases hv' with
    |tup h1 h2=>exact⟨_,_,rfl,ybd r.ex h1,by rw[h2.length];exact hl,H1,al,dl,m,ds,dl',r,en,h2,e,k⟩
   ·cases e
  ·cases e
theorem zpmb {g:DG} {is:List Nat} {t:TE} {En:Ends} {σ : L2.St} {H:Hp} (h:tS X.K Wx (sAsg fe g) En σ H):tAsg (tD X.K Wx fe) (tG X.K is g) En σ H:=by
 obtain⟨H1,al,dl,m,r,en,p⟩:=h
 refine⟨H1,al,dl,m,r,en,p.of en fun w m1 H1' al' H' e pr r' p' v hv=>?_⟩
 cases h:g w dl with
 |none=>rw[h] at p';exact p'.elim
 |some dl'=>
  rw[h] at p'
  exact⟨H1',al',dl,m1,w,dl',r',en.mono e pr,hv,h,fun σ' en' _=>p'.nx_ r' en'⟩
theorem zmb {tg:Expr} {is:List Nat} {g:DG} (he:PE X e (tD X.K Wx fe)) (hg:PG X tg (tG X.K is g)) (hs:swapsWithSole [tg] e pos.line X.env=pure false:=by rfl) (hw:swappedStores [tg] e X.env=pure none:=by rfl)
  (h1:(assignEach [tg] X.env).map (·.2)=[assign tg X.env]:=by rfl):PS X (.Assign [tg] e pos) (tS X.K Wx (sAsg fe g)):=psImp (ps_asg he hg hs hw h1) fun En σ H h=>zpmb (t:=tD X.K Wx fe) h
def tI (K:Fg) (Wx:WX) (f:DI):TI:=fun σ H R=>∃H1 al dl m,Rel K H1 H al m∧RpE K H1 al σ dl∧Post K H1 al σ Wx (fun H1' _ H' items=>∀J,z0p K J H1' items→R J H') (f dl m)
theorem piImp {tg iter:Expr} {t t':TI} (h:PI X tg iter t) (k:∀ σ H Q,t' σ H Q→t σ H Q):PI X tg iter t':=⟨fun pins s σ H R I hw=>h.run pins s σ H R I (k σ H R hw)⟩
theorem zrr {tg iter:Expr} {body:List Stmt} {fi:DI} {is:List Nat} {g:DG} {fb:DS} (hp:PassesOwn (model X.prog X.w) X.A X.env X.xe) (hc:X.calm=true) (hi:PI X tg iter (tI X.K Wx fi)) (hg:PG X tg (tG X.K is g)) (hb:PSs X body (tS X.K Wx fb))
  (hs:∀x,foldedSetIterable iter X.env x=pure x:=by intro _;rfl):PS X (.For tg iter body [] pos) (tS X.K Wx (sFor fi g fb)):=psImp (ps_for hp hc hi hg hb hs) fun En σ H ⟨H1,al,dl,m,r,en,p⟩=>by
 refine⟨H1,al,dl,m,r,en,p.of en fun items m1 H1' al' H' e pr r' p' J y=>?_⟩
 have y0:=y
 obtain⟨G,Y,wk,hG,hY⟩:=y
 refine for_it wk (fun i σ H=>∃Ha aa dla ma,Ex H1' Ha∧Le al' aa∧Rel X.K Ha H aa ma∧RpE X.K Ha aa σ dla∧PostS X.K Ha aa Wx En (loopD g fb (items.drop i) dla ma)) ⟨H1',al',dl,m1,Ex.refl _,z2b _,r',en.mono e pr,p'⟩
  (fun i σ H _ ⟨Ha,aa,dla,ma,ea,_,ra,_⟩=>hG H (ea.trans ra.ex)) (fun i x σ H Hx hi ⟨Ha,aa,dla,ma,ea,la,ra,ena,pa⟩ hy=>?_) (fun σ H ⟨Ha,aa,dla,ma,ea,la,ra,ena,pa⟩=>?_)
 ·obtain⟨Hb,d,eb,rb,hd,hx⟩:=hY i H x Hx hi hy Ha aa ma ea ra
  have pa:=PostS.mono eb (z2b aa) pa
  have ed:items.drop i=d::items.drop (i+1):=by
   rw[yhc hi]
   rw[yt hi] at hd
   rw[ynb hd]
  rw[ed] at pa
  unfold loopD at pa
  cases h1:g (.d d) dla with
  |none=>rw[h1] at pa;exact pa.elim
  |some dl1=>
   rw[h1] at pa
   dsimp only at pa
   refine⟨Hb,aa,dla,ma,.d d,dl1,rb,ena.mono eb (z2b _),hx,h1,fun σ' en' _=>⟨Hb,aa,dl1,ma,rb,en',?_⟩⟩
   cases h2:fb dl1 ma with
   |nx dl2 m2=>rw[h2] at pa;exact fun H2 a2 Hz σ2 e2 l2 r2 en2=>⟨H2,a2,dl2,m2,(ea.trans eb).trans e2,la.trans l2,r2,en2,PostS.mono e2 l2 pa⟩
   |ct dl2 m2=>rw[h2] at pa;exact fun H2 a2 Hz σ2 e2 l2 r2 en2=>⟨H2,a2,dl2,m2,(ea.trans eb).trans e2,la.trans l2,r2,en2,PostS.mono e2 l2 pa⟩
   |bk dl2 m2=>rw[h2] at pa;exact fun H2 a2 Hz σ2 e2 l2 r2 en2=>pa H2 a2 Hz σ2 e2 l2 r2 en2
   |rt w m2=>rw[h2] at pa;exact pa
   |exc _ _ _ _ _=>rw[h2] at pa;exact pa
   |no=>rw[h2] at pa;exact pa.elim
 ·rw[List.drop_length] at pa
  exact pa.nx_ ra ena
theorem z3x {K:Fg} {H1:Hp} {a:Addr} {vs:List V} {ds:List D} (h:SqL K H1 a vs) (r:RpL K H1 vs ds):z0p K (Itl K a) H1 ds:=by
 have e:ds.length=vs.length:=r.length.symm
 refine⟨_,_,by rw[e];exact walk_list (K:=K) (a:=a) (xs:=vs),fun H ex=>yud ex h,fun i H x H' hi y Hf al m ex rl=>?_⟩
 obtain⟨rfl,hx⟩:=y
 obtain⟨d,hd,q⟩:=r.getV hx
 exact⟨Hf,d,Ex.refl _,rl,hd,q.mono ex⟩
theorem zz9 {K:Fg} {H1:Hp} {a:Addr} {vs:List V} {ds:List D} (h:SqT K H1 a vs) (r:RpL K H1 vs ds):z0p K (Itt K a) H1 ds:=by
 have e:ds.length=vs.length:=r.length.symm
 refine⟨_,_,by rw[e];exact walk_tup (K:=K) (a:=a) (xs:=vs),fun H ex=>ybd ex h,fun i H x H' hi y Hf al m ex rl=>?_⟩
 obtain⟨rfl,hx⟩:=y
 obtain⟨d,hd,q⟩:=r.getV hx
 exact⟨Hf,d,Ex.refl _,rl,hd,q.mono ex⟩
theorem z4x {K:Fg} {H1:Hp} {a:Addr} {vs:List V} {ds:List D} (h:SqL K H1 a vs) (r:RpL K H1 vs ds):z0p K (Ite K a) H1 (ds.mapIdx fun i d=>.tup [.int (i:Int),d]):=by
 have e:(ds.mapIdx fun i d=>D.tup [.int (i:Int),d]).length=vs.length:=by rw[List.length_mapIdx];exact r.length.symm
 refine⟨_,_,by rw[e];exact walk_enum (K:=K) (a:=a) (xs:=vs),fun H ex=>yud ex h,fun i H x H' hi y Hf al m ex rl=>?_⟩
 obtain⟨T,x1,y1,rfl,hT,rfl,e1,e2⟩:=y
 cases e1
 obtain⟨d,hd,q⟩:=r.getV e2
 obtain⟨z1,z2,z3⟩:=z7k (vs:=[.int (i:Int),y1]) (xs:=[.int (i:Int),d]) rl (.cons (.int _) (.cons (q.mono ex) .nil)) hT
 exact⟨_,_,z1,z2,by rw[List.getElem?_mapIdx,hd] <;> rfl,z3⟩
theorem z43 {K:Fg} {H1:Hp} {lo:Int} {n:Nat}:z0p K (Itr lo n) H1 (rngD lo n):=by
 have e:(rngD lo n).length=n:=by unfold rngD;rw[ye,List.length_range]
 refine⟨_,_,by rw[e];exact walk_range (lo:=lo) (n:=n),fun H ex=>trivial,fun i H x H' hi y Hf al m ex rl=>?_⟩
 obtain⟨rfl,hx⟩:=y
 subst hx
 rw[e] at hi
 refine⟨Hf,.int (lo+(i:Nat)),Ex.refl _,rl,?_,.int _⟩
 unfold rngD
 rw[yjb,List.getElem?_range hi] <;> rfl
theorem zjz {tg a:Expr} {p:Pos} {f:DA} (hg:Gl X "range") (hm:X.mg "range" = none) (ha:PA X [a] (tA X.K Wx f)) (hs:starEach [a] X.env=[(false,eval a X.env)]:=by rfl):PI X tg (.Call (.Name "range" p) [a] [] pos) (tI X.K Wx (zfv f)):=
 piImp (pi_range1 hg hm ha hs) fun σ H R ⟨H1,al,dl,m,r,en,p⟩=>by
  refine⟨H1,al,dl,m,r,en,p.bind fun ws m1 H1' al' H' e pr r' p' vs hv=>?_⟩
  split at p'
  ·rename_i j
   split at p'
   ·rename_i hj
    cases hv with
    |cons a b=>
     cases b
     cases (show Rp X.K H1' _ (.int j) from a)
     exact⟨j,rfl,hj.1,hj.2,p'.ok_ r' _ z43⟩
   ·exact p'.elim
  ·exact p'.elim
theorem zaw (dl:Env):∀vs:List Nat,(wipeD dl vs).length=dl.length
 |[]=>rfl
 |v::vs=>by unfold wipeD;rw[yeb,zaw dl vs]
theorem z30 {dl:Env} {i:Nat} {x:W}:∀{vs:List Nat},(wipeD dl vs)[i]?=some (some x)→dl[i]?=some (some x)∧i ∉ vs
 |[],h=>⟨h,by simp⟩
 |v::vs,h=>by
  unfold wipeD at h
  by_cases hi:v=i
  ·subst hi
   by_cases hv:v<(wipeD dl vs).length
   ·rw[yu hv] at h;cases h
   ·rw[ycc (by simpa using hv)] at h;cases h
  ·rw[yq hi] at h
   obtain⟨h1,h2⟩:=z30 h
   exact⟨h1,by simp only[yo,not_or];exact⟨fun e=>hi e.symm,h2⟩⟩
theorem zg6 {σ : L2.St} {i:Nat}:∀{vs:List Nat},i∈vs→i < σ.length→(wipe σ vs)[i]?=some none
 |v::vs,h,hl=>by
  unfold wipe
  by_cases hi:v=i
  ·subst hi
   rw[yu (by rw[wipe_length];exact hl)]
  ·rw[yq hi]
   rcases yo.mp h with e |h
   ·exact absurd e.symm hi
   ·exact zg6 h hl
theorem z01 {vs is:List Nat} {σ σ':L2.St} (hs:∀i∈is,i∈vs) (b:But is (wipe σ vs) σ'):wipe σ' vs=wipe σ vs:=by
 have hl : σ'.length = σ.length:=by rw[b.len,wipe_length]
 refine List.ext_getElem? fun i=>?_
 by_cases hi:i∈vs
 ·by_cases h2:i < σ.length
  ·rw[zg6 hi h2,zg6 hi (by rw[hl];exact h2)]
  ·rw[ycc (by rw[wipe_length,hl];omega),ycc (by rw[wipe_length];omega)]
 ·rw[wipe_out hi,b.at_ i fun z=>hi (hs i z)]
theorem RpE.wipe {K:Fg} {H1:Hp} {al:Gh} {σ : L2.St} {dl:Env} (h:RpE K H1 al σ dl) (vs:List Nat):RpE K H1 al (wipe σ vs) (wipeD dl vs):=
 ⟨by rw[wipe_length,zaw,h.len],fun i w q=>by
  obtain⟨q1,q2⟩:=z30 q
  obtain⟨v,a,b⟩:=h.at_ i w q1
  exact⟨v,by rw[wipe_out q2];exact a,b⟩⟩
abbrev W0:WX:=fun _ _ _ _=>False
theorem lc_of {g:DG} {t:DT} {fe:DE} {fi:DI} {is vs:List Nat} (his:∀i∈is,i∈vs) {σ : L2.St} {H:Hp} {Q:VK} (h:tD X.K Wx (eLc fi g t fe vs) σ H Q):tLc (tI X.K Wx fi) (tG X.K is g) (tT X.K W0 t) (tD X.K W0 fe) vs σ H Q:=by
 obtain⟨H1,al,dl,m,r,en,p⟩:=h
 refine⟨H1,al,dl,m,r,en,p.bind fun items m1 H1' al' H' e pr r' p' J y Dd hD=>?_⟩
 obtain⟨G,Y,wk,hG,hY⟩:=y
 have en1:RpE X.K H1' al' σ dl:=en.mono e pr
 refine lc_it wk (fun i Hc=>∃Ha aa ma acc vacc,Ex H1' Ha∧AA.le al'.al aa∧Rel X.K Ha Hc ⟨aa,(Dd,.lst vacc)::al'.pn⟩ ma∧RpL X.K Ha vacc acc∧Post X.K Ha ⟨aa,al'.pn⟩ σ Wx (GV X.K Q) ((compD g t fe (wipeD dl vs) (items.drop i) acc ma).bind fun acc m2=>.ok (.d (.lst acc)) m2))
  ⟨H1',al'.al,m1,[],[],Ex.refl _,AA.refl _,r'.pinNew hD,.nil,p'⟩ (fun i Hc _ ⟨Ha,aa,ma,acc,vacc,ea,_,ra,_⟩=>hG Hc (ea.trans ra.ex)) (fun i x Hc Hx hi ⟨Ha,aa,ma,acc,vacc,ea,la,ra,hva,pa⟩ hy=>?_) (fun Hc ⟨Ha,aa,ma,acc,vacc,ea,la,ra,hva,pa⟩=>?_)
 ·obtain⟨Hb,d,eb,rb,hd,hx⟩:=hY i Hc x Hx hi hy Ha _ ma ea ra
  have pb:=Post.mono eb (z2b _) pa
  have ed:items.drop i=d::items.drop (i+1):=by
   rw[yhc hi]
   rw[yt hi] at hd
   rw[ynb hd]
  rw[ed] at pb
  unfold compD at pb
  cases h1:g (.d d) (wipeD dl vs) with
  |none=>rw[h1] at pb;exact pb.elim
  |some dl1=>
   rw[h1] at pb
   dsimp only at pb
   refine⟨Hb,_,wipeD dl vs,ma,.d d,dl1,rb,(en1.wipe vs).monoP (ea.trans eb) la,hx,h1,fun σ' en' b'=>⟨z01 his b',Hb,_,dl1,ma,rb,en',?_⟩⟩
   cases h2:t dl1 ma with
   |exc _ _ _ _=>rw[h2] at pb;exact pb.elim
   |no=>rw[h2] at pb;exact pb.elim
   |ok b m2=>
    rw[h2] at pb
    dsimp only at pb
    intro H2 a2 Hz e2 l2 r2
    have g2:a2=⟨a2.al,(Dd,.lst vacc)::al'.pn⟩:=by
     have:=l2.pn
     cases a2
     simp only at this
     rw[this]
    have lp:Le ⟨aa,al'.pn⟩ ⟨a2.al,al'.pn⟩:=⟨l2.pre,rfl⟩
    have pb2:=Post.mono e2 lp pb
    cases b with
    |false=>
     unfold GT
     dsimp only
     try rw[if_neg y4]
     refine⟨H2,a2.al,m2,acc,vacc,(ea.trans eb).trans e2,la.trans l2.pre,by rw[←g2];exact r2,(hva.mono eb).mono e2,pb2⟩
    |true=>
     unfold GT
     dsimp only
     try rw[if_pos rfl]
     refine⟨H2,a2,dl1,m2,r2,en'.mono e2 l2,?_⟩
     dsimp only at pb2
     cases h3:fe dl1 m2 with
     |exc _ _ _ _=>rw[h3] at pb2;exact pb2.elim
     |no=>rw[h3] at pb2;exact pb2.elim
     |ok w m3=>
      rw[h3] at pb2
      cases w with
      |c k=>exact pb2.elim
      |ex _ _ _ _ _=>exact pb2.elim
      |h _=>exact pb2.elim
      |d y=>
       dsimp only at pb2
       intro H3 a3 Hw e3 l3 r3 v hv
       have g3:a3=⟨a3.al,(Dd,.lst vacc)::al'.pn⟩:=by
        have h5:=l3.pn
        rw[g2] at h5
        cases a3
        simp only at h5
        rw[h5]
       rw[g3] at r3
       have pn1:=(r3.b.pin (Dd,.lst vacc) yb).1
       have hva3:=((hva.mono eb).mono e2).mono e3
       by_cases hz:acc.length<sizeLine
       ·rw[if_pos hz] at pb2
        refine⟨vacc,pn1,by rw[hva.length];exact hz,H3,a3.al,m3,acc++[y],vacc++[v],((ea.trans eb).trans e2).trans e3,(la.trans l2.pre).trans l3.pre,r3.pinPut,hva3.append (.cons hv .nil),Post.mono e3 (show Le ⟨a2.al,al'.pn⟩ ⟨a3.al,al'.pn⟩ from ⟨l3.pre,rfl⟩) pb2⟩
       ·rw[if_neg hz] at pb2
        exact pb2.elim
 ·rw[List.drop_length] at pa
  obtain⟨e1,r1⟩:=ra.pinEnd
  exact pa _ _ _ e1 (z2b _) r1 _ (.lst upd_same (hva.mono e1))
theorem de_lc {tg iter:Expr} {ifs:List Expr} {scope:Scope} {own:List (Str × Nat)} {is:List Nat} {fi:DI} {g:DG} {t:DT} (hc:X.calm=true) (hN:X.N.Nodup) (hi:PI X tg iter (tI X.K Wx fi)) (ok:BlkOk X.N X.env.scope scope own)
  (hg:∀(s:Shared) (H:Hp) (C:Addr) (cl:List (Str × Addr)) (fp:List Addr),PG (X.blk s H scope (compEnvC scope cl C X.env) fp) tg (tG X.K is g)) (ht:∀(s:Shared) (H:Hp) (C:Addr) (cl:List (Str × Addr)) (fp:List Addr),PTs (X.blk s H scope (compEnvC scope cl C X.env) fp) ifs (tT X.K W0 t))
  (he:∀(s:Shared) (H:Hp) (C:Addr) (cl:List (Str × Addr)) (fp:List Addr),PE (X.blk s H scope (compEnvC scope cl C X.env) fp) e (tD X.K W0 fe)) (his:∀i∈is,i∈own.map (·.2)) (hs:∀x,foldedSetIterable iter X.env x=pure x:=by intro _;rfl) :
  PE X (.ListComp e [⟨tg,iter,ifs,0⟩] scope pos) (tD X.K Wx (eLc fi g t fe (own.map (·.2)))):=peImp (pe_lc hc hN hi ok hg ht he hs) fun σ H Q h=>lc_of his h
theorem zbu {i:Nat} {y:Str} {py:Pos} {tg iter:Expr} {ifs:List Expr} {scope:Scope} {own:List (Str × Nat)} {is:List Nat} {pos spos:Pos} {fi:DI} {g:DG} {t:DT} (hc:X.calm=true) (hN:X.N.Nodup) (hy:X.N[i]?=some y) (hyl:X.env.scope.names.lookup y=some .local)
  (hsw:swapsWith (.ListComp e [⟨tg,iter,ifs,0⟩] scope pos) (some (.Name y py)) spos.line X.env=pure true) (hi:PI X tg iter (tI X.K Wx fi)) (ok:BlkOk X.N X.env.scope scope own)
  (hg:∀(s:Shared) (H:Hp) (C:Addr) (cl:List (Str × Addr)) (fp:List Addr),PG (X.blk s H scope (compEnvC scope cl C X.env) fp) tg (tG X.K is g)) (ht:∀(s:Shared) (H:Hp) (C:Addr) (cl:List (Str × Addr)) (fp:List Addr),PTs (X.blk s H scope (compEnvC scope cl C X.env) fp) ifs (tT X.K W0 t))
  (he:∀(s:Shared) (H:Hp) (C:Addr) (cl:List (Str × Addr)) (fp:List Addr),PE (X.blk s H scope (compEnvC scope cl C X.env) fp) e (tD X.K W0 fe)) (his:∀i∈is,i∈own.map (·.2)) (hs:∀x,foldedSetIterable iter X.env x=pure x:=by intro _;rfl) :
  PS X (.Assign [.Name y py] (.ListComp e [⟨tg,iter,ifs,0⟩] scope pos) spos) (tS X.K Wx (sAsg (eLc fi g t fe (own.map (·.2))) (gNm i))):=
 psImp (ps_setLc (i:=i) hc hN hy hyl hsw hi ok hg ht he hs) fun En σ H ⟨H1,al,dl,m,r,en,p⟩=>lc_of his ⟨H1,al,dl,m,r,en,p.of en fun w m1 H1' al' H' e pr r' p' v hv=>p'.nx_ r' ((en.mono e pr).set i hv)⟩
end
end DL
namespace DL
open PySem PySem.Spec L2
open PyProof.Rows hiding St
open Evl (Ex)
theorem RpE.start {K:Fg} {H1:Hp} {al:Gh} {N:List Str} {vs:List V} {ws:List W} (h:RpWs K H1 al vs ws):RpE K H1 al (L2.start N vs) (z1k N.length ws):=by
 have hl:=h.length
 refine⟨by unfold L2.start z1k;simp[hl],fun i w q=>?_⟩
 unfold z1k at q
 have hi:i<ws.length:=by
  by_cases hi:i<ws.length
  ·exact hi
  ·rw[yf (by rw[ye];omega)] at q
   obtain⟨q1,q2⟩:=yc.mp q
   rw[List.getElem_replicate] at q2
   cases q2
 rw[yl (by rw[ye];exact hi),yjb] at q
 obtain⟨w',e1,e2⟩:=y8b.mp q
 cases e2
 obtain⟨v,hv,r⟩:=h.get e1
 refine⟨v,?_,r⟩
 unfold L2.start
 rw[yl (by rw[ye,hl];exact hi),yjb,hv]
 rfl
theorem zo8 {K:Fg} {H1:Hp} {al:Gh} {m:Mem} {Q:VK} {E:XK} {H:Hp} (r:Rel K H1 H al m):∀{s:SR},PostF K H1 al Q E (fin m.length s)→PostS K H1 al (fun c d _ H=>E c d H) {nx:=fun _ H'=>Q .non H',rt:=Q} s
 |.nx dl m',h=>fun H1' al' H' σ' e l r' _=>h H1' (al.up al') H' .non e l.up (by have:=r'.cut l r.pos;rw[r.len] at this;exact this) .non
 |.rt (.d x) m',h=>fun H1' al' H' v e l r' hv=>h H1' (al.up al') H' v e l.up (by have:=r'.cut l r.pos;rw[r.len] at this;exact this) hv
 |.rt (.h i) m',h=>fun H1' al' H' v e l r' hv=>h H1' (al.up al') H' v e l.up (by have:=r'.cut l r.pos;rw[r.len] at this;exact this) hv
 |.rt (.c k) m',h=>fun H1' al' H' v e l r' ⟨a,ha,hv⟩=>by
  subst hv
  have h':PostF K H1 al Q E (if k<m.length then .ok (.c k) (m'.take m.length) else (match m'[k]? with
   |some c=>.ok (.d c.fz) (m'.take m.length)
   |none=>.no)):=h
  by_cases hk:k<m.length
  ·rw[if_pos hk] at h'
   refine h' H1' (al.up al') H' (.ref a) e l.up (by have:=r'.cut l r.pos;rw[r.len] at this;exact this) ⟨a,?_,rfl⟩
   obtain⟨rest,e2⟩:=l.pre.pre
   rw[←e2,yl (by rw[r.len];exact hk)] at ha
   exact ha
  ·rw[if_neg hk] at h'
   cases hc:m'[k]? with
   |none=>rw[hc] at h';exact h'.elim
   |some c=>
    rw[hc] at h'
    obtain⟨H2,e2,r2,q2⟩:=r'.freeze l r.pos ha (by rw[r.len];omega) hc
    rw[r.len] at r2
    exact h' H2 (al.up al') H' (.ref a) (e.trans e2) l.up r2 q2
 |.rt (.ex _ _ _ _ _) m',h=>h.elim
 |.exc _ C f p m',h=>fun H1' al' H' σ' v dx e l r' _ q q2=>h H1' (al.up al') H' v dx e l.up (by have:=r'.cut l r.pos;rw[r.len] at this;exact this) q q2
 |.bk _ _,h=>h.elim
 |.ct _ _,h=>h.elim
 |.no,h=>h.elim
theorem RoomG.deeper {k:Nat} {A:Around} (r:RoomG (k+1) A) (env:PySem.Env):RoomG k (A.deeper env):=⟨r.toRoom.deeper env,r.gd⟩
theorem RoomG.in1 {k:Nat} {A:Around} (r:RoomG (k+1) A):RoomG k A.in1:=⟨r.toRoom.in1,r.gd⟩
theorem RoomG.make {k:Nat} {A:Around} (r:RoomG (k+1) A) (C:Addr) (us:List Value) (kw:List (Str × Value)):RoomG k (A.under (.builtin "type.__call__" ⟨.ref C::us,kw⟩)):=⟨r.toRoom.make C us kw,by
 have:=r.gd
 first |exact this |simpa [Around.under,Code.guards,Code.isGuard,guardIds,pushGuards] using this⟩
theorem RoomX.deeper {k:Nat} {A:Around} (r:RoomX (k+1) A) (env:PySem.Env):RoomX k (A.deeper env):=⟨r.toRoomH.deeper env,r.gd⟩
theorem RoomX.units {k:Nat} {A:Around} (r:RoomX k A):A.units+64<cLine:=by have:=r.un;omega
theorem RoomX.in1 {k:Nat} {A:Around} (r:RoomX (k+1) A):RoomX k A.in1:=⟨⟨by have:=r.dp;show A.depth+3*k+5<_;omega,by have:=r.un;show A.units+1+16*k+200<_;omega⟩,r.gd⟩
theorem RoomG.units {k:Nat} {A:Around} (r:RoomG k A):A.units+64<cLine:=r.toRoom.units
section
variable {P:Program} {w:World} {K:Fg} {mg:Str→Option Value} {base:Heap}
/-- how a body's end is the call's end -/
def flv:Flow→Value
 |.ret v=>v
 |_=>.none
theorem zd9 {X:Cx} {Q:VK} {fl:Flow} {s':Shared} (h:SP X [] {nx:=fun _ H'=>Q .non H',rt:=Q} fl s') (hex:X.ex=[]):CE X.outer X.prog X.w X.H_0 X.s_0 Q (flv fl) s':=by
 cases fl with
 |brk=>exact (show False from h.elim fun _ q=>q.elim fun _ q=>q.2).elim
 |cont=>exact (show False from h.elim fun _ q=>q.elim fun _ q=>q.2).elim
 |next=>
  obtain⟨_,Hz,J,q⟩:=h
  exact⟨V.non,Hz,J.os,J.bare,by have:=J.base;rw[hex] at this;exact this,J.hok,rfl,q⟩
 |ret u=>
  obtain⟨v,_,Hz,J,rv,q⟩:=h
  exact⟨v,Hz,J.os,J.bare,by have:=J.base;rw[hex] at this;exact this,J.hok,rv,q⟩
theorem zq8 {N ps:List Str} {scope:Scope} {us:List Value} {n:Nat} (S:FnScope N ps scope):∀y∈ps.zip us,scope.names.lookup y.1=some .local∨(scope.names.lookup y.1=some .cell∧((cellsFrom n scope.names []).lookup y.1).isSome=true):=by
 intro y hy
 have hm:y.1∈ps:=(List.of_mem_zip (a:=y.1) (b:=y.2) hy).1
 exact (S.par y.1 hm).imp id fun q=>⟨q,PySem.W.cellsFrom_some _ _ _ (.inl q)⟩
/-- a def and its promise, where no repr is under way -/
structure FnG (P:Program) (w:World) (K:Fg) (mg:Str→Option Value) (base:Heap) (k:Nat) (f:Addr) (fd:FuncData) (ps:List Str) (sp:Sp):Prop where
 ln:∀{vs H Q E},sp vs H Q E→vs.length=ps.length
 go:∀{A:Around} {outer:List PySem.Env} {s:Shared} {H:Hp} {args:Args} {us:List Value} {vs:List V} {Q:VK} {E:XK},RoomG k A→Env0 P w K mg base A outer s H→BindsTo s fd args (ps.zip us)→Vals vs us→sp vs H Q E →
  codeAny (model P w) A (.call (.ref f) args) (CR (L2N.CX P w) outer P w H s Q E) s
theorem fn_G {x qual:Str} {params:Arguments} {body:List Stmt} {scope:Scope} {dvs:List V} {kws:List (Str × V)} {f:Addr} {fd:FuncData} {N ps:List Str} {k:Nat} {sp:Sp} (F:FunD K x qual params body scope dvs kws f fd) (S:FnScope N ps scope) (ln:∀{vs H Q E},sp vs H Q E→vs.length=ps.length)
  (hb:∀(cdv:Value) (A:Around) (outer:List PySem.Env) (s:Shared) (H:Hp) (vs:List V) (Q:VK) (E:XK),RoomG k (A.deeper (envOfC qual scope s.heap.objs.size f cdv))→sp vs H Q E →
    ∃t,PSs (cxOf (L2N.CX P w) P w K mg base N qual scope f cdv A outer s H E) body t∧t {nx:=fun _ H'=>Q .non H',rt:=Q} (L2.start N vs) H):FnG P w K mg base (k+1) f fd ps sp:=by
 obtain⟨_,_,_,_,_,_,_,cdv,_,_,rfl,look,code,_,_⟩:=F.ex
 refine⟨ln,?_⟩
 intro A outer s H args us vs Q E room env bound vals want
 have old:∀b o,base.get? b=some o→s.heap.get? b=some o:=fun b o e=>(env.bs b o e).1
 have kin:=env.mod.kin.keeps old
 refine codeAny_call_function room.depth (kin _ _ look) rfl S.co S.gen rfl (PySem.W.codeRec_of kin code) (bound _ _ _ _ (wpAny_newFunctionEnv_cells S.kind (zq8 S) ?_))
 rintro _ rfl s1 inside
 obtain⟨t,ht,q⟩:=hb cdv A outer s H vs Q E (room.deeper _) want
 refine⟨(env.mod.nolimit.keeps old).keeps inside.toInCall.keep,codeAny_func (wpAny_mono (ht.run [] s1 _ H _ (inv_start S room.hd env (ln want) vals inside) q) (fun fl s' h=>?_) fun _ _ z=>z)⟩
 have e:=zd9 (X:=cxOf (L2N.CX P w) P w K mg base N qual scope f cdv A outer s H E) h rfl
 cases fl <;> exact e
theorem fn_D {x qual:Str} {params:Arguments} {body:List Stmt} {scope:Scope} {dvs:List V} {kws:List (Str × V)} {f:Addr} {fd:FuncData} {N ps:List Str} {k:Nat} {g:DS} (F:FunD K x qual params body scope dvs kws f fd) (S:FnScope N ps scope)
  (hb:∀(cdv:Value) (A:Around) (outer:List PySem.Env) (s:Shared) (H:Hp) (E:XK),RoomG k (A.deeper (envOfC qual scope s.heap.objs.size f cdv)) →
    PSs (cxOf (L2N.CX P w) P w K mg base N qual scope f cdv A outer s H E) body (tS K (fun c d _ H=>E c d H) g)):FnG P w K mg base (k+1) f fd ps (spD K ps.length (runF N.length g)):=
 fn_G F S (fun h=>h.1) fun cdv A outer s H vs Q E hr ⟨_,H1,al,m,ws,r,hws,p⟩=>⟨_,hb cdv A outer s H E hr,H1,al,z1k N.length ws,m,r,RpE.start hws,zo8 r p⟩
theorem z16 {n:Nat} {F:DF} {vs:List V} {H:Hp} {Q:VK} {E:XK} (h:spR K (lenF n F) vs H Q E):spD K n F vs H Q E:=by
 obtain⟨H1,al,m,ws,rl,hws,p⟩:=h
 unfold lenF at p
 split at p
 ·rename_i hl
  exact⟨by rw[hws.length];exact hl,H1,al,m,ws,rl,hws,p⟩
 ·exact p.elim
theorem z7 {k n:Nat} {f:Addr} {fd:FuncData} {ps:List Str} {F:DF} (Fo:FnG P w K mg base k f fd ps (spD K n F)) (hb:Binds K fd ps []):FnD P w K mg base k f (lenF n F):=by
 intro A outer s H us vs Q E hr e0 r hs
 have q:=z16 hs
 have hl2:(us++[]).length=ps.length:=by rw[ygb,←r.length];exact Fo.ln q
 have b:=hb s us (e0.mod.kin.keeps fun b o e=>(e0.bs b o e).1) hl2
 rw[ygb] at b
 exact Fo.go hr e0 b r q
end
section
variable {X:Cx} {Wx:WX}
/-- what a callee may do, at the caller's slots -/
theorem z71 {k:Nat} {f:Addr} {F:DF} {pins:List (Addr × Obj)} {σ : L2.St} {H:Hp} {s:Shared} {Q:VK} {us:List Value} {vs:List V} (tk:yk X Wx) (Fo:FnD X.prog X.w X.K X.mg X.base k f F) (hr:RoomG k X.A) (I:Inv X pins σ H s) (r:Vals vs us)
  (h:spR X.K F vs H Q (fun c d H=>Wx c d σ H)):codeAny (model X.prog X.w) X.A (.call (.ref f) ⟨us,[]⟩) (fun r s'=>match r with |.ok (.ret v)=>EP X pins σ Q v s' |.ok _=>False |.error e=>X.xe e s') s:=by
 refine codeAny_mono (Fo X.A X.stack s H us vs Q _ hr I.env0 r h) fun r s' hq=>?_
 cases r with
 |error e=>exact yxd tk σ pins H s e s' I hq
 |ok fl=>
  cases fl with
  |ret u=>exact I.after hq
  |next=>exact y7 hq
  |brk=>exact y7 hq
  |cont=>exact y7 hq
theorem zyi {K:Fg} {H1 H:Hp} {al:Gh} {m:Mem} {σ : L2.St} {Q:VK} {F:DF} {ws:List W} {vs:List V} (r:Rel K H1 H al m) (h:RpWs K H1 al vs ws) (p:Post K H1 al σ Wx (GV K Q) (F ws m)):spR K F vs H Q (fun c d H=>Wx c d σ H):=⟨H1,al,m,ws,r,h,zweb p⟩
theorem de_fn {a:Expr} {es:List Expr} {k:Nat} {f:Addr} {x:Str} {p pos:Pos} {F:DF} {g:DA} (tk:yk X Wx) (Fo:FnD X.prog X.w X.K X.mg X.base k f F) (hr:RoomG k X.A) (hg:Gl X x) (hm:X.mg x=some (.ref f))
  (hk:ym X.K (.ref f)=true) (ha:PA X (a::es) (tA X.K Wx g)) (hdb:(x==("__debug__" : Str))=false:=by decide) (he:starEach (a::es) X.env=(false,eval a X.env)::starEach es X.env:=by rfl)
  (hpl:(backTo pos (starEach es X.env)).any (·.1)=false:=by rfl):PE X (.Call (.Name x p) (a::es) [] pos) (tD X.K Wx (eFn F g)):=by
 refine⟨fun pins s σ H Q I h=>?_⟩
 have h2:tA X.K Wx g σ H fun vs H'=>spR X.K F vs H' Q (fun c d H=>Wx c d σ H):=zem (R:=fun vs H Q=>spR X.K F vs H Q (fun c d H=>Wx c d σ H)) h fun H1 H al m ws vs r hvs p=>zyi r hvs p
 refine wpAny_Call_Name_kw (ld_glob I hg hm ?_ hdb)
 refine yuc (h₀:=X.base) I.ok.mod.kin hk (thn (ha.run pos pins s σ H _ I h2) fun us s1 ⟨vs,H1,I1,r,q⟩=>⟨I1.kIn,?_⟩) he hpl
 exact wpAny_call (z71 tk Fo hr I1 r q)
end
theorem zuc {α : Type} {c:Prop} [Decidable c] {x y : α} (h:chk c x=some y):c∧x=y:=by
 unfold chk at h
 by_cases hc:c
 ·rw[if_pos hc] at h
  exact⟨hc,ynb h⟩
 ·rw[if_neg hc] at h
  cases h
theorem zdc {α : Type} {c:Prop} [Decidable c] {x : α} (h:c):chk c x=some x:=if_pos h
def mulD:D→D→Option D
 |.int i,.int j=>chk (CMul i j) (.int (i*j))
 |.str x,.int n=>chk (MulOk x n) (.str (Txt.mul x n))
 |.lst a,.int k=>chk (-(2 ^ 63)≤k∧k<2 ^ 63∧a.length*k.toNat≤sizeLine) (.lst (yn k.toNat a).flatten)
 |_,_=>none
def fdivD:D→D→Option D
 |.int i,.int j=>chk (0<j∧j<1073741824) (.int (i / j))
 |_,_=>none
def modD:D→D→Option D
 |.int i,.int j=>chk (0<j) (.int (i % j))
 |_,_=>none
def powD:D→D→Option D
 |.int i,.int j=>chk (CPow i j) (.int (i ^ j.toNat))
 |_,_=>none
def ninSD:D→D→Option D
 |.str i,.str j=>some (.bl (!(!(Builtin.Str.occurrences j i 0 j.length 1).isEmpty)))
 |_,_=>none
mutual
theorem ze8 {K:Fg} {H1 H:Hp} (e:Ex H1 H):∀{d:D} {v:V} {p:PyData},Rp K H1 v d→toP d=some p→Dp K H v p
 |.non,_,_,h,q=>by cases h;cases q;exact .non
 |.bl b,_,_,h,q=>by cases h;cases q;exact .bl b
 |.int i,_,_,h,q=>by cases h;cases q;exact .int i
 |.str x,_,_,h,q=>by cases h;cases q;exact .str x
 |.lst ds,_,_,h,q=>by
  cases h with
  |lst h1 h2=>
   unfold toP at q
   cases hp:toPs ds with
   |none=>rw[hp] at q;cases q
   |some ps=>
    rw[hp] at q
    cases q
    exact .lst (SqL.of (e _ _ h1)) (z6x e h2 hp)
 |.fz ds,_,_,h,q=>by
  cases h with
  |fz h1 h2=>
   unfold toP at q
   cases hp:toPs ds with
   |none=>rw[hp] at q;cases q
   |some ps=>
    rw[hp] at q
    cases q
    exact .lst (yud e h1) (z6x e h2 hp)
 |.tup ds,_,_,h,q=>by
  cases h with
  |tup h1 h2=>
   unfold toP at q
   cases hp:toPs ds with
   |none=>rw[hp] at q;cases q
   |some ps=>
    rw[hp] at q
    cases q
    exact .tup (ybd e h1) (z6x e h2 hp)
 |.obj _ _ _,_,_,_,q=>by unfold toP at q;cases q
 |.dic _ _,_,_,_,q=>by unfold toP at q;cases q
 |.cls _,_,_,_,q=>by unfold toP at q;cases q
theorem z6x {K:Fg} {H1 H:Hp} (e:Ex H1 H):∀{ds:List D} {vs:List V} {ps:List PyData},RpL K H1 vs ds→toPs ds=some ps→DpAll K H vs ps
 |[],_,_,h,q=>by cases h;unfold toPs at q;cases q;exact .nil
 |d::ds,_,_,h,q=>by
  cases h with
  |cons h1 h2=>
   unfold toPs at q
   cases hp:toP d with
   |none=>rw[hp] at q;cases q
   |some p=>
    rw[hp] at q
    cases hq:toPs ds with
    |none=>rw[hq] at q;cases q
    |some ps=>
     rw[hq] at q
     cases q
     exact .cons (ze8 e h1 hp) (z6x e h2 hq)
end
theorem rh_dp {K:Fg} {H1 H:Hp} (e:Ex H1 H) {d:D} {v:V} {p:PyData} (h:Rh K H1 H v d) (q:toP d=some p):Dp K H v p:=by
 cases h with
 |p h=>exact ze8 e h q
 | @c a c hlv hc=>
   cases c with
   |zd _=>cases hlv
   |obj _ _ _=>unfold Cell.toD toP at q;cases q
   |dic _ _=>unfold Cell.toD toP at q;cases q
   |dn _ _=>unfold Cell.toD toP at q;cases q
   |dt _ _=>unfold Cell.toD toP at q;cases q
   |hp _=>cases hlv
   |lst ds=>
    obtain⟨vs,h1,h2⟩:=hc
    unfold Cell.toD toP at q
    cases hp:toPs ds with
    |none=>rw[hp] at q;cases q
    |some ps=>
     rw[hp] at q
     cases q
     exact .lst (SqL.of h1) (z6x e h2 hp)
section
variable {X:Cx}
theorem zlr {f:Value→Value→Sem Value} {r r':R2} (h:OpR X f r) (h':OpR X f r'):OpR X f (fun x y H Q=>r x y H Q∨r' x y H Q):=
 fun pins s σ H x y u v Q I rx ry q=>q.elim (h pins s σ H x y u v Q I rx ry) (h' pins s σ H x y u v Q I rx ry)
theorem zdib:OpR X (binaryOp .Mult) (fun x y H Q=>∃i n,x = .str i∧y = .int n∧MulOk i n∧Q (.str (Txt.mul i n)) H):=by
 intro pins s σ H x y u v Q I rx ry h
 obtain⟨i,n,rfl,rfl,hc,q⟩:=h
 obtain⟨t,rfl⟩:=rx
 obtain⟨t',rfl⟩:=ry
 exact SB.mul hc fun t2 k=>⟨.str _,H,I.tok k,⟨_,rfl⟩,q⟩
theorem z0:OpOk X (binaryOp .Add) addD:=by
 refine⟨_,zlr op_add (zlr op_add_str (zlr op_cat op_catT)),fun H1 H al m v w x y z Q r hx hy hz k=>?_⟩
 cases x <;> cases y <;> first |(cases hz;done) |skip
 ·cases hx.int;cases hy.int;cases hz
  exact .inl ⟨_,_,rfl,rfl,k H1 H _ (Ex.refl _) r (.int _)⟩
 ·cases hx.str;cases hy.str
  obtain⟨hc,rfl⟩:=zuc hz
  exact .inr (.inl ⟨_,_,rfl,rfl,hc,k H1 H _ (Ex.refl _) r (.str _)⟩)
 ·obtain⟨a,vs,rfl,h1,h2⟩:=hx.lst r.ex
  obtain⟨b,us,rfl,h3,h4⟩:=hy.lst r.ex
  obtain⟨hc,rfl⟩:=zuc hz
  refine .inr (.inr (.inl ⟨_,_,_,_,rfl,rfl,h1,h3,by rw[h2.length,h4.length];exact hc,fun p hp=>?_⟩))
  obtain⟨q1,q2,q3⟩:=z5o r (h2.append h4) hp
  exact k _ _ _ q1 q2 q3
 ·obtain⟨a,vs,rfl,h1,h2⟩:=hx.tup r.ex
  obtain⟨b,us,rfl,h3,h4⟩:=hy.tup r.ex
  obtain⟨⟨hc1,hc2,hc⟩,rfl⟩:=zuc hz
  have n1:vs≠[]:=fun e=>hc1 (by subst e;cases h2;rfl)
  have n2:us≠[]:=fun e=>hc2 (by subst e;cases h4;rfl)
  refine .inr (.inr (.inr ⟨_,_,_,_,rfl,rfl,h1,h3,n1,by rw[h2.length,h4.length];exact hc,fun e=>absurd e n2,fun _ p hp=>?_⟩))
  obtain⟨q1,q2,q3⟩:=z7k r (h2.append h4) hp
  exact k _ _ _ q1 q2 q3
theorem zux:OpOk X (binaryOp .Sub) subD:=by
 refine⟨_,op_sub,fun H1 H al m v w x y z Q r hx hy hz k=>?_⟩
 cases x <;> cases y <;> first |(cases hz;done) |skip
 cases hx.int;cases hy.int;cases hz
 exact⟨_,_,rfl,rfl,k H1 H _ (Ex.refl _) r (.int _)⟩
theorem RpL.rep {K:Fg} {H:Hp} {vs:List V} {ds:List D} (h:RpL K H vs ds):∀n,RpL K H (yn n vs).flatten (yn n ds).flatten
 | 0=>by simp;exact .nil
 |n+1=>by
  rw[y5b,y5b,y1c,y1c]
  exact h.append (RpL.rep h n)
theorem zjk:OpOk X (binaryOp .Mult) mulD:=by
 refine⟨_,zlr op_mul (zlr zdib op_rep),fun H1 H al m v w x y z Q r hx hy hz k=>?_⟩
 cases x <;> cases y <;> first |(cases hz;done) |skip
 ·cases hx.int;cases hy.int
  obtain⟨hc,rfl⟩:=zuc hz
  exact .inl ⟨_,_,rfl,rfl,hc,k H1 H _ (Ex.refl _) r (.int _)⟩
 ·cases hx.str;cases hy.int
  obtain⟨hc,rfl⟩:=zuc hz
  exact .inr (.inl ⟨_,_,rfl,rfl,hc,k H1 H _ (Ex.refl _) r (.str _)⟩)
 ·obtain⟨a,vs,rfl,h1,h2⟩:=hx.lst r.ex
  cases hy.int
  obtain⟨⟨hc1,hc2,hc⟩,rfl⟩:=zuc hz
  refine .inr (.inr ⟨_,_,_,rfl,rfl,h1,hc1,hc2,by rw[h2.length];exact hc,fun p hp=>?_⟩)
  obtain⟨q1,q2,q3⟩:=z5o r (h2.rep _) hp
  exact k _ _ _ q1 q2 q3
theorem zj4:OpOk X (binaryOp .FloorDiv) fdivD:=by
 refine⟨_,op_fdiv,fun H1 H al m v w x y z Q r hx hy hz k=>?_⟩
 cases x <;> cases y <;> first |(cases hz;done) |skip
 cases hx.int;cases hy.int
 obtain⟨hc,rfl⟩:=zuc hz
 exact⟨_,_,rfl,rfl,hc,k H1 H _ (Ex.refl _) r (.int _)⟩
theorem ztq:OpOk X (binaryOp .Mod) modD:=by
 refine⟨_,op_mod,fun H1 H al m v w x y z Q r hx hy hz k=>?_⟩
 cases x <;> cases y <;> first |(cases hz;done) |skip
 cases hx.int;cases hy.int
 obtain⟨hc,rfl⟩:=zuc hz
 exact⟨_,_,rfl,rfl,hc,k H1 H _ (Ex.refl _) r (.int _)⟩
theorem zs8:OpOk X (binaryOp .Pow) powD:=by
 refine⟨_,op_pow,fun H1 H al m v w x y z Q r hx hy hz k=>?_⟩
 cases x <;> cases y <;> first |(cases hz;done) |skip
 cases hx.int;cases hy.int
 obtain⟨hc,rfl⟩:=zuc hz
 exact⟨_,_,rfl,rfl,hc,k H1 H _ (Ex.refl _) r (.int _)⟩
theorem z3u:OpOk X (compareOp .Lt) ltD:=by
 refine⟨_,zlr op_lt op_lt_str,fun H1 H al m v w x y z Q r hx hy hz k=>?_⟩
 cases x <;> cases y <;> first |(cases hz;done) |skip
 ·cases hx.int;cases hy.int;cases hz
  exact .inl ⟨_,_,rfl,rfl,k H1 H _ (Ex.refl _) r (.bl _)⟩
 ·cases hx.str;cases hy.str;cases hz
  exact .inr ⟨_,_,rfl,rfl,k H1 H _ (Ex.refl _) r (.bl _)⟩
theorem z8o:OpOk X (compareOp .LtE) leD:=by
 refine⟨_,zlr op_le op_le_str,fun H1 H al m v w x y z Q r hx hy hz k=>?_⟩
 cases x <;> cases y <;> first |(cases hz;done) |skip
 ·cases hx.int;cases hy.int;cases hz
  exact .inl ⟨_,_,rfl,rfl,k H1 H _ (Ex.refl _) r (.bl _)⟩
 ·cases hx.str;cases hy.str;cases hz
  exact .inr ⟨_,_,rfl,rfl,k H1 H _ (Ex.refl _) r (.bl _)⟩
theorem zpy:OpOk X (compareOp .Gt) gtD:=by
 refine⟨_,op_gt,fun H1 H al m v w x y z Q r hx hy hz k=>?_⟩
 cases x <;> cases y <;> first |(cases hz;done) |skip
 cases hx.int;cases hy.int;cases hz
 exact⟨_,_,rfl,rfl,k H1 H _ (Ex.refl _) r (.bl _)⟩
theorem z2bb:OpOk X (compareOp .GtE) geD:=by
 refine⟨_,op_ge,fun H1 H al m v w x y z Q r hx hy hz k=>?_⟩
 cases x <;> cases y <;> first |(cases hz;done) |skip
 cases hx.int;cases hy.int;cases hz
 exact⟨_,_,rfl,rfl,k H1 H _ (Ex.refl _) r (.bl _)⟩
theorem Rh.notNon {K:Fg} {H1 H:Hp} {v:V} {x:D} (h:Rh K H1 H v x) (n:x ≠ .non) (n2:x ≠ .opq):v ≠ .non:=by
 rintro rfl
 cases h with
 |p h=>cases h <;> first |exact n rfl |exact n2 rfl
theorem zs6:OpOk X (compareOp .Is) zmw:=by
 refine⟨_,op_isN,fun H1 H al m v w x y z Q r hx hy hz k=>?_⟩
 cases y <;> first |(cases x <;> cases hz;done) |skip
 cases hy.non
 refine⟨rfl,?_⟩
 cases x <;> first
  |(cases hz;done)
  |(cases hx.non;cases hz;exact k H1 H _ (Ex.refl _) r (.bl true))
  |(cases hz;rw[decide_eq_false (hx.notNon (by intro h;cases h) (by intro h;cases h))];exact k H1 H _ (Ex.refl _) r (.bl false))
theorem z4u:OpOk X (compareOp .IsNot) ztn:=by
 refine⟨_,op_notN,fun H1 H al m v w x y z Q r hx hy hz k=>?_⟩
 cases y <;> first |(cases x <;> cases hz;done) |skip
 cases hy.non
 refine⟨rfl,?_⟩
 cases x <;> first
  |(cases hz;done)
  |(cases hx.non;cases hz;exact k H1 H _ (Ex.refl _) r (.bl false))
  |(cases hz;rw[decide_eq_false (hx.notNon (by intro h;cases h) (by intro h;cases h))];exact k H1 H _ (Ex.refl _) r (.bl true))
theorem zvc (hu:X.A.units+64<cLine):OpOk X (compareOp .Eq) eqD:=by
 refine⟨_,zlr (op_eqD hu) op_eq,fun H1 H al m v w x y z Q r hx hy hz k=>?_⟩
 by_cases hs:∃a b,x = .str a∧y = .str b
 ·obtain⟨a,b,rfl,rfl⟩:=hs
  cases hx.str
  cases hy.str
  cases hz
  exact .inr ⟨rfl,by
   have e:decide ((V.str a)=V.str b)=decide (a=b):=by simp
   rw[e]
   exact k H1 H _ (Ex.refl _) r (.bl _)⟩
 refine .inl ?_
 replace hz:eqP x y=some z:=by
  unfold eqD at hz
  split at hz
  ·exact absurd ⟨_,_,rfl,rfl⟩ hs
  ·exact hz
 unfold eqP at hz
 cases hp:toP x with
 |none=>rw[hp] at hz;cases hz
 |some p=>
  rw[hp] at hz
  cases hq:toP y with
  |none=>rw[hq] at hz;cases hz
  |some q=>
   rw[hq] at hz
   obtain⟨⟨h1,h2⟩,rfl⟩:=zuc hz
   exact⟨p,q,rh_dp r.ex hx hp,rh_dp r.ex hy hq,h1,h2,k H1 H _ (Ex.refl _) r (.bl _)⟩
theorem z8k (hu:X.A.units+64<cLine):OpOk X (compareOp .NotEq) neD:=by
 refine⟨_,zlr (op_neD hu) op_ne,fun H1 H al m v w x y z Q r hx hy hz k=>?_⟩
 by_cases hs:∃a b,x = .str a∧y = .str b
 ·obtain⟨a,b,rfl,rfl⟩:=hs
  cases hx.str
  cases hy.str
  cases hz
  exact .inr ⟨rfl,by
   have e:decide ((V.str a)=V.str b)=decide (a=b):=by simp
   rw[e]
   exact k H1 H _ (Ex.refl _) r (.bl _)⟩
 refine .inl ?_
 replace hz:neP x y=some z:=by
  unfold neD at hz
  split at hz
  ·exact absurd ⟨_,_,rfl,rfl⟩ hs
  ·exact hz
 unfold neP at hz
 cases hp:toP x with
 |none=>rw[hp] at hz;cases hz
 |some p=>
  rw[hp] at hz
  cases hq:toP y with
  |none=>rw[hq] at hz;cases hz
  |some q=>
   rw[hq] at hz
   obtain⟨⟨h1,h2⟩,rfl⟩:=zuc hz
   exact⟨p,q,rh_dp r.ex hx hp,rh_dp r.ex hy hq,h1,h2,k H1 H _ (Ex.refl _) r (.bl _)⟩
theorem z0bb:OpOk X (compareOp .NotIn) ninSD:=by
 refine⟨_,op_notin_str,fun H1 H al m v w x y z Q r hx hy hz k=>?_⟩
 cases x <;> cases y <;> first |(cases hz;done) |skip
 cases hx.str;cases hy.str;cases hz
 exact⟨_,_,rfl,rfl,k H1 H _ (Ex.refl _) r (.bl _)⟩
theorem zbt:UnOk X (unaryOp .USub) negD:=by
 refine⟨_,un_neg,fun H1 H al m v x z Q r hx hz k=>?_⟩
 cases x <;> first |(cases hz;done) |skip
 cases hx.int;cases hz
 exact⟨_,rfl,k H1 H _ (Ex.refl _) r (.int _)⟩
theorem bl_lt:∀x y z,ltD x y=some z→∃k,z = .bl k:=by
 intro x y z h
 cases x <;> cases y <;> first |(cases h;done) |(cases h;exact⟨_,rfl⟩)
theorem bl_le:∀x y z,leD x y=some z→∃k,z = .bl k:=by
 intro x y z h
 cases x <;> cases y <;> first |(cases h;done) |(cases h;exact⟨_,rfl⟩)
theorem bl_gt:∀x y z,gtD x y=some z→∃k,z = .bl k:=by
 intro x y z h
 cases x <;> cases y <;> first |(cases h;done) |(cases h;exact⟨_,rfl⟩)
theorem bl_ge:∀x y z,geD x y=some z→∃k,z = .bl k:=by
 intro x y z h
 cases x <;> cases y <;> first |(cases h;done) |(cases h;exact⟨_,rfl⟩)
theorem bl_is:∀x y z,zmw x y=some z→∃k,z = .bl k:=by
 intro x y z h
 cases y <;> cases x <;> first |(cases h;done) |(cases h;exact⟨_,rfl⟩)
theorem zx3:∀x y z,ztn x y=some z→∃k,z = .bl k:=by
 intro x y z h
 cases y <;> cases x <;> first |(cases h;done) |(cases h;exact⟨_,rfl⟩)
theorem zgmb:∀x y z,eqP x y=some z→∃k,z=D.bl k:=fun x y z h=>by
 unfold eqP at h
 split at h
 ·split at h
  ·exact⟨_,(zuc h).2.symm⟩
  ·cases h
 ·cases h
theorem zfmb:∀x y z,neP x y=some z→∃k,z=D.bl k:=fun x y z h=>by
 unfold neP at h
 split at h
 ·split at h
  ·exact⟨_,(zuc h).2.symm⟩
  ·cases h
 ·cases h
theorem bl_eq:∀x y z,eqD x y=some z→∃k,z=D.bl k:=fun x y z h=>by
 unfold eqD at h
 split at h
 ·cases h
  exact⟨_,rfl⟩
 ·exact zgmb _ _ _ h
theorem bl_ne:∀x y z,neD x y=some z→∃k,z=D.bl k:=fun x y z h=>by
 unfold neD at h
 split at h
 ·cases h
  exact⟨_,rfl⟩
 ·exact zfmb _ _ _ h
end
def zwo (X:Cx) (f:Value) (g:List D→Option D):Prop:=∃r,CallR X f r ∧
 ∀H1 H al m vs xs z Q,Rel X.K H1 H al m→RhL X.K H1 H vs xs→g xs=some z→(∀H1' H' u,Ex H1 H1'→Rel X.K H1' H' al m→Rp X.K H1' u z→Q u H')→r vs H Q
section
variable {X:Cx} {Wx:WX} {a:Expr} {es:List Expr} {x:Str} {p pos:Pos} {f:DA} {g:List D→Option D} {id:String}
theorem z6fb {f:Value} {r r':List V→Hp→VK→Prop} (h:CallR X f r) (h':CallR X f r'):CallR X f (fun xs H Q=>r xs H Q∨r' xs H Q):=
 fun pins s σ H xs us Q I rx q=>q.elim (h pins s σ H xs us Q I rx) (h' pins s σ H xs us Q I rx)
theorem zxq {K:Fg} {H1 H:Hp} {al:Gh} {m:Mem} {σ : L2.St} {Q:VK} {g:List D→Option D} {ws:List W} {vs:List V} {r:List V→Hp→VK→Prop} (rl:Rel K H1 H al m) (hx:RpWs K H1 al vs ws)
  (hr:∀H1 H al m vs xs z Q,Rel K H1 H al m→RhL K H1 H vs xs→g xs=some z→(∀H1' H' u,Ex H1 H1'→Rel K H1' H' al m→Rp K H1' u z→Q u H')→r vs H Q)
  (p:Post K H1 al σ Wx (GV K Q) (liftA g ws m)):r vs H Q:=by
 unfold liftA at p
 split at p
 ·rename_i xs hxs
  split at p
  ·rename_i z hz
   exact hr H1 H al m vs xs z Q rl (zb2 rl hx hxs) hz fun H1' H' u e r' q=>p H1' al H' e (z2b _) r' u q
  ·exact p.elim
 ·exact p.elim
theorem zjj (hc:zwo X (.builtin id) g) (hg:Gl X x) (hm:X.mg x=none) (hv:bootBuiltins x=some (.builtin id)) (ha:PA X (a::es) (tA X.K Wx f)) (hn:x ≠ "__name__" := by decide) (hdb:(x==("__debug__" : Str))=false:=by decide)
  (he:starEach (a::es) X.env=(false,eval a X.env)::starEach es X.env:=by rfl) (hpl:(backTo pos (starEach es X.env)).any (·.1)=false:=by rfl):PE X (.Call (.Name x p) (a::es) [] pos) (tD X.K Wx (eB g f)):=by
 obtain⟨r,hr,hs⟩:=hc
 exact peImp (pe_callB hr hg hm hv ha hn hdb he hpl) fun σ H Q h=>zem (R:=r) h fun H1 H al m ws vs rl hvs p=>zxq rl hvs hs p
theorem zee {T:String} (hc:zwo X (.type T) g) (hg:Gl X x) (hm:X.mg x=none) (hv:bootBuiltins x=some (.type T)) (ha:PA X (a::es) (tA X.K Wx f)) (hn:x ≠ "__name__" := by decide) (hdb:(x==("__debug__" : Str))=false:=by decide)
  (he:starEach (a::es) X.env=(false,eval a X.env)::starEach es X.env:=by rfl) (hpl:(backTo pos (starEach es X.env)).any (·.1)=false:=by rfl):PE X (.Call (.Name x p) (a::es) [] pos) (tD X.K Wx (eB g f)):=by
 obtain⟨r,hr,hs⟩:=hc
 exact peImp (pe_callTy hr hg hm hv ha hn hdb he hpl) fun σ H Q h=>zem (R:=r) h fun H1 H al m ws vs rl hvs p=>zxq rl hvs hs p
end
theorem Rh.sql {K:Fg} {H1 H:Hp} {v:V} {x:D} {ds:List D} (e:Ex H1 H) (h:Rh K H1 H v x) (hs:lstD x=some ds):∃a vs,v = .ref a∧SqL K H a vs∧RpL K H1 vs ds:=by
 cases x <;> first |(cases hs;done) |skip
 ·obtain⟨a,vs,e1,h1,h2⟩:=h.lst e
  cases hs
  exact⟨a,vs,e1,SqL.of h1,h2⟩
 ·obtain⟨a,vs,e1,h1,h2⟩:=h.fz e
  cases hs
  exact⟨a,vs,e1,h1,h2⟩
def zon:List D→Option (List Str)
 |[]=>some []
 |.str i::r=>(zon r).map (i :: ·)
 |_::_=>none
def asBls:List D→Option (List Bool)
 |[]=>some []
 |.bl i::r=>(asBls r).map (i :: ·)
 |_::_=>none
theorem zqu:∀{ds:List D} {ns:List Int},zru ds=some ns→ds=ns.map D.int
 |[],_,h=>by cases h;rfl
 |.int i::r,_,h=>by
  obtain⟨x,h1,h2⟩:=y8b.mp (show (zru r).map (i :: ·)=some _ from h)
  subst h2
  rw[zqu h1] <;> rfl
 |.non::_,_,h |.bl _::_,_,h |.str _::_,_,h |.lst _::_,_,h |.tup _::_,_,h |.fz _::_,_,h |.obj _ _ _::_,_,h |.dic _ _::_,_,h |.cls _::_,_,h=>by cases h
theorem z0z:∀{ds:List D} {ns:List Str},zon ds=some ns→ds=ns.map D.str
 |[],_,h=>by cases h;rfl
 |.str i::r,_,h=>by
  obtain⟨x,h1,h2⟩:=y8b.mp (show (zon r).map (i :: ·)=some _ from h)
  subst h2
  rw[z0z h1] <;> rfl
 |.non::_,_,h |.bl _::_,_,h |.int _::_,_,h |.lst _::_,_,h |.tup _::_,_,h |.fz _::_,_,h |.obj _ _ _::_,_,h |.dic _ _::_,_,h |.cls _::_,_,h=>by cases h
theorem zv9:∀{ds:List D} {ns:List Bool},asBls ds=some ns→ds=ns.map D.bl
 |[],_,h=>by cases h;rfl
 |.bl i::r,_,h=>by
  obtain⟨x,h1,h2⟩:=y8b.mp (show (asBls r).map (i :: ·)=some _ from h)
  subst h2
  rw[zv9 h1] <;> rfl
 |.non::_,_,h |.str _::_,_,h |.int _::_,_,h |.lst _::_,_,h |.tup _::_,_,h |.fz _::_,_,h |.obj _ _ _::_,_,h |.dic _ _::_,_,h |.cls _::_,_,h=>by cases h
theorem zx1 (ns:List Int):zru (ns.map D.int)=some ns:=by
 induction ns with
 |nil=>rfl
 |cons a r ih=>show (zru (r.map D.int)).map (a :: ·)=_;rw[ih];rfl
theorem zuab (ns:List Str):zon (ns.map D.str)=some ns:=by
 induction ns with
 |nil=>rfl
 |cons a r ih=>show (zon (r.map D.str)).map (a :: ·)=_;rw[ih];rfl
theorem za6 (ns:List Bool):asBls (ns.map D.bl)=some ns:=by
 induction ns with
 |nil=>rfl
 |cons a r ih=>show (asBls (r.map D.bl)).map (a :: ·)=_;rw[ih];rfl
def maxI:List Int→Int
 |[]=>0
 |a::r=>r.foldl (fun x y=>if x<y then y else x) a
theorem fold_max:∀(r:List Int) (a:Int),(r.foldl (fun x y=>if x<y then y else x) a=a∨r.foldl (fun x y=>if x<y then y else x) a∈r)∧a≤r.foldl (fun x y=>if x<y then y else x) a∧∀y∈r,y≤r.foldl (fun x y=>if x<y then y else x) a
 |[],a=>⟨.inl rfl,Int.le_refl _,fun _ h=>nomatch h⟩
 |b::r,a=>by
  obtain⟨h1,h2,h3⟩:=fold_max r (if a<b then b else a)
  rw[List.foldl_cons]
  by_cases hb:a<b
  ·rw[if_pos hb] at h1 h2 h3 ⊢
   refine⟨.inr ?_,by omega,fun y hy=>?_⟩
   ·rcases h1 with h1 |h1
    ·rw[h1];exact yb
    ·exact yd _ h1
   ·rcases yo.mp hy with e |hy
    ·subst e;exact h2
    ·exact h3 y hy
  ·rw[if_neg hb] at h1 h2 h3 ⊢
   refine⟨h1.imp id (yd _),h2,fun y hy=>?_⟩
   rcases yo.mp hy with e |hy
   ·subst e;omega
   ·exact h3 y hy
theorem z9eb {l:List Int} (h:l≠[]):maxI l∈l:=by
 cases l with
 |nil=>exact absurd rfl h
 |cons a r=>
  rcases (fold_max r a).1 with e |e
  ·show r.foldl _ a∈_
   rw[e];exact yb
  ·exact yd _ e
theorem zh2 {l:List Int}:∀y∈l,y≤maxI l:=by
 cases l with
 |nil=>exact fun _ h=>nomatch h
 |cons a r=>
  intro y hy
  rcases yo.mp hy with e |hy
  ·subst e;exact (fold_max r y).2.1
  ·exact (fold_max r a).2.2 y hy
theorem zxib {l:List Int} {n:Int} (h:n∈l) (hl:∀y∈l,y≤n):n=maxI l:=Int.le_antisymm (zh2 n h) (hl _ (z9eb (List.ne_nil_of_mem h)))
def maxLD:List D→Option D
 |[x]=>(match lstD x with
  |some ds=>(match zru ds with
   |some ns=>chk (ns≠[]) (.int (maxI ns))
   |none=>none)
  |none=>none)
 |_=>none
def allD:List D→Option D
 |[x]=>(match lstD x with
  |some ds=>(match asBls ds with
   |some ns=>some (.bl (ns.all id))
   |none=>none)
  |none=>none)
 |_=>none
def listD:List D→Option D
 |[x]=>(match seqD x with
  |some ds=>some (.lst ds)
  |none=>none)
 |_=>none
section
variable {X:Cx}
theorem rh1 {K:Fg} {H1 H:Hp} {vs:List V} {x:D} (h:RhL K H1 H vs [x]):∃v,vs=[v]∧Rh K H1 H v x:=by
 cases h with
 |cons a b=>cases b;exact⟨_,rfl,a⟩
theorem zsab:zwo X (.builtin "len") lenD:=by
 refine⟨_,z6fb call_len_str call_len_seq,fun H1 H al m vs xs z Q r hx hz k=>?_⟩
 unfold lenD at hz
 split at hz
 ·obtain⟨v,rfl,h⟩:=rh1 hx
  cases h.str
  obtain⟨hc,rfl⟩:=zuc hz
  exact .inl ⟨_,rfl,hc,k H1 H _ (Ex.refl _) r (.int _)⟩
 ·obtain⟨v,rfl,h⟩:=rh1 hx
  split at hz
  ·rename_i ds hds
   obtain⟨a,us,rfl,h1,h2⟩:=h.seq r.ex hds
   cases hz
   rw[←h2.length] at k
   exact .inr ⟨_,_,rfl,h1,k H1 H _ (Ex.refl _) r (.int _)⟩
  ·cases hz
 ·cases hz
theorem z3v:zwo X (.builtin "abs") absD:=by
 refine⟨_,call_abs,fun H1 H al m vs xs z Q r hx hz k=>?_⟩
 unfold absD at hz
 split at hz
 ·obtain⟨v,rfl,h⟩:=rh1 hx
  cases h.int
  cases hz
  exact⟨_,rfl,k H1 H _ (Ex.refl _) r (.int _)⟩
 ·cases hz
theorem z4i:zwo X (.type "int") intD:=by
 refine⟨_,call_int1.or call_int_str,fun H1 H al m vs xs z Q r hx hz k=>?_⟩
 unfold intD at hz
 split at hz
 ·obtain⟨v,rfl,h⟩:=rh1 hx
  cases h.int
  cases hz
  exact .inl (.inl ⟨_,rfl,k H1 H _ (Ex.refl _) r (.int _)⟩)
 ·obtain⟨v,rfl,h⟩:=rh1 hx
  cases h.bl
  cases hz
  exact .inl (.inr ⟨_,rfl,k H1 H _ (Ex.refl _) r (.int _)⟩)
 ·obtain⟨v,rfl,h⟩:=rh1 hx
  cases h.str
  split at hz
  ·rename_i n hn
   obtain⟨hl,rfl⟩:=zuc hz
   exact .inr ⟨_,n,rfl,hn,hl,k H1 H _ (Ex.refl _) r (.int _)⟩
  ·cases hz
 ·cases hz
theorem z67 (hc:X.calm=true):zwo X (.builtin "max") maxLD:=by
 refine⟨_,cr_max hc,fun H1 H al m vs xs z Q r hx hz k=>?_⟩
 unfold maxLD at hz
 split at hz
 ·obtain⟨v,rfl,h⟩:=rh1 hx
  split at hz
  ·rename_i ds hds
   obtain⟨a,us,rfl,h1,h2⟩:=h.sql r.ex hds
   split at hz
   ·rename_i ns hns
    obtain⟨hne,rfl⟩:=zuc hz
    rw[zqu hns] at h2
    have e:=h2.of_ints
    subst e
    refine⟨a,ns,rfl,h1,y9c.mpr hne,fun n hn hl=>?_⟩
    rw[zxib hn hl]
    exact k H1 H _ (Ex.refl _) r (.int _)
   ·cases hz
  ·cases hz
 ·cases hz
theorem zu1 (hc:X.calm=true):zwo X (.builtin "all") allD:=by
 refine⟨_,cr_all hc,fun H1 H al m vs xs z Q r hx hz k=>?_⟩
 unfold allD at hz
 split at hz
 ·obtain⟨v,rfl,h⟩:=rh1 hx
  split at hz
  ·rename_i ds hds
   obtain⟨a,us,rfl,h1,h2⟩:=h.sql r.ex hds
   split at hz
   ·rename_i ns hns
    cases hz
    rw[zv9 hns] at h2
    have e:=h2.of_bls
    subst e
    exact⟨a,ns,rfl,h1,k H1 H _ (Ex.refl _) r (.bl _)⟩
   ·cases hz
  ·cases hz
 ·cases hz
theorem z7l:zwo X (.type "tuple") zxo:=by
 refine⟨_,call_tuple_of,fun H1 H al m vs xs z Q r hx hz k=>?_⟩
 unfold zxo at hz
 split at hz
 ·obtain⟨v,rfl,h⟩:=rh1 hx
  cases hz
  rename_i ds
  generalize e:D.tup ds=x at h
  cases h with
  |p h=>
   subst e
   cases h with
   |tup h1 h2=>exact⟨_,_,rfl,.inr ⟨ybd r.ex h1,k H1 H _ (Ex.refl _) r (.tup h1 h2)⟩⟩
  | @c a c hl q=>cases c <;> first |(cases hl;done) |cases e
 ·obtain⟨v,rfl,h⟩:=rh1 hx
  cases hz
  obtain⟨a,us,rfl,h1,h2⟩:=h.lst r.ex
  refine⟨_,_,rfl,.inl ⟨SqL.of h1,fun l hl=>?_⟩⟩
  obtain⟨q1,q2,q3⟩:=z7k r h2 hl
  exact k _ _ _ q1 q2 q3
 ·obtain⟨v,rfl,h⟩:=rh1 hx
  cases hz
  obtain⟨a,us,rfl,h1,h2⟩:=h.fz r.ex
  refine⟨_,_,rfl,.inl ⟨h1,fun l hl=>?_⟩⟩
  obtain⟨q1,q2,q3⟩:=z7k r h2 hl
  exact k _ _ _ q1 q2 q3
 ·cases hz
theorem zil:zwo X (.type "list") listD:=by
 refine⟨_,call_list_of,fun H1 H al m vs xs z Q r hx hz k=>?_⟩
 unfold listD at hz
 split at hz
 ·obtain⟨v,rfl,h⟩:=rh1 hx
  split at hz
  ·rename_i ds hds
   obtain⟨a,us,rfl,h1,h2⟩:=h.seq r.ex hds
   cases hz
   refine⟨_,_,rfl,h1,fun l hl=>?_⟩
   obtain⟨q1,q2,q3⟩:=z5o r h2 hl
   exact k _ _ _ q1 q2 q3
  ·cases hz
 ·cases hz
end
def MtOk (X:Cx) (id:String) (g:D→List D→Option D):Prop:=∃r,MtR X id r ∧
 ∀H1 H al m v vs x xs z Q,Rel X.K H1 H al m→Rh X.K H1 H v x→RhL X.K H1 H vs xs→g x xs=some z→(∀H1' H' u,Ex H1 H1'→Rel X.K H1' H' al m→Rp X.K H1' u z→Q u H')→r v vs H Q
theorem z73 {K:Fg} {H1 H:Hp} {al:Gh} {m:Mem} {x:W} {v:V} {T:String} (r:Rel K H1 H al m) (hv:RpW K H1 al v x) (h:isTy T x m=true):tyV K T v H:=by
 unfold isTy at h
 split at h
 ·rename_i d hd
  have hr:=hv.rh r hd
  cases d <;> first |(cases h;done) |skip
  ·cases hr.str
   exact eq_of_beq h
  ·obtain⟨a,vs,rfl,h1,h2⟩:=hr.lst r.ex
   exact .inl ⟨eq_of_beq h,vs,SqL.of h1⟩
  ·obtain⟨a,vs,rfl,h1,h2⟩:=hr.fz r.ex
   exact .inl ⟨eq_of_beq h,vs,h1⟩
 ·cases h
section
variable {X:Cx} {Wx:WX} {o e:Expr} {es:List Expr} {name:Str} {apos cpos:Pos} {T id:String} {g:D→List D→Option D} {fo:DE} {f:DA}
theorem zdab {K:Fg} {H1 H:Hp} {al:Gh} {m:Mem} {σ : L2.St} {Q:VK} {g:D→List D→Option D} {x:W} {v:V} {ws:List W} {vs:List V} {r:V→List V→Hp→VK→Prop} (rl:Rel K H1 H al m) (hv:RpW K H1 al v x) (hx:RpWs K H1 al vs ws)
  (hr:∀H1 H al m v vs x xs z Q,Rel K H1 H al m→Rh K H1 H v x→RhL K H1 H vs xs→g x xs=some z→(∀H1' H' u,Ex H1 H1'→Rel K H1' H' al m→Rp K H1' u z→Q u H')→r v vs H Q)
  (p:Post K H1 al σ Wx (GV K Q) (liftM g x ws m)):r v vs H Q:=by
 unfold liftM at p
 split at p
 ·rename_i d hd
  split at p
  ·rename_i xs hxs
   split at p
   ·rename_i z hz
    exact hr H1 H al m v vs d xs z Q rl (hv.rh rl hd) (zb2 rl hx hxs) hz fun H1' H' u e r' q=>p H1' al H' e (z2b _) r' u q
   ·exact p.elim
  ·exact p.elim
 ·exact p.elim
theorem de_bm (pa:PlainAttrs T) (slot:Slot T name id) (hty:typeOf (.builtin id)=pure (.type "method_descriptor")) (hm:MtOk X id g) (ho:PE X o (tD X.K Wx fo)) (ha:PA X (e::es) (tA X.K Wx f))
  (hbase:attributeBase o name X.env (eval o X.env)=eval o X.env:=by rfl)
  (hfew:((backTo cpos (starEach (e::es) X.env)).all (fun x => !x.1)&&(backToKw cpos (keywordEach [] X.env)).all (fun x=>x.1.isSome)
    && decide ((e::es).length+([]:List Keyword).length+(if ([]:List Keyword).isEmpty then 0 else 1)<30))=true:=by rfl)
  (hline:(apos.endLine==cpos.line)=true:=by rfl) (hs:starEach (e::es) X.env=(false,eval e X.env)::starEach es X.env:=by rfl) (hplain:(backTo cpos (starEach es X.env)).any (·.1)=false:=by rfl) :
  PE X (.Call (.Attribute o name apos) (e::es) [] cpos) (tD X.K Wx (eBM T g fo f)):=by
 obtain⟨r,hr,hs'⟩:=hm
 refine peImp (pe_bm pa slot hty hr ho ha hbase hfew hline hs hplain) fun σ H Q ⟨H1,al,dl,m,rl,en,p⟩=>?_
 refine⟨H1,al,dl,m,rl,en,p.bind fun x m1 H1' al' H' e pr r' p' v hv=>?_⟩
 split at p'
 ·rename_i ht
  refine⟨z73 r' hv ht,H1',al',dl,m1,r',en.mono e pr,p'.bind fun ws m2 H2 al2 H2' e2 pr2 r2 p2 vs hvs=>?_⟩
  exact zdab r2 (hv.mono e2 pr2) hvs hs' p2
 ·exact p'.elim
end
def z9x:D→List D→Option D
 |.str a,[.str b]=>chk (a.length≤sizeLine) (.str (Txt.stripChars a b))
 |_,_=>none
def z8u:D→List D→Option D
 |.str a,[.str b]=>chk (a.length≤sizeLine) (.str (Txt.lstripChars a b))
 |_,_=>none
def z2u:D→List D→Option D
 |.str a,[.str b]=>chk (a.length≤sizeLine) (.str (Txt.rstripChars a b))
 |_,_=>none
def z90:D→List D→Option D
 |.str a,[.str b]=>chk ((b.length==0)=false∧a.length+2≤sizeLine) (.lst ((Txt.split a b).map D.str))
 |_,_=>none
def zfn:D→List D→Option D
 |.str a,[.str b]=>chk ((b.length==0)=false∧a.length≤sizeLine) (.tup [.str (Txt.partition a b).1,.str (Txt.partition a b).2.1,.str (Txt.partition a b).2.2])
 |_,_=>none
def z21:D→List D→Option D
 |.str a,[.str b]=>some (.bl (Txt.startswith a b))
 |_,_=>none
section
variable {X:Cx}
theorem z6u:MtOk X "str.strip" z9x:=by
 refine⟨_,mt_stripChars,fun H1 H al m v vs x xs z Q r hx hxs hz k=>?_⟩
 unfold z9x at hz
 split at hz
 ·cases hx.str
  obtain⟨v,rfl,h⟩:=rh1 hxs
  cases h.str
  obtain⟨hc,rfl⟩:=zuc hz
  exact⟨_,_,rfl,rfl,hc,k H1 H _ (Ex.refl _) r (.str _)⟩
 ·cases hz
theorem z8r:MtOk X "str.lstrip" z8u:=by
 refine⟨_,mt_lstripChars,fun H1 H al m v vs x xs z Q r hx hxs hz k=>?_⟩
 unfold z8u at hz
 split at hz
 ·cases hx.str
  obtain⟨v,rfl,h⟩:=rh1 hxs
  cases h.str
  obtain⟨hc,rfl⟩:=zuc hz
  exact⟨_,_,rfl,rfl,hc,k H1 H _ (Ex.refl _) r (.str _)⟩
 ·cases hz
theorem z7r:MtOk X "str.rstrip" z2u:=by
 refine⟨_,mt_rstripChars,fun H1 H al m v vs x xs z Q r hx hxs hz k=>?_⟩
 unfold z2u at hz
 split at hz
 ·cases hx.str
  obtain⟨v,rfl,h⟩:=rh1 hxs
  cases h.str
  obtain⟨hc,rfl⟩:=zuc hz
  exact⟨_,_,rfl,rfl,hc,k H1 H _ (Ex.refl _) r (.str _)⟩
 ·cases hz
theorem z7u:MtOk X "str.split" z90:=by
 refine⟨_,mt_split,fun H1 H al m v vs x xs z Q r hx hxs hz k=>?_⟩
 unfold z90 at hz
 split at hz
 ·cases hx.str
  obtain⟨v,rfl,h⟩:=rh1 hxs
  cases h.str
  obtain⟨⟨hc,hd⟩,rfl⟩:=zuc hz
  refine⟨_,_,rfl,rfl,hc,hd,fun p hp=>?_⟩
  obtain⟨q1,q2,q3⟩:=z5o r (RpL.strs _) hp
  exact k _ _ _ q1 q2 q3
 ·cases hz
theorem zv6:MtOk X "str.startswith" z21:=by
 refine⟨_,mt_startswith,fun H1 H al m v vs x xs z Q r hx hxs hz k=>?_⟩
 unfold z21 at hz
 split at hz
 ·cases hx.str
  obtain⟨v,rfl,h⟩:=rh1 hxs
  cases h.str
  cases hz
  exact⟨_,_,rfl,rfl,k H1 H _ (Ex.refl _) r (.bl _)⟩
 ·cases hz
end
def joinD:D→List D→Option D
 |.str a,[x]=>(match seqD x with
  |some ds=>(match zon ds with
   |some ys=>chk ((ys.map (·.length)).sum+ys.length*a.length≤16777216) (.str (Txt.join a ys))
   |none=>none)
  |none=>none)
 |_,_=>none
section
variable {X:Cx}
theorem zmt:MtOk X "str.join" joinD:=by
 refine⟨_,mt_join,fun H1 H al m v vs x xs z Q r hx hxs hz k=>?_⟩
 unfold joinD at hz
 split at hz
 ·cases hx.str
  obtain⟨v,rfl,h⟩:=rh1 hxs
  split at hz
  ·rename_i ds hds
   obtain⟨a,us,rfl,h1,h2⟩:=h.seq r.ex hds
   split at hz
   ·rename_i ys hys
    obtain⟨hc,rfl⟩:=zuc hz
    rw[z0z hys] at h2
    have e:=h2.of_strs
    subst e
    exact⟨_,_,ys,rfl,rfl,h1,hc,k H1 H _ (Ex.refl _) r (.str _)⟩
   ·cases hz
  ·cases hz
 ·cases hz
theorem zi0:MtOk X "str.partition" zfn:=by
 refine⟨_,mt_partition,fun H1 H al m v vs x xs z Q r hx hxs hz k=>?_⟩
 unfold zfn at hz
 split at hz
 ·cases hx.str
  obtain⟨v,rfl,h⟩:=rh1 hxs
  cases h.str
  obtain⟨⟨hc,hd⟩,rfl⟩:=zuc hz
  refine⟨_,_,rfl,rfl,hc,hd,fun p hp=>?_⟩
  obtain⟨q1,q2,q3⟩:=z7k r (.cons (.str _) (.cons (.str _) (.cons (.str _) .nil))) hp
  exact k _ _ _ q1 q2 q3
 ·cases hz
end
/-- C has the def at f under this name, and it keeps F -/
structure OwnM (P:Program) (w:World) (K:Fg) (mg:Str→Option Value) (base:Heap) (k:Nat) (name C:Str) (F:DF):Prop where
 ex:∃f,yh K (.ref (He.ga K C)) name=some (some (.ref f))∧yhb K (.ref f)=true∧PySem.W.fnIn K f=true∧ym K (.ref f)=true∧FnD P w K mg base k f F
theorem zwg:∀{t:Tbl} {C:Str} {F:DF},look t C=some F→(C,F)∈t
 |q::r,C,F,h=>by
  unfold look at h
  split at h
  ·rename_i e
   cases h
   rw[←e]
   exact yb
  ·exact yd _ (zwg h)
theorem zpf {K:Fg} {H1 H:Hp} {al:Gh} {m:Mem} {x:W} {v:V} {C:Str} (r:Rel K H1 H al m) (hv:RpW K H1 al v x) (h:clsOf x m=some C) :
  ∃a dx fs ns ds,v = .ref a∧H a=some (.ins (He.ga K C) dx fs)∧x.rd m=some (.obj C ns ds)∧fs.map (·.1)=ns∧RpL K H1 (fs.map (·.2)) ds:=by
 unfold clsOf at h
 split at h
 ·rename_i C' ns ds hd
  cases h
  obtain⟨a,dx,fs,e1,h1,h2,h3⟩:=(hv.rh r hd).obj r.ex
  exact⟨a,dx,fs,ns,ds,e1,h1,hd,h2,h3⟩
 ·cases h
section
variable {X:Cx} {Wx:WX}
theorem zcn {A':Around} {k:Nat} {f:Addr} {F:DF} {pins:List (Addr × Obj)} {σ : L2.St} {H:Hp} {s:Shared} {Q:VK} {us:List Value} {vs:List V} (tk:yk X Wx) (Fo:FnD X.prog X.w X.K X.mg X.base k f F) (hr:RoomG k A') (I:Inv X pins σ H s) (e0:Env0 X.prog X.w X.K X.mg X.base A' X.stack s H) (r:Vals vs us)
  (h:spR X.K F vs H Q (fun c d H=>Wx c d σ H)):wpAny (model X.prog X.w) A' (call (.ref f) us) (EP X pins σ Q) X.xe s:=by
 refine wpAny_call (codeAny_mono (Fo A' X.stack s H us vs Q _ hr e0 r h) fun r s' hq=>?_)
 cases r with
 |error e=>exact yxd tk σ pins H s e s' I hq
 |ok fl=>
  cases fl with
  |ret u=>exact I.after hq
  |next=>exact y7 hq
  |brk=>exact y7 hq
  |cont=>exact y7 hq
theorem z0i {pins:List (Addr × Obj)} {σ : L2.St} {H:Hp} {s:Shared} {a C dx:Addr} {fs:List (Str × V)} (I:Inv X pins σ H s) (e:H a=some (.ins C dx fs)):∃ox od,PySem.W.InstAt s.heap a ox C od:=by
 obtain⟨mA,O,_⟩:=ins_get I.hok e
 obtain⟨od,J,_⟩:=O.look
 exact⟨_,_,J⟩
theorem zag {a:Expr} {p pos:Pos} {k:Nat} {t:Tbl} {f:DA} (tk:yk X Wx) (ht:∀q∈t,OwnM X.prog X.w X.K X.mg X.base k "__len__" q.1 q.2) (hr:RoomG (k+1) X.A) (hg:Gl X "len") (hm:X.mg "len" = none) (ha:PA X [a] (tA X.K Wx f))
  (he:starEach [a] X.env=(false,eval a X.env)::starEach [] X.env:=by rfl) (hpl:(backTo pos (starEach [] X.env)).any (·.1)=false:=by rfl):PE X (.Call (.Name "len" p) [a] [] pos) (tD X.K Wx (eLen t f)):=by
 refine⟨fun pins s σ H Q I h=>?_⟩
 have h2:tA X.K Wx f σ H fun vs H'=>∃H1 al m ws,Rel X.K H1 H' al m∧RpWs X.K H1 al vs ws∧Post X.K H1 al σ Wx (GV X.K Q) (match ws with
  |[x]=>(match clsOf x m with
   |some C=>(match look t C with
    |some F=>lenI (F [x] m)
    |none=>.no)
   |none=>liftA lenD [x] m)
  |_=>.no):=zem (R:=fun vs H' Q=>∃H1 al m ws,Rel X.K H1 H' al m∧RpWs X.K H1 al vs ws∧Post X.K H1 al σ Wx (GV X.K Q) (match ws with
  |[x]=>(match clsOf x m with
   |some C=>(match look t C with
    |some F=>lenI (F [x] m)
    |none=>.no)
   |none=>liftA lenD [x] m)
  |_=>.no)) h fun H1 H al m ws vs r hvs p=>⟨H1,al,m,ws,r,hvs,p⟩
 refine wpAny_Call_Name_kw (ld_blt I hg hm boot_len ?_)
 refine PyProof.Rows.callWith_builtin1 (thn (ha.run pos pins s σ H _ I h2) fun us s1 ⟨vs,H',I1,rv,H1,al,m,ws,r,hvs,p⟩=>?_) he hpl
 cases hvs with
 |nil=>exact p.elim
 | @cons v vs x ws hv hvs=>
   cases hvs with
   |cons _ _=>exact p.elim
   |nil=>
    dsimp only at p
    cases hc:clsOf x m with
    |none=>
     rw[hc] at p
     obtain⟨rr,hrr,hs⟩:=zsab (X:=X)
     exact hrr pins s1 σ H' [v] us Q I1 rv (zxq r (.cons hv .nil) hs p)
    |some C=>
     rw[hc] at p
     dsimp only at p
     cases hl:look t C with
     |none=>rw[hl] at p;exact p.elim
     |some F=>
      rw[hl] at p
      dsimp only at p
      obtain⟨a,dx,fs,ns,ds,rfl,h1,h3,h4,h5⟩:=zpf r hv hc
      obtain⟨fa,q1,q2,q3,q4,Fo⟩:=(ht _ (zwg hl)).ex
      obtain⟨ox,od,J⟩:=z0i I1 h1
      obtain⟨u1,rfl,ru⟩:∃u1,us=[u1]∧RelV (.ref a) u1:=by
       cases rv with
       |cons r1 r2=>cases r2;exact⟨_,rfl,r1⟩
      obtain rfl:u1=Value.ref a:=ru
      obtain⟨mF,Fr1⟩:=I1.fr
      refine PySem.W.len_K Fr1 I1.ok.mod.kin J q1 q2 ?_
      refine thn (zcn (Q:=fun v H=>∃n:Int,v = .int n∧0≤n∧n<2 ^ 63∧Q (.int n) H) (vs:=[.ref a]) tk Fo hr.in1 I1 I1.env0.in1 rv ?_) fun v s2 ⟨v',H2,I2,rv2,n,e2,hn0,hn1,q⟩=>?_
      ·refine⟨H1,al,m,[x],r,.cons hv .nil,?_⟩
       show PostF X.K H1 al _ _ (F [x] m)
       unfold lenI at p
       cases hF:F [x] m with
       |no=>rw[hF] at p;exact p.elim
       |exc C' f' p' m'=>rw[hF] at p;exact fun Ha aa Hb v dx e1 l1 e2 e3 e4=>p Ha aa Hb v dx e1 l1 e2 e3 e4
       |ok w' m'=>
        rw[hF] at p
        intro Ha aa Hb v e1 l1 e2 e3
        have p2:Post X.K H1 al σ Wx (GV X.K Q) (lenW w' m'):=p
        clear p hF
        unfold lenW at p2
        split at p2
        ·rename_i i
         split at p2
         ·rename_i hi
          cases (show Rp X.K Ha v (.int i) from e3)
          exact⟨i,rfl,hi.1,hi.2,p2 Ha aa Hb e1 l1 e2 _ (.int i)⟩
         ·exact p2.elim
        ·exact p2.elim
      ·subst e2
       obtain⟨tt,rfl⟩:=rv2
       exact⟨⟨hn0,hn1⟩,.int n,H2,I2.tok _,⟨_,rfl⟩,q⟩
theorem zrab:zwo X (.type "str") strD:=by
 refine⟨_,call_str_int.or SkE.call_str_str,fun H1 H al m vs xs z Q r hx hz k=>?_⟩
 unfold strD at hz
 split at hz
 ·obtain⟨v,rfl,h⟩:=rh1 hx
  cases h.int
  obtain⟨hl,rfl⟩:=zuc hz
  exact .inl ⟨_,rfl,hl,k H1 H _ (Ex.refl _) r (.str _)⟩
 ·obtain⟨v,rfl,h⟩:=rh1 hx
  cases h.str
  cases hz
  exact .inr ⟨_,rfl,k H1 H _ (Ex.refl _) r (.str _)⟩
 ·cases hz
theorem zkdb {a:Expr} {p pos:Pos} {k:Nat} {t:Tbl} {f:DA} (tk:yk X Wx) (ht:∀q∈t,OwnM X.prog X.w X.K X.mg X.base k "__str__" q.1 q.2) (hr:RoomG (k+2) X.A) (hg:Gl X "str") (hm:X.mg "str" = none) (ha:PA X [a] (tA X.K Wx f))
  (he:starEach [a] X.env=(false,eval a X.env)::starEach [] X.env:=by rfl) (hpl:(backTo pos (starEach [] X.env)).any (·.1)=false:=by rfl):PE X (.Call (.Name "str" p) [a] [] pos) (tD X.K Wx (eStr t f)):=by
 refine⟨fun pins s σ H Q I h=>?_⟩
 have h2:tA X.K Wx f σ H fun vs H'=>∃H1 al m ws,Rel X.K H1 H' al m∧RpWs X.K H1 al vs ws∧Post X.K H1 al σ Wx (GV X.K Q) (match ws with
  |[x]=>(match clsOf x m with
   |some C=>(match look t C with
    |some F=>strI (F [x] m)
    |none=>.no)
   |none=>liftA strD [x] m)
  |_=>.no):=zem (R:=fun vs H' Q=>∃H1 al m ws,Rel X.K H1 H' al m∧RpWs X.K H1 al vs ws∧Post X.K H1 al σ Wx (GV X.K Q) (match ws with
  |[x]=>(match clsOf x m with
   |some C=>(match look t C with
    |some F=>strI (F [x] m)
    |none=>.no)
   |none=>liftA strD [x] m)
  |_=>.no)) h fun H1 H al m ws vs r hvs p=>⟨H1,al,m,ws,r,hvs,p⟩
 refine wpAny_Call_Name_kw (ld_blt I hg hm boot_str ?_)
 refine PyProof.Rows.callWith_type1 (thn (ha.run pos pins s σ H _ I h2) fun us s1 ⟨vs,H',I1,rv,H1,al,m,ws,r,hvs,p⟩=>?_) he hpl
 cases hvs with
 |nil=>exact p.elim
 | @cons v vs x ws hv hvs=>
   cases hvs with
   |cons _ _=>exact p.elim
   |nil=>
    dsimp only at p
    cases hc:clsOf x m with
    |none=>
     rw[hc] at p
     obtain⟨rr,hrr,hs⟩:=zrab (X:=X)
     exact hrr pins s1 σ H' [v] us Q I1 rv (zxq r (.cons hv .nil) hs p)
    |some C=>
     rw[hc] at p
     dsimp only at p
     cases hl:look t C with
     |none=>rw[hl] at p;exact p.elim
     |some F=>
      rw[hl] at p
      dsimp only at p
      obtain⟨a,dx,fs,ns,ds,rfl,h1,h3,h4,h5⟩:=zpf r hv hc
      obtain⟨fa,q1,q2,q3,q4,Fo⟩:=(ht _ (zwg hl)).ex
      obtain⟨ox,od,J⟩:=z0i I1 h1
      obtain⟨u1,rfl,ru⟩:∃u1,us=[u1]∧RelV (.ref a) u1:=by
       cases rv with
       |cons r1 r2=>cases r2;exact⟨_,rfl,r1⟩
      obtain rfl:u1=Value.ref a:=ru
      have hrr:RoomG k X.A.in1.in1:=hr.in1.in1
      refine PySem.W.kso_call (by have:=hrr.units0;exact this) I1.kIn J q1 q2 ?_
      refine thn (zcn (Q:=fun v H=>∃n:Str,v = .str n∧Q (.str n) H) (vs:=[.ref a]) tk Fo hrr I1 I1.env0.in1.in1 rv ?_) fun v s2 ⟨v',H2,I2,rv2,n,e2,q⟩=>?_
      ·refine⟨H1,al,m,[x],r,.cons hv .nil,?_⟩
       show PostF X.K H1 al _ _ (F [x] m)
       unfold strI at p
       cases hF:F [x] m with
       |no=>rw[hF] at p;exact p.elim
       |exc C' f' p' m'=>rw[hF] at p;exact fun Ha aa Hb v dx e1 l1 e2 e3 e4=>p Ha aa Hb v dx e1 l1 e2 e3 e4
       |ok w' m'=>
        rw[hF] at p
        intro Ha aa Hb v e1 l1 e2 e3
        have p2:Post X.K H1 al σ Wx (GV X.K Q) (strW w' m'):=p
        clear p hF
        unfold strW at p2
        split at p2
        ·rename_i i
         cases (show Rp X.K Ha v (.str i) from e3)
         exact⟨i,rfl,p2 Ha aa Hb e1 l1 e2 _ (.str i)⟩
        ·exact p2.elim
      ·subst e2
       obtain⟨tt,rfl⟩:=rv2
       exact⟨.str n,H2,I2,⟨_,rfl⟩,q⟩
theorem zomb {K:Fg} {H:Hp} {vs:List V} {ds:List D} (h:RpL K H vs ds) {i:Int} {d:D} (e:atI ds i=some d):∃v,atI vs i=some v∧Rp K H v d:=by
 unfold atI at e ⊢
 rw[h.length]
 cases hi:ixN ds.length i with
 |none=>rw[hi] at e;cases e
 |some j=>
  rw[hi] at e
  obtain⟨v,h1,h2⟩:=h.get (show ds[j]?=some d from e)
  exact⟨v,h1,h2⟩
theorem z58 {K:Fg} {H1 H:Hp} {al:Gh} {m:Mem} {v w:V} {x y z:D} {Q:VK} (r:Rel K H1 H al m) (hx:Rh K H1 H v x) (hy:Rh K H1 H w y) (hz:ixD x y=some z) (k:∀H1' H' u,Ex H1 H1'→Rel K H1' H' al m→Rp K H1' u z→Q u H') :
  rIxS v w H Q∨rIxL K v w H Q∨rIxT K v w H Q:=by
 unfold ixD at hz
 split at hz
 ·cases hx.str
  cases hy.int
  split at hz
  ·rename_i c hc
   obtain⟨hl,rfl⟩:=zuc hz
   exact .inl ⟨_,_,c,rfl,rfl,hl,hc,k H1 H _ (Ex.refl _) r (.str _)⟩
  ·cases hz
 ·cases hy.int
  split at hz
  ·rename_i ds hds
   obtain⟨a,us,rfl,h1,h2⟩:=hx.seq r.ex hds
   obtain⟨u,h3,h4⟩:=zomb h2 hz
   rcases h1 with h1 |h1
   ·exact .inr (.inl ⟨_,_,_,u,rfl,rfl,h1,h3,k H1 H _ (Ex.refl _) r h4⟩)
   ·exact .inr (.inr ⟨_,_,_,u,rfl,rfl,h1,h3,k H1 H _ (Ex.refl _) r h4⟩)
  ·cases hz
 ·cases hz
theorem de_ix {a b:Expr} {pos:Pos} {k:Nat} {t:Tbl} {fa fb:DE} (tk:yk X Wx) (ht:∀q∈t,OwnM X.prog X.w X.K X.mg X.base k "__getitem__" q.1 q.2) (hr:RoomG (k+1) X.A) (ha:PE X a (tD X.K Wx fa)) (hb:PE X b (tD X.K Wx fb)) (hs:PlainIx b)
  (hsl:∀x i,subscripted b true (.ref x) i=runValue (.builtin "lifetime.subscript" ⟨[.ref x,i],[]⟩)):PE X (.Subscript a b pos) (tD X.K Wx (eIx t fa fb)):=by
 refine⟨fun pins s σ H Q I h=>?_⟩
 have h2:tD X.K Wx fa σ H fun v H'=>tD X.K Wx fb σ H' fun w H2=>∃H1 al m x y,Rel X.K H1 H2 al m∧RpW X.K H1 al v x∧RpW X.K H1 al w y∧Post X.K H1 al σ Wx (GV X.K Q) (match clsOf x m with
  |some C=>(match look t C with
   |some F=>F [x,y] m
   |none=>.no)
  |none=>lift2 ixD x y m):=
  zbw (R:=fun v w H2 Q=>∃H1 al m x y,Rel X.K H1 H2 al m∧RpW X.K H1 al v x∧RpW X.K H1 al w y∧Post X.K H1 al σ Wx (GV X.K Q) (match clsOf x m with
  |some C=>(match look t C with
   |some F=>F [x,y] m
   |none=>.no)
  |none=>lift2 ixD x y m)) h fun H1 H al m x y v w r hx hy p=>⟨H1,al,m,x,y,r,hx,hy,p⟩
 refine Subscript_ (binT ha hb I h2 fun v u s2 xv yv H2 I2 rx ry q=>?_)
 obtain⟨H1,al,m,x,y,r,hx,hy,p⟩:=q
 cases hc:clsOf x m with
 |none=>
  rw[hc] at p
  dsimp only at p
  have z:=zpe (r:=fun v w H Q=>rIxS v w H Q∨rIxL X.K v w H Q∨rIxT X.K v w H Q) r hx hy (fun H1 H al m v w x y z Q r hx hy hz k=>z58 r hx hy hz k) p
  exact (ix_str.or (ix_list.or ix_tup)) a b pins s2 σ H2 xv yv v u Q I2 rx ry z (hs _ _)
 |some C=>
  rw[hc] at p
  dsimp only at p
  cases hl:look t C with
  |none=>rw[hl] at p;exact p.elim
  |some F=>
   rw[hl] at p
   dsimp only at p
   obtain⟨aa,dx,fs,ns,ds,rfl,h1,h3,h4,h5⟩:=zpf r hx hc
   obtain⟨fa,q1,q2,q3,q4,Fo⟩:=(ht _ (zwg hl)).ex
   obtain⟨ox,od,J⟩:=z0i I2 h1
   obtain rfl:v=Value.ref aa:=rx
   obtain⟨mF,Fr1⟩:=I2.fr
   exact PySem.W.sub_K Fr1 I2.ok.mod.kin J q1 q3 q2 (zcn (vs:=[.ref aa,yv]) tk Fo hr.in1 I2 I2.env0.in1 (.cons rfl (.cons ry .nil)) (zyi r (.cons hx (.cons hy .nil)) p)) (hsl _ _)
end
/-- what isinstance asks of a class of the program's own -/
structure IsiC (K:Fg) (C:Addr):Prop where
 cl:Cls K C
 ha:yh K (.ref C) "__class__" = some (some (.builtin "object.__class__"))
 hn:y0c K (.builtin "object.__class__") "__get__" = some (some (.builtin "getset_descriptor.__get__"))
 tk:yyd K (.builtin "object.__class__")=some true
 hm:PySem.W.mroIn K C (.type "object")=some true
theorem zlhb {K:Fg} {H:Hp} {a:Addr} {vs:List V} (h:SqL K H a vs):TyX K H (.ref a) (.type "list"):=by
 rcases h with (h |⟨o,h⟩) |⟨o,its,n,h,hc,_⟩
 ·exact .base (.lst h)
 ·exact .base (.frz h)
 ·exact .kList h hc
theorem zkhb {K:Fg} {H:Hp} {a:Addr} {vs:List V} (h:SqT K H a vs):TyX K H (.ref a) (.type "tuple"):=by
 rcases h with (h |⟨o,h⟩) |⟨o,its,n,h,hc,_⟩
 ·exact .base (.tup h)
 ·exact .fTuple h
 ·exact .kTuple h hc
theorem zggb {K:Fg} {H1 H:Hp} {v:V} {x:D} {t:Tag} (e:Ex H1 H) (h:Rh K H1 H v x) (ht:tagD x=some t) (hc:∀C,t = .own C→IsiC K (He.ga K C)):TyX K H v (t.v K):=by
 cases x with
 |non=>cases h.non;cases ht;exact .base .non
 |bl b=>cases h.bl;cases ht;exact .base (.bl b)
 |int b=>cases h.int;cases ht;exact .base (.int b)
 |str b=>cases h.str;cases ht;exact .base (.str b)
 |lst ds=>obtain⟨a,vs,rfl,h1,h2⟩:=h.lst e;cases ht;exact .base (.lst h1)
 |fz ds=>obtain⟨a,vs,rfl,h1,h2⟩:=h.fz e;cases ht;exact zlhb h1
 |tup ds=>obtain⟨a,vs,rfl,h1,h2⟩:=h.tup e;cases ht;exact zkhb h1
 |dic ks ds=>
  obtain⟨a,vs,rfl,h1,h2⟩:=h.dic e
  cases ht
  rcases h1 with h1 |⟨o,h1⟩
  ·exact .base (.dK h1)
  ·exact .fDict h1
 |tk ks=>obtain⟨a,rfl,h1⟩:=h.tk e;cases ht;exact .base (.tup h1)
 |obj C ns ds=>
  obtain⟨a,dx,fs,rfl,h1,h2,h3⟩:=h.obj e
  cases ht
  obtain⟨c1,c2,c3,c4,c5⟩:=hc C rfl
  exact .base (.ins h1 c1 c2 c3 c4 c5)
 |cls C=>cases ht
 |opq=>cases ht
structure IsiT (K:Fg) (isf:Tag→Option Bool) (us:List Value):Prop where
 own:∀C b,isf (.own C)=some b→IsiC K (He.ga K C)
 kit:∀t b,isf t=some b→yrc K (t.v K) us=some b
section
variable {X:Cx} {Wx:WX}
theorem zw4 {K:Fg} {H1 H:Hp} {al:Gh} {m:Mem} {σ : L2.St} {Q:VK} {isf:Tag→Option Bool} {us:List Value} {x:W} {v:V} (r:Rel K H1 H al m) (hv:RpW K H1 al v x) (hk:IsiT K isf us) (p:Post K H1 al σ Wx (GV K Q) (isiW isf x m)) :
  ∃t b,TyX K H v t∧yrc K t us=some b∧Q (.bl b) H:=by
 unfold isiW at p
 split at p
 ·rename_i d hd
  split at p
  ·rename_i t ht
   split at p
   ·rename_i b hb
    refine⟨t.v K,b,zggb r.ex (hv.rh r hd) ht (fun C e=>hk.own C b (by rw[←e];exact hb)),hk.kit t b hb,p.ok_ r _ (.bl b)⟩
   ·exact p.elim
  ·exact p.elim
 ·exact p.elim
/-- isinstance(x, c): c a class by its name -/
theorem zek {a c:Expr} {p pos:Pos} {fa:DE} {cv:V} {u:Value} {isf:Tag→Option Bool} (hg:Gl X "isinstance") (hm:X.mg "isinstance" = none) (ha:PE X a (tD X.K Wx fa)) (hc:PE X c (tC cv)) (cu:ClsV cv u) (hk:IsiT X.K isf [u])
  (hs:starEach (a::[c]) X.env=(false,eval a X.env)::starEach [c] X.env:=by rfl) (hs2:starEach (c::[]) X.env=(false,eval c X.env)::starEach [] X.env:=by rfl) (hpl:(backTo pos (starEach [c] X.env)).any (·.1)=false:=by rfl) :
  PE X (.Call (.Name "isinstance" p) [a,c] [] pos) (tD X.K Wx (eIsi isf fa)):=by
 refine peImp (pe_callB call_isi hg hm (by decide +kernel) (pa_cons ha (pa_cons hc pa_nil hs2) hs) (by decide) (by decide) hs hpl) fun σ H Q h=>?_
 refine zcw (R:=fun v H Q=>∃(x c:V) (t u:Value) (b:Bool),[v,cv]=[x,c]∧ClsV c u∧TyX X.K H x t∧PySem.W.kitOne X.K t u=some b∧Q (.bl b) H) h fun H1 H al m x v r hv p=>?_
 obtain⟨t,b,h1,h2,h3⟩:=zw4 r hv hk p
 refine⟨v,cv,t,u,b,rfl,cu,h1,?_,h3⟩
 unfold yrc at h2
 cases hq:PySem.W.kitOne X.K t u with
 |none=>rw[hq] at h2;cases h2
 |some b'=>
  rw[hq] at h2
  cases b' with
  |true=>cases h2;rfl
  |false=>simpa [yrc] using h2
/-- isinstance(x, (c, d)) -/
theorem zs7 {a c d:Expr} {k:Nat} {p pos p2:Pos} {fa:DE} {cv dv:V} {u u2:Value} {isf:Tag→Option Bool} (hg:Gl X "isinstance") (hm:X.mg "isinstance" = none) (ha:PE X a (tD X.K Wx fa)) (hc:PE X c (tC cv)) (hd:PE X d (tC dv)) (cu:ClsV cv u) (du:ClsV dv u2) (hk:IsiT X.K isf [u,u2])
  (hs:starEach (a::[.Tuple [c,d] k p2]) X.env=(false,eval a X.env)::starEach [.Tuple [c,d] k p2] X.env:=by rfl) (hs2:starEach [.Tuple [c,d] k p2] X.env=(false,eval (.Tuple [c,d] k p2) X.env)::starEach [] X.env:=by rfl)
  (hs3:starEach (c::[d]) X.env=(false,eval c X.env)::starEach [d] X.env:=by rfl) (hs4:starEach [d] X.env=(false,eval d X.env)::starEach [] X.env:=by rfl) (hpl:(backTo pos (starEach [.Tuple [c,d] k p2] X.env)).any (·.1)=false:=by rfl) :
  PE X (.Call (.Name "isinstance" p) [a,.Tuple [c,d] k p2] [] pos) (tD X.K Wx (eIsi isf fa)):=by
 refine peImp (pe_callB call_isiT hg hm (by decide +kernel) (pa_cons ha (pa_cons (pe_tup (pa_cons hc (pa_cons hd pa_nil hs4) hs3)) pa_nil hs2) hs) (by decide) (by decide) hs hpl) fun σ H Q h=>?_
 refine zcw (R:=fun v H Q=>[cv,dv].length≤sizeLine∧∀q,H q=none→∃(x:V) (tp:Addr) (cs:List V) (t:Value) (us:List Value) (b:Bool),[v,.ref q]=[x,.ref tp]∧upd H q (.tup [cv,dv]) tp=some (.tup cs)∧Paired ClsV cs us∧TyX X.K (upd H q (.tup [cv,dv])) x t∧yrc X.K t us=some b∧Q (.bl b) (upd H q (.tup [cv,dv]))) h fun H1 H al m x v r hv p=>?_
 refine⟨by show 2≤sizeLine;decide,fun q hq=>?_⟩
 have r2:=r.grow (ylb (o:=.tup [cv,dv]) hq)
 obtain⟨t,b,h1,h2,h3⟩:=zw4 (us:=[u,u2]) r2 hv hk p
 exact⟨v,q,[cv,dv],t,[u,u2],b,rfl,upd_same,.cons cu (.cons du .nil),h1,h2,h3⟩
def tO (K:Fg) (Wx:WX) (f:DO):TO:=fun σ H Q=>∃H1 al dl m,Rel K H1 H al m∧RpE K H1 al σ dl∧Post K H1 al σ Wx (fun _ _ H o=>Q o H) (f dl m)
theorem poImp {e:Option Expr} {t t':TO} (h:PO X e t) (k:∀ σ H Q,t' σ H Q→t σ H Q):PO X e t':=⟨fun pins s σ H Q I hw=>h.run pins s σ H Q I (k σ H Q hw)⟩
theorem zp7:PO X none (tO X.K Wx oNone):=poImp po_none fun σ H Q ⟨H1,al,dl,m,r,en,p⟩=>p.ok_ r
theorem zo7 {e:Expr} {f:DE} (h:PE X e (tD X.K Wx f)):PO X (some e) (tO X.K Wx (oSome f)):=poImp (po_some h) fun σ H Q ⟨H1,al,dl,m,r,en,p⟩=>⟨H1,al,dl,m,r,en,p.bind fun w m1 H1' al' H' e pr r' p' v hv=>by
 split at p'
 ·rename_i i
  cases (show Rp X.K H1' v (.int i) from hv)
  exact⟨i,rfl,p'.ok_ r'⟩
 ·exact p'.elim⟩
theorem zudb {K:Fg} {H:Hp} {vs:List V} {ds:List D} (h:RpL K H vs ds) (lo hi:Option Int):RpL K H (cutV vs lo hi) (cutD ds lo hi):=by
 unfold cutV cutD
 rw[h.length]
 exact (h.drop _).take _
theorem de_sl {a:Expr} {lo hi:Option Expr} {p2 pos:Pos} {fa:DE} {fl fh:DO} (ha:PE X a (tD X.K Wx fa)) (hl:PO X lo (tO X.K Wx fl)) (hh:PO X hi (tO X.K Wx fh)):PE X (.Subscript a (.Slice lo hi none p2) pos) (tD X.K Wx (eSl fa fl fh)):=by
 refine peImp (pe_slice (sl_str.or (sl_list.or sl_tup)) ha hl hh) fun σ H Q ⟨H1,al,dl,m,r,en,p⟩=>?_
 refine⟨H1,al,dl,m,r,en,p.bind fun x m1 H1' al' H' e pr r' p' v hv=>?_⟩
 refine⟨H1',al',dl,m1,r',en.mono e pr,p'.bind fun l m2 H2 al2 H2' e2 pr2 r2 p2=>?_⟩
 refine⟨H2,al2,dl,m2,r2,(en.mono e pr).mono e2 pr2,p2.bind fun u m3 H3 al3 H3' e3 pr3 r3 p3=>?_⟩
 have hv3:=(hv.mono e2 pr2).mono e3 pr3
 unfold slW at p3
 split at p3
 ·rename_i d hd
  split at p3
  ·rename_i z hz
   have hr:=hv3.rh r3 hd
   unfold slD at hz
   split at hz
   ·cases hr.str
    obtain⟨hc,rfl⟩:=zuc hz
    exact .inl ⟨_,rfl,hc,p3.ok_ r3 _ (.str _)⟩
   ·obtain⟨a,vs,rfl,h1,h2⟩:=hr.lst r3.ex
    cases hz
    refine .inr (.inl ⟨_,_,rfl,SqL.of h1,fun q hq=>?_⟩)
    obtain⟨q1,q2,q3⟩:=z5o r3 (zudb h2 l u) hq
    exact p3 _ _ _ q1 (z2b _) q2 _ q3
   ·obtain⟨a,vs,rfl,h1,h2⟩:=hr.fz r3.ex
    cases hz
    refine .inr (.inl ⟨_,_,rfl,h1,fun q hq=>?_⟩)
    obtain⟨q1,q2,q3⟩:=z5o r3 (zudb h2 l u) hq
    exact p3 _ _ _ q1 (z2b _) q2 _ q3
   ·obtain⟨a,vs,rfl,h1,h2⟩:=hr.tup r3.ex
    obtain⟨hc,rfl⟩:=zuc hz
    refine .inr (.inr ⟨_,_,rfl,h1,by rw[h2.length];exact hc,fun q hq=>?_⟩)
    obtain⟨q1,q2,q3⟩:=z7k r3 (zudb h2 l u) hq
    exact p3 _ _ _ q1 (z2b _) q2 _ q3
   ·cases hz
  ·exact p3.elim
 ·exact p3.elim
theorem zd7 {K:Fg} {H:Hp} {f:Str}:∀{fs:List (Str × V)} {ns:List Str} {ds:List D} {d:D},fs.map (·.1)=ns→RpL K H (fs.map (·.2)) ds→fldL ns ds f=some d→∃v,fs.lookup f=some v∧Rp K H v d
 |[],_,_,_,e,r,h=>by
  subst e
  cases r
  cases h
 |(n,v)::fs,_,ds,d,e,r,h=>by
  subst e
  cases r with
  | @cons _ _ d1 ds1 r1 r2=>
    have h':(if n=f then some d1 else fldL (fs.map (·.1)) ds1 f)=some d:=h
    by_cases hn:n=f
    ·rw[if_pos hn] at h'
     cases h'
     refine⟨v,?_,r1⟩
     rw[y7c,hn,beq_self_eq_true]
    ·rw[if_neg hn] at h'
     obtain⟨u,h1,h2⟩:=zd7 rfl r2 h'
     refine⟨u,?_,h2⟩
     rw[y7c,show (f==n)=false from beq_eq_false_iff_ne.mpr (Ne.symm hn)]
     exact h1
theorem zbd {e:Expr} {f:Str} {pos:Pos} {Cs:List Str} {fe:DE} (hC:∀C∈Cs,Cls X.K (He.ga X.K C)∧NoAttr X.K (He.ga X.K C) f) (he:PE X e (tD X.K Wx fe)) (hb:attributeBase e f X.env (eval e X.env)=eval e X.env:=by rfl):PE X (.Attribute e f pos) (tD X.K Wx (eFld Cs f fe)):=
 peImp (pe_fld he hb) fun σ H Q h=>zcw (R:=fun x H1 Q=>∃a C dx fs v,x = .ref a∧H1 a=some (.ins C dx fs)∧Cls X.K C∧NoAttr X.K C f∧fs.lookup f=some v∧Q v H1) h fun H1 H al m x v r hv p=>by
  refine zyq (r:=fun x H1 Q=>∃a C dx fs v,x = .ref a∧H1 a=some (.ins C dx fs)∧Cls X.K C∧NoAttr X.K C f∧fs.lookup f=some v∧Q v H1) r hv (fun H1 H al m v x z Q r hx hz k=>?_) p
  cases x <;> first |(cases hz;done) |skip
  rename_i C ns ds
  have hz':(if C∈Cs then fldL ns ds f else none)=some z:=hz
  by_cases hm:C∈Cs
  ·rw[if_pos hm] at hz'
   obtain⟨a,dx,fs,rfl,h1,h2,h3⟩:=hx.obj r.ex
   obtain⟨u,h4,h5⟩:=zd7 h2 h3 hz'
   exact⟨a,_,dx,fs,u,rfl,h1,(hC C hm).1,(hC C hm).2,h4,k H1 H u (Ex.refl _) r h5⟩
  ·rw[if_neg hm] at hz'
   cases hz'
theorem zxeb {K:Fg} {H1:Hp} {al:Gh} {σ : L2.St} {Q:VK} {E:XK}:∀{r:Res W},Post K H1 al σ Wx (GV K Q) (noExc r)→PostF K H1 al Q E r
 |.ok w m,h=>fun H1' al' H' v e l r q=>h H1' al' H' e l r v q
 |.exc C f p m,h=>h.elim
 |.no,h=>h
theorem zneb {pins:List (Addr × Obj)} {σ : L2.St} {H:Hp} {s:Shared} {Q:VK} {b:Bool} {E':Value→Shared→Prop} {k:Nat} {C p g a dx:Addr} {fs:List (Str × V)} {f:Str} {F:DF} (I:Inv X pins σ H s) (ea:H a=some (.ins C dx fs)) (c:Cls X.K C) (hp:PropOf X.K C f p g)
  (Fo:FnD X.prog X.w X.K X.mg X.base k g F) (hr:RoomG (k+1) X.A) (h:spR X.K F [.ref a] H Q E0):wpAny (model X.prog X.w) X.A (getAttr (.ref a) f b) (EP X pins σ Q) E' s:=by
 obtain⟨rest,hrec⟩:=hp.rec_
 obtain⟨_,O,_,_,_,_⟩:=ins_get I.hok ea
 obtain⟨_,J,_⟩:=O.look
 have I1:=I.tok (s.toks+1)
 have isC:(PySem.W.clsIn X.K C).isSome=true:=by
  obtain⟨cd,e,_⟩:=PySem.W.any_some c.hd
  rw[e] <;> rfl
 have pg:=PySem.W.plainGet_of (c.get f)
 refine PySem.W.get_bind I.kIn J pg.1 (PySem.W.findObj_data isC hp.at_ hp.get hp.tak) pg.2 (wpAny_call (PySem.W.prop_get (s:={s with toks:=s.toks+1}) I.kIn hrec ?_))
 refine codeAny_mono (Fo X.A.in1 X.stack _ H [.ref a] [.ref a] Q E0 hr.in1 I1.env0.in1 (.cons rfl .nil) h) fun r s' hq=>?_
 match r,hq with
 |.error er,hq=>exact (show False from zxkb (X:=X.nox) pins σ H _ er s' (I1.wish _) hq).elim
 |.ok (.ret u),hq=>
  obtain⟨v,Hz,Iz,rv,qz⟩:=I1.after hq
  show wpAny _ _ (handedOut u) _ _ _
  rw[PySem.W.handedOut_of (handed_of rv)]
  exact wpAny_pure ⟨v,Hz,Iz,rv,qz⟩
 |.ok .next,hq=>exact y7 hq
 |.ok .brk,hq=>exact y7 hq
 |.ok .cont,hq=>exact y7 hq
theorem zuv {e:Expr} {f:Str} {pos:Pos} {k:Nat} {C:Str} {p g:Addr} {F:DF} {fe:DE} (c:Cls X.K (He.ga X.K C)) (hp:PropOf X.K (He.ga X.K C) f p g) (Fo:FnD X.prog X.w X.K X.mg X.base k g F) (hr:RoomG (k+1) X.A)
  (he:PE X e (tD X.K Wx fe)) (hab:attributeBase e f X.env (eval e X.env)=eval e X.env:=by rfl):PE X (.Attribute e f pos) (tD X.K Wx (eProp C F fe)):=by
 refine⟨fun pins s σ H Q I h=>?_⟩
 have h2:=zcw (R:=fun x H1 Q=>∃a dx fs,x = .ref a∧H1 a=some (.ins (He.ga X.K C) dx fs)∧spR X.K F [.ref a] H1 Q E0) h fun H1 H al m x v r hv p=>by
  unfold propW at p
  split at p
  ·rename_i hc
   obtain⟨a,dx,fs,ns,ds,rfl,h1,h3,h4,h5⟩:=zpf r hv hc
   exact⟨a,dx,fs,rfl,h1,H1,al,m,[x],r,.cons hv .nil,zxeb p⟩
  ·exact p.elim
 refine attr_of hab (thn (he.run pins s σ H _ I h2) fun u s1 ⟨x,H1,I1,rx,a,dx,fs,ex,ea,q⟩=>?_)
 subst ex
 cases rx
 exact zneb I1 ea c hp Fo hr q
theorem zq2 {K:Fg} {H1 H:Hp} {al:Gh} {mm:Mem} {x:W} {v:V} {C m:Str} (r:Rel K H1 H al mm) (hv:RpW K H1 al v x) (h:hasNo C m x mm=true):∃a dx fs,v = .ref a∧H a=some (.ins (He.ga K C) dx fs)∧fs.lookup m=none:=by
 unfold hasNo at h
 split at h
 ·rename_i C' ns ds hd
  obtain⟨h1,h2⟩:=Bool.and_eq_true_iff.mp h
  have e:=of_decide_eq_true h1
  subst e
  obtain⟨a,dx,fs,e1,h3,h4,h5⟩:=(hv.rh r hd).obj r.ex
  refine⟨a,dx,fs,e1,h3,?_⟩
  have hn:m ∉ fs.map (·.1):=fun z=>by
   rw[h4] at z
   have:ns.contains m=true:=List.contains_iff_mem.mpr z
   rw[this] at h2
   cases h2
  cases hl:fs.lookup m with
  |none=>rfl
  |some u=>
   exfalso
   apply hn
   have:∀l:List (Str × V),l.lookup m=some u→m∈l.map (·.1):=by
    intro l
    induction l with
    |nil=>intro h;cases h
    |cons q l ih=>
     intro h
     rw[y7c] at h
     cases hb:m==q.1 with
     |true=>rw[eq_of_beq hb];exact yb
     |false=>rw[hb] at h;exact yd _ (ih h)
   exact this fs hl
 ·cases h
theorem zr7 {o e:Expr} {es:List Expr} {m C:Str} {apos pos:Pos} {pl:Sem Bool} {k:Nat} {f:Addr} {F:DF} {fo:DE} {g:DA} (tk:yk X Wx) (c:Cls X.K (He.ga X.K C)) (hm:Meth X.K (He.ga X.K C) m f) (Fo:FnD X.prog X.w X.K X.mg X.base k f F) (hr:RoomG k X.A) (ho:PE X o (tD X.K Wx fo)) (ha:PA X (e::es) (tA X.K Wx g))
  (hst:starEach (e::es) X.env=(false,eval e X.env)::starEach es X.env:=by rfl) (hpl:(backTo pos (starEach es X.env)).any (·.1)=false:=by rfl)
  (ht:eval (.Call (.Attribute o m apos) (e::es) [] pos) X.env=(do
    let ov ←eval o X.env
    standAt apos.atName
    let (f,first) ←holding [ov] (getMethod ov m pl)
    callWith pos f first (backTo pos (starEach (e::es) X.env)) (backToKw pos (keywordEach [] X.env))):=by rfl):PE X (.Call (.Attribute o m apos) (e::es) [] pos) (tD X.K Wx (eMeth C m F fo g)):=by
 refine⟨fun pins s σ H Q I ⟨H1,al,dl,mm,r,en,p⟩=>?_⟩
 have h2:tD X.K Wx fo σ H fun v H'=>∃a dx fs,v = .ref a∧H' a=some (.ins (He.ga X.K C) dx fs)∧fs.lookup m=none∧tA X.K Wx g σ H' fun vs H2=>spR X.K F (.ref a::vs) H2 Q (fun c d H=>Wx c d σ H):=by
  refine⟨H1,al,dl,mm,r,en,p.bind fun x m1 H1' al' H' e pr r' p' v hv=>?_⟩
  split at p'
  ·rename_i hn
   obtain⟨a,dx,fs,rfl,h1,h2⟩:=zq2 r' hv hn
   refine⟨a,dx,fs,rfl,h1,h2,H1',al',dl,m1,r',en.mono e pr,p'.bind fun ws m2 H2 al2 H2' e2 pr2 r2 p2 vs hvs=>?_⟩
   exact zyi r2 (.cons (hv.mono e2 pr2) hvs) p2
  ·exact p'.elim
 refine ydc (pl:=pl) (thn (ho.run pins s σ H _ I h2) fun u s1 ⟨x,H1,I1,rx,a,dx,fs,ex,ea,l,q⟩=>?_) ht
 subst ex
 obtain rfl:u=Value.ref a:=rx
 refine getmeth_ok I1 ea c hm l ?_
 refine yuc (first:=[.ref a]) (h₀:=X.base) I.ok.mod.kin hm.kp (thn (ha.run pos pins s1 σ H1 _ I1 q) fun us s2 ⟨vs,H2,I2,r,q2⟩=>⟨I2.kIn,?_⟩) hst hpl
 exact wpAny_call (z71 (us:=.ref a::us) (vs:=.ref a::vs) tk Fo hr I2 (.cons rfl r) q2)
theorem cm_td {C:Str} {cm:Bool} {F:DF} {fo:DE} {g:DA} {σ : L2.St} {H:Hp} {Q:VK} (h:tD X.K Wx (eCm C cm F fo g) σ H Q) :
  tD X.K Wx fo σ H fun v H'=>v = .ref (He.ga X.K C)∧tA X.K Wx g σ H' fun vs H2=>spR X.K F (if cm=true then .ref (He.ga X.K C)::vs else vs) H2 Q (fun c d H=>Wx c d σ H):=by
 obtain⟨H1,al,dl,mm,r,en,p⟩:=h
 refine⟨H1,al,dl,mm,r,en,p.bind fun x m1 H1' al' H' e pr r' p' v hv=>?_⟩
 split at p'
 ·rename_i C'
  split at p'
  ·rename_i e0
   subst e0
   cases (show Rp X.K H1' v (.cls C') from hv)
   refine⟨rfl,H1',al',dl,m1,r',en.mono e pr,p'.bind fun ws m2 H2 al2 H2' e2 pr2 r2 p2 vs hvs=>?_⟩
   cases cm with
   |true=>exact zyi (ws:=.d (.cls C')::ws) r2 (.cons (show Rp X.K H2 (.ref (He.ga X.K C')) (.cls C') from .cls) hvs) p2
   |false=>exact zyi r2 hvs p2
  ·exact p'.elim
 ·exact p'.elim
theorem z1x {o e:Expr} {es:List Expr} {m C:Str} {apos pos:Pos} {pl:Sem Bool} {mc:Value} {k:Nat} {q g:Addr} {F:DF} {fo:DE} {f:DA} (tk:yk X Wx) (rd:ClX.CRead X.K (He.ga X.K C) mc) (c:ClX.CMet X.K (He.ga X.K C) mc m q g) (Fo:FnD X.prog X.w X.K X.mg X.base k g F) (hr:RoomG k X.A) (ho:PE X o (tD X.K Wx fo)) (ha:PA X (e::es) (tA X.K Wx f))
  (hst:starEach (e::es) X.env=(false,eval e X.env)::starEach es X.env:=by rfl) (hpl:(backTo pos (starEach es X.env)).any (·.1)=false:=by rfl)
  (ht:eval (.Call (.Attribute o m apos) (e::es) [] pos) X.env=(do
    let ov ←eval o X.env
    standAt apos.atName
    let (f,first) ←holding [ov] (getMethod ov m pl)
    callWith pos f first (backTo pos (starEach (e::es) X.env)) (backToKw pos (keywordEach [] X.env))):=by rfl):PE X (.Call (.Attribute o m apos) (e::es) [] pos) (tD X.K Wx (eCm C true F fo f)):=by
 refine⟨fun pins s σ H Q I h=>?_⟩
 refine ydc (pl:=pl) (thn (ho.run pins s σ H _ I (cm_td h)) fun u s1 ⟨x,H1,I1,rx,ex,qq⟩=>?_) ht
 subst ex
 obtain rfl:u=Value.ref (He.ga X.K C):=rx
 refine ClX.getmethcm_ok I1 rd c fun s2 I2=>?_
 refine ClX.callwith_cm I2 (ClX.base_none I1 (yp _)) c.fi (thn (ha.run pos _ s2 σ H1 _ I2 qq) fun us s3 ⟨vs,H2,I3,rv,q2⟩=>⟨⟨ClX.pin_at I3,I3.kIn⟩,?_⟩) hst hpl
 have z:wpAny (model X.prog X.w) X.A (call (.ref s1.heap.objs.size) us) (EP X ((s1.heap.objs.size,PySem.W.methodObj (.ref g) (.ref (He.ga X.K C)))::pins) σ Q) X.xe s3:=
  wpAny_call (PySem.W.method_call (ClX.pin_at I3) (z71 (us:=.ref (He.ga X.K C)::us) (vs:=.ref (He.ga X.K C)::vs) tk Fo hr I3 (.cons rfl rv) q2))
 exact thn z fun _ _ y=>ClX.unpinE y
end
section
variable {X:Cx} {Wx:WX}
theorem zg4 {k:Nat} {f:Addr} {C:Str} {F:DF} {pins:List (Addr × Obj)} {σ : L2.St} {H:Hp} {s:Shared} {Q:VK} {us:List Value} {vs:List V} {ws:List W} {H1:Hp} {al:Gh} {m:Mem} (tk:yk X Wx) (M:Mk X.K (He.ga X.K C) f) (Fo:FnD X.prog X.w X.K X.mg X.base k f F) (hr:RoomG (k+1) X.A) (I:Inv X pins σ H s) (r:Vals vs us)
  (rl:Rel X.K H1 H al m) (hws:RpWs X.K H1 al vs ws) (p:Post X.K H1 al σ Wx (GV X.K Q) (makeW C F ws m)):wpAny (model X.prog X.w) X.A (call (.ref (He.ga X.K C)) us) (EP X pins σ Q) X.xe s:=by
 have hx:H (s.heap.objs.size+1)=none:=I.hok.fresh (Nat.le_succ _)
 have hdx:H s.heap.objs.size=none:=I.hok.fresh (yp _)
 have hne:s.heap.objs.size≠s.heap.objs.size+1:=y0d (ysd _)
 have I2:=Inv.made (C:=He.ga X.K C) I
 have r2:Vals (V.ref (s.heap.objs.size+1)::vs) (Value.ref (s.heap.objs.size+1)::us):=.cons rfl r
 have g1:=rl.grow (ylb (o:=.own (s.heap.objs.size+1)) hdx)
 have hx2:(upd H s.heap.objs.size (.own (s.heap.objs.size+1))) (s.heap.objs.size+1)=none:=by rw[upd_ne (Ne.symm hne)];exact hx
 have g2:Rel X.K H1 (upd (upd H s.heap.objs.size (.own (s.heap.objs.size+1))) (s.heap.objs.size+1) (.ins (He.ga X.K C) s.heap.objs.size [])) (al.push (s.heap.objs.size+1)) (m++[.obj C [] []]):=
  g1.cell hx2 ⟨s.heap.objs.size,[],upd_same,rfl,.nil⟩
 have le:Le al (al.push (s.heap.objs.size+1)):=Le.push _ _
 have hq:spR X.K F (V.ref (s.heap.objs.size+1)::vs) (upd (upd H s.heap.objs.size (.own (s.heap.objs.size+1))) (s.heap.objs.size+1) (.ins (He.ga X.K C) s.heap.objs.size [])) (fun v H2=>v = .non∧Q (.ref (s.heap.objs.size+1)) H2) (fun c d H=>Wx c d σ H):=by
  refine⟨H1,_,_,.c m.length::ws,g2,.cons ⟨_,?_,rfl⟩ (hws.mono (Ex.refl _) le),?_⟩
  ·show (al.al.fl++[s.heap.objs.size+1])[m.length]?=_
   rw[←rl.len,yf (yp _),yib] <;> rfl
  ·unfold makeW at p
   cases hF:F (.c m.length::ws) (m++[.obj C [] []]) with
   |no=>rw[hF] at p;exact p.elim
   |exc C' f' p' m'=>
    rw[hF] at p
    intro Ha aa Hb v dx e1 l1 e2 e3 e4
    exact p Ha aa Hb v dx e1 (le.trans l1) e2 e3 e4
   |ok w' m'=>
    rw[hF] at p
    intro Ha aa Hb v e1 l1 e2 e3
    have p2:Post X.K H1 al σ Wx (GV X.K Q) (madeW m.length w' m'):=p
    clear p hF
    unfold madeW at p2
    split at p2
    ·cases (show Rp X.K Ha v .non from e3)
     refine⟨rfl,?_⟩
     split at p2
     ·rename_i C2 ns ds hc
      have hk:(al.push (s.heap.objs.size+1)).al.fl[m.length]?=some (s.heap.objs.size+1):=by
       show (al.al.fl++[s.heap.objs.size+1])[m.length]?=_
       rw[←rl.len,yf (yp _),yib] <;> rfl
      obtain⟨H3,e5,r5,q5⟩:=e2.freeze (le.trans l1) rl.pos (zsbb l1 hk) (by rw[rl.len];exact yp _) hc
      rw[rl.len] at r5
      exact p2 H3 (al.up _) Hb (e1.trans e5) (le.trans l1).up r5 _ q5
     ·exact p2.elim
    ·exact p2.elim
 refine wpAny_call (make_map (f:=f) I.kIn M.makes M.init (beq_iff_eq.mp M.fn) (codeAny_mono (Fo _ X.stack _ _ (Value.ref (s.heap.objs.size+1)::us) _ _ _ (hr.make _ us []) (I2.env0.make _ us []) r2 hq) fun r s' hq'=>?_))
 cases r with
 |error e=>exact yxd tk σ pins _ _ e s' I2 hq'
 |ok fl=>
  cases fl with
  |ret u=>
   obtain⟨v,H',I3,rv,ev,q3⟩:=I2.after hq'
   subst ev
   exact⟨rv,⟨V.ref (s.heap.objs.size+1),H',I3,rfl,q3⟩⟩
  |next=>exact y7 hq'
  |brk=>exact y7 hq'
  |cont=>exact y7 hq'
theorem mk_td {C:Str} {F:DF} {fo:DE} {g:DA} {σ : L2.St} {H:Hp} {Q:VK} (h:tD X.K Wx (eMk C F fo g) σ H Q) :
  tD X.K Wx fo σ H fun v H'=>v = .ref (He.ga X.K C)∧tA X.K Wx g σ H' fun vs H2=>∃H1 al m ws,Rel X.K H1 H2 al m∧RpWs X.K H1 al vs ws∧Post X.K H1 al σ Wx (GV X.K Q) (makeW C F ws m):=by
 obtain⟨H1,al,dl,mm,r,en,p⟩:=h
 refine⟨H1,al,dl,mm,r,en,p.bind fun x m1 H1' al' H' e pr r' p' v hv=>?_⟩
 split at p'
 ·rename_i C'
  split at p'
  ·rename_i e0
   subst e0
   cases (show Rp X.K H1' v (.cls C') from hv)
   exact⟨rfl,H1',al',dl,m1,r',en.mono e pr,p'.bind fun ws m2 H2 al2 H2' e2 pr2 r2 p2 vs hvs=>⟨H2,al2,m2,ws,r2,hvs,p2⟩⟩
  ·exact p'.elim
 ·exact p'.elim
theorem de_mk {fe e:Expr} {es:List Expr} {C:Str} {pos:Pos} {k:Nat} {f:Addr} {F:DF} {ff:DE} {g:DA} (tk:yk X Wx) (M:Mk X.K (He.ga X.K C) f) (Fo:FnD X.prog X.w X.K X.mg X.base k f F) (hr:RoomG (k+1) X.A) (hf:PE X fe (tD X.K Wx ff)) (ha:PA X (e::es) (tA X.K Wx g))
  (ht:eval (.Call fe (e::es) [] pos) X.env=(do callWith pos (←eval fe X.env) [] (backTo pos (starEach (e::es) X.env)) (backToKw pos (keywordEach [] X.env))):=by rfl)
  (he:starEach (e::es) X.env=(false,eval e X.env)::starEach es X.env:=by rfl) (hpl:(backTo pos (starEach es X.env)).any (·.1)=false:=by rfl):PE X (.Call fe (e::es) [] pos) (tD X.K Wx (eMk C F ff g)):=by
 refine⟨fun pins s σ H Q I h=>?_⟩
 refine Call_ (thn (hf.run pins s σ H _ I (mk_td h)) fun u s1 ⟨y,H1,I1,ry,ey,q⟩=>?_) ht
 subst ey
 obtain rfl:u=Value.ref (He.ga X.K C):=ry
 refine yuc (first:=[]) (h₀:=X.base) I.ok.mod.kin M.kp (thn (ha.run pos pins s1 σ H1 _ I1 q) fun us s2 ⟨vs,H2,I2,rv,Ha,al,m,ws,rl,hws,p⟩=>⟨I2.kIn,?_⟩) he hpl
 exact zg4 tk M Fo hr I2 rv rl hws p
theorem RpWs.of_L {K:Fg} {H1:Hp} {al:Gh}:∀{vs:List V} {ds:List D},RpL K H1 vs ds→RpWs K H1 al vs (ds.map W.d)
 |_,_,.nil=>.nil
 |_,_,.cons h t=>.cons h (RpWs.of_L t)
/-- C(*e) -/
theorem zt1 {fe e:Expr} {C:Str} {sp pos:Pos} {k:Nat} {f:Addr} {F:DF} {ff fa:DE} (tk:yk X Wx) (M:Mk X.K (He.ga X.K C) f) (Fo:FnD X.prog X.w X.K X.mg X.base k f F) (hr:RoomG (k+1) X.A) (hf:PE X fe (tD X.K Wx ff)) (ha:PE X e (tD X.K Wx fa))
  (ht:eval (.Call fe [.Starred e sp] [] pos) X.env=(do callWith pos (←eval fe X.env) [] (backTo pos (starEach [.Starred e sp] X.env)) (backToKw pos (keywordEach [] X.env))):=by rfl)
  (hst:starEach [.Starred e sp] X.env=[(true,eval e X.env)]:=by rfl):PE X (.Call fe [.Starred e sp] [] pos) (tD X.K Wx (eMk C F ff (zuo fa))):=by
 refine⟨fun pins s σ H Q I h=>?_⟩
 refine Call_ (thn (hf.run pins s σ H _ I (mk_td h)) fun u s1 ⟨y,H1,I1,ry,ey,H1',al,dl,m,r,en,p⟩=>?_) ht
 subst ey
 obtain rfl:u=Value.ref (He.ga X.K C):=ry
 have h3:tD X.K Wx fa σ H1 fun v H2=>∃a xs,v = .ref a∧(SqT X.K H2 a xs∨SqL X.K H2 a xs)∧∃H1 al m ws,Rel X.K H1 H2 al m∧RpWs X.K H1 al xs ws∧Post X.K H1 al σ Wx (GV X.K Q) (makeW C F ws m):=by
  refine⟨H1',al,dl,m,r,en,?_⟩
  unfold zuo at p
  cases hfa:fa dl m with
  |no=>rw[hfa] at p;exact p.elim
  |exc C' f' p' m'=>rw[hfa] at p;exact p
  |ok x m1=>
   rw[hfa] at p
   intro Ha aa Hb e1 l1 r1 v hv
   have p1:Post X.K H1' al σ Wx (GA X.K fun vs H2=>∃H1 al m ws,Rel X.K H1 H2 al m∧RpWs X.K H1 al vs ws∧Post X.K H1 al σ Wx (GV X.K Q) (makeW C F ws m)) (starW x m1):=p
   have p2:=Post.mono e1 l1 p1
   unfold starW at p2
   split at p2
   ·rename_i d hd
    split at p2
    ·rename_i ds hds
     obtain⟨a,us,rfl,h1,h2⟩:=(hv.rh r1 hd).seq r1.ex hds
     exact⟨a,us,rfl,h1.symm,p2.ok_ r1 us (RpWs.of_L h2)⟩
    ·exact p2.elim
   ·exact p2.elim
 refine PySem.W.callWith_S (h₀:=X.base) I.ok.mod.kin M.kp (thn (ha.run pins s1 σ H1 _ I1 h3) fun v s2 ⟨y,H2,I2,ry,a,xs,ey,hxs,Ha,al,m,ws,rl,hws,p⟩=>?_) hst
 subst ey
 obtain rfl:v=Value.ref a:=ry
 exact StX.star_any I2 hxs fun us s3 I3 rv=>⟨I3.kIn,zg4 tk M Fo hr I3 rv rl hws p⟩
end
def starF (n:Nat) (F:DF):DF:=fun ws m=>match z5g (ws.drop n) with
 |some ds=>if n≤ws.length∧ds.length≤sizeLine then F (ws.take n++[.d (.tup ds)]) m else .no
 |none=>.no
section
variable {P:Program} {w:World} {K:Fg} {mg:Str→Option Value} {base:Heap}
theorem zb9 {x qual:Str} {params:Arguments} {body:List Stmt} {scope:Scope} {kws:List (Str × V)} {f:Addr} {fd:FuncData} {N ps:List Str} {pv:Str} {k:Nat} {g:DS} (F:FunD K x qual params body scope [] kws f fd) (S:FnScope N (ps++[pv]) scope)
  (hbd:∀(kV doc pm:Value) (an:Option Addr) (cdv ct:Value) (us rest:List Value),us.length=ps.length→bindArgs (y1d x qual params body scope .none kV doc pm an cdv ct) ⟨us++rest,[]⟩=(newTuple rest >>= fun t=>pure (ps.zip us++[(pv,t)])))
  (hb:∀(cdv:Value) (A:Around) (outer:List PySem.Env) (s:Shared) (H:Hp) (E:XK),RoomG k (A.deeper (envOfC qual scope s.heap.objs.size f cdv)) →
    PSs (cxOf (L2N.CX P w) P w K mg base N qual scope f cdv A outer s H E) body (tS K (fun c d _ H=>E c d H) g)):FnD P w K mg base (k+1) f (starF ps.length (runF N.length g)):=by
 obtain⟨oc,od,dV,kV,doc,pm,an,cdv,ct,osl,rfl,lk,hcd,hdv,_⟩:=F.ex
 obtain rfl:dV = .none:=by
  rcases hdv with ⟨_,h⟩ |⟨h,_⟩
  ·exact h
  ·exact (h rfl).elim
 intro A outer s H us vs Q E room env vals ⟨H1,al,m,ws,r,hws,p⟩
 unfold starF at p
 split at p
 ·rename_i ds hds
  split at p
  ·rename_i hc
   have hd:=zvp (hws.drop ps.length) hds
   have lv:(vs.take ps.length).length=ps.length:=by rw[y6c,hws.length];omega
   have lr:(vs.drop ps.length).length≤sizeLine:=by rw[hd.length];exact hc.2
   obtain⟨u1,u2,rfl,r1,r2⟩:=StX.vals_split (show Vals (vs.take ps.length++vs.drop ps.length) us by rw[List.take_append_drop];exact vals)
   have fresh:H s.heap.objs.size=none:=env.hok.fresh (yp _)
   have l1:u1.length=ps.length:=r1.length ▸ lv
   refine StX.run_bnd (k:=k) lk hcd S room.toRoom env (G:=fun xs Hz=>∃q,H q=none∧xs=vs.take ps.length++[V.ref q]∧Hz=upd H q (.tup (vs.drop ps.length))) ?_ ?_
   ·intro A' Ex' Q' h
    rw[hbd kV doc pm an cdv ct u1 u2 l1]
    refine wpAny_bind (wpAny_newTuple (wpAny_pure ?_) (by rw[←r2.length];exact lr))
    have obj:ObjOk P w (upd H s.heap.objs.size (.tup (vs.drop ps.length))) (s.heap.push ({cls:=.type "tuple",data:=.seq u2.toArray}:Obj)) s.heap.objs.size (.tup (vs.drop ps.length)):=⟨lr,u2,r2,_,Heap.get?_push_size _ rfl,rfl,_,rfl⟩
    have un:=StX.un_laid (fs:=frs outer) (s:=s) (o:=({cls:=.type "tuple",data:=.seq u2.toArray}:Obj)) (u:=.tup (vs.drop ps.length)) fresh
    have z:=h _ _ (vs.take ps.length++[V.ref s.heap.objs.size]) (u1++[Value.ref s.heap.objs.size]) (StX.env0_laid env obj) un rfl
     (fun e s'=>cxUpN outer s H _ _ E e s' un (fun b o q=>Heap.get?_push_of_some _ q) rfl) (r1.append (.cons rfl .nil)) (by simp only[yg,lv,yec]) ⟨_,fresh,rfl,rfl⟩
    rw[List.zip_append l1.symm] at z
    exact z
   ·rintro s2 H2 xs ⟨q,hq,rfl,rfl⟩ hr'
    obtain⟨q1,q2,q3⟩:=z7k r hd hq
    exact⟨_,hb cdv A outer s2 _ E ⟨hr',room.gd⟩,_,al,z1k N.length (ws.take ps.length++[.d (.tup ds)]),m,q2,RpE.start (((hws.take ps.length).mono q1 (z2b _)).append (.cons (w:=.d (.tup ds)) q3 .nil)),zo8 q2 (PostF.mono q1 (show PostF K H1 al Q E (fin m.length (g (z1k N.length (ws.take ps.length++[.d (.tup ds)])) m)) from p))⟩
  ·exact p.elim
 ·exact p.elim
end
section
variable {X:Cx} {Wx:WX}
theorem zp9 {o e:Expr} {es:List Expr} {apos cpos:Pos} {fo:DE} {f:DA} (ho:PE X o (tD X.K Wx fo)) (ha:PA X (e::es) (tA X.K Wx f))
  (hbase:attributeBase o "append" X.env (eval o X.env)=eval o X.env:=by rfl)
  (hfew:((backTo cpos (starEach (e::es) X.env)).all (fun x => !x.1)&&(backToKw cpos (keywordEach [] X.env)).all (fun x=>x.1.isSome)
    && decide ((e::es).length+([]:List Keyword).length+(if ([]:List Keyword).isEmpty then 0 else 1)<30))=true:=by rfl)
  (hline:(apos.endLine==cpos.line)=true:=by rfl) (hs:starEach (e::es) X.env=(false,eval e X.env)::starEach es X.env:=by rfl) (hplain:(backTo cpos (starEach es X.env)).any (·.1)=false:=by rfl) :
  PE X (.Call (.Attribute o "append" apos) (e::es) [] cpos) (tD X.K Wx (eApp fo f)):=by
 refine peImp (pe_bm ync PySem.F.slot_list_append PySem.F.type_list_append mt_append ho ha hbase hfew hline hs hplain) fun σ H Q ⟨H1,al,dl,m,rl,en,p⟩=>?_
 refine⟨H1,al,dl,m,rl,en,p.bind fun x m1 H1' al' H' e pr r' p' v hv=>?_⟩
 split at p'
 ·rename_i ht
  refine⟨z73 r' hv ht,H1',al',dl,m1,r',en.mono e pr,p'.bind fun ws m2 H2 al2 H2' e2 pr2 r2 p2 vs hvs=>?_⟩
  have hv2:=hv.mono e2 pr2
  unfold appW at p2
  split at p2
  ·rename_i k d
   split at p2
   ·rename_i ds hds
    split at p2
    ·rename_i hl
     obtain⟨a,ha,rfl⟩:=hv2
     obtain⟨us,h5,h6⟩:=r2.cells k a _ ha hds
     cases hvs with
     | @cons y ys _ _ hy hys=>
       cases hys
       exact⟨a,us,y,rfl,rfl,h5,by rw[h6.length];exact hl,p2 H2 al2 _ (Ex.refl _) (z2b _) (r2.put (c:=.lst (ds++[d])) ha hds rfl ⟨_,upd_same,h6.append (.cons hy .nil)⟩) _ .non⟩
    ·exact p2.elim
   ·exact p2.elim
  ·exact p2.elim
 ·exact p'.elim
theorem zmbb {K:Fg} {H:Hp} {f:Str} {v:V} {d:D} (h:Rp K H v d):∀{fs:List (Str × V)} {ds:List D},RpL K H (fs.map (·.2)) ds→(putF f v fs).map (·.1)=(putL f d (fs.map (·.1)) ds).1∧RpL K H ((putF f v fs).map (·.2)) (putL f d (fs.map (·.1)) ds).2
 |[],_,r=>by
  cases r
  exact⟨rfl,.cons h .nil⟩
 |(g,x)::fs,_,r=>by
  cases r with
  | @cons _ _ d1 ds1 r1 r2=>
    obtain⟨h1,h2⟩:=zmbb (f:=f) h r2
    by_cases hg:g=f
    ·have e1:putF f v ((g,x)::fs)=(g,v)::fs:=if_pos hg
     have e2:putL f d (g::fs.map (·.1)) (d1::ds1)=(g::fs.map (·.1),d::ds1):=if_pos hg
     rw[e1]
     show _=(putL f d (g::fs.map (·.1)) (d1::ds1)).1∧RpL K H _ (putL f d (g::fs.map (·.1)) (d1::ds1)).2
     rw[e2]
     exact⟨rfl,.cons h r2⟩
    ·have e1:putF f v ((g,x)::fs)=(g,x)::putF f v fs:=if_neg hg
     have e2:putL f d (g::fs.map (·.1)) (d1::ds1)=(g::(putL f d (fs.map (·.1)) ds1).1,d1::(putL f d (fs.map (·.1)) ds1).2):=if_neg hg
     rw[e1]
     show _=(putL f d (g::fs.map (·.1)) (d1::ds1)).1∧RpL K H _ (putL f d (g::fs.map (·.1)) (d1::ds1)).2
     rw[e2]
     exact⟨congrArg (g :: ·) h1,.cons r1 h2⟩
theorem zsr {o e:Expr} {f:Str} {pos1 pos:Pos} {Cs:List Str} {fo fe:DE} (hC:∀C∈Cs,Cls X.K (He.ga X.K C)∧NoAttr X.K (He.ga X.K C) f) (ho:PE X o (tD X.K Wx fo)) (he:PE X e (tD X.K Wx fe)) (hs:swapsWith e (some (.Attribute o f pos1)) pos.line X.env=pure false:=by rfl) :
  PS X (.Assign [.Attribute o f pos1] e pos) (tS X.K Wx (sFldS Cs f fe fo)):=psImp (ps_fld ho he hs) fun En σ H ⟨H1,al,dl,m,r,en,p⟩=>by
 refine⟨H1,al,dl,m,r,en,p.of en fun y m1 H1' al' H' e1 l1 r1 p1 v hv=>?_⟩
 have en1:=en.mono e1 l1
 refine⟨H1',al',dl,m1,r1,en1,p1.of en1 fun o m2 H2 al2 H2' e2 l2 r2 p2 ov hov=>?_⟩
 have en2:=en1.mono e2 l2
 have hv2:=hv.mono e2 l2
 cases hs:sFldW Cs f y o m2 with
 |none=>rw[hs] at p2;exact p2.elim
 |some m4=>
  rw[hs] at p2
  unfold sFldW at hs
  split at hs
  ·rename_i d k
   split at hs
   ·rename_i C ns ds hds
    split at hs
    ·rename_i hc
     cases hs
     obtain⟨a,ha,rfl⟩:=hov
     obtain⟨dx,fs,h5,h6,h7⟩:=r2.cells k a _ ha hds
     obtain⟨c1,c2⟩:=hC C hc.1
     subst h6
     refine⟨a,_,dx,fs,rfl,h5,c1,c2,by have:=hc.2;rwa [ye] at this,?_⟩
     obtain⟨z1,z2⟩:=zmbb (f:=f) hv2 h7
     exact p2.nx_ (r2.put (c:=.obj C _ _) ha hds rfl ⟨dx,_,upd_same,z1,z2⟩) en2
    ·cases hs
   ·cases hs
  ·cases hs
theorem zl3 {a b c:Expr} {op op':CmpOp} {pos:Pos} {g g':D→D→Option D} {fa fb fc:DE} (ho:OpOk X (compareOp op) g) (ho':OpOk X (compareOp op') g') (hg:∀x y z,g x y=some z→∃k,z = .bl k) (ha:PE X a (tD X.K Wx fa)) (hb:PE X b (tD X.K Wx fb)) (hc:PE X c (tD X.K Wx fc))
  (hm:lastMarks [op,op'] [b,c]=false:=by with_unfolding_all rfl):PE X (.Compare a [op,op'] [b,c] pos) (tD X.K Wx (zqp g g' fa fb fc)):=by
 obtain⟨r,hr,hs⟩:=ho
 obtain⟨r',hr',hs'⟩:=ho'
 refine peImp (pe_chain hr hr' ha hb hc hm) fun σ H Q ⟨H1,al,dl,m,rl,en,p⟩=>?_
 refine⟨H1,al,dl,m,rl,en,p.bind fun x m1 H1' al' H' e1 l1 r1 p1 v hv=>?_⟩
 have en1:=en.mono e1 l1
 refine⟨H1',al',dl,m1,r1,en1,p1.bind fun y m2 H2 al2 H2' e2 l2 r2 p2 w hw=>?_⟩
 have en2:=en1.mono e2 l2
 have hv2:=hv.mono e2 l2
 refine zpe (K:=X.K) (Wx:=Wx) (σ := σ) (r:=r) (g:=g) (x:=x) (y:=y) (m:=m2) r2 hv2 hw hs ?_
 unfold lift2 at p2 ⊢
 split at p2
 ·rename_i dx hdx
  split at p2
  ·rename_i dy hdy
   split at p2
   ·rename_i z hz
    obtain⟨k,rfl⟩:=hg dx dy z hz
    intro H3 al3 H3' e3 l3 r3 u hu
    cases (show Rp X.K H3 u (.bl k) from hu)
    refine⟨k,rfl,?_⟩
    have p3:Post X.K H2 al2 σ Wx (GV X.K Q) (if k=true then (fc dl m2).bind fun w m5=>lift2 g' y w m5 else .ok (.d (.bl false)) m2):=p2
    have p4:=Post.mono e3 l3 p3
    cases k with
    |false=>
     show (if false=true then _ else Q (.bl false) H3')
     refine iteF ?_
     exact p4 H3 al3 H3' (Ex.refl _) (z2b _) r3 _ (.bl false)
    |true=>
     show (if true=true then tD X.K Wx fc σ H3' (fun w' H4=>r' w w' H4 Q) else Q (.bl false) H3')
     refine iteT ⟨H3,al3,dl,m2,r3,en2.mono e3 l3,?_⟩
     have p5:Post X.K H3 al3 σ Wx (GV X.K Q) ((fc dl m2).bind fun w m5=>lift2 g' y w m5):=p4
     exact p5.bind fun w2 m5 H5 al5 H5' e5 l5 r5 p6 u2 hu2=>zpe r5 ((hw.mono e3 l3).mono e5 l5) hu2 hs' p6
   ·exact p2.elim
  ·exact p2.elim
 ·exact p2.elim
end
theorem zcab (x:Int) (xs:List Int):PySem.W.minOf x xs=minI (x::xs):=by
 unfold PySem.W.minOf minI
 show xs.foldl (fun a y=>if PySem.W.DatumOrd.lt y a=true then y else a) x=xs.foldl (fun x y=>if y<x then y else x) x
 have e:(fun (a y:Int)=>if PySem.W.DatumOrd.lt y a=true then y else a)=fun x y=>if y<x then y else x:=by
  funext a y
  show (if decide (y<a)=true then y else a)=_
  by_cases h:y<a
  ·rw[if_pos h,if_pos (decide_eq_true h)]
  ·rw[if_neg h,if_neg (by rw[decide_eq_false h];exact y4)]
 rw[e]
theorem zj1 {h:Heap}:∀{ns:List Int} {us:List Value},Vals (ns.map V.int) us→PySem.W.HoldAll h us ns
 |[],_,r=>by
  cases r
  exact⟨[],.nil⟩
 |n::ns,_,r=>by
  cases r with
  |cons r1 r2=>
   obtain⟨t,rfl⟩:=r1
   obtain⟨as,q⟩:=zj1 (h:=h) r2
   exact⟨[]++as,.cons (.int n t) q⟩
section
variable {X:Cx} {Wx:WX}
def zlbb (K:Fg):List V→List V→Hp→VK→Prop:=fun xs zs H Q=>∃(a:Addr) (ns:List Int) (d:V),xs=[.ref a]∧zs=[d]∧SqL K H a (ns.map V.int)∧(ns=[]→Q d H)∧(ns≠[]→Q (.int (minI ns)) H)
theorem zvdb (hc:X.calm=true) (hu:X.A.units+64<cLine):CallRK X (.builtin "min") ["default"] (zlbb X.K):=by
 intro pins s σ H xs zs us ws Q I rx rz h
 obtain⟨a,ns,d,rfl,rfl,hS,h0,h1⟩:=h
 obtain⟨u,rfl,ru⟩:∃u,us=[u]∧RelV (.ref a) u:=by
  cases rx with
  |cons r1 r2=>cases r2;exact⟨_,rfl,r1⟩
 obtain rfl:u=Value.ref a:=ru
 obtain⟨z,rfl,rd⟩:∃z,ws=[z]∧RelV d z:=by
  cases rz with
  |cons r1 r2=>cases r2;exact⟨_,rfl,r1⟩
 obtain⟨its,rv,pl,hz⟩:=I.list hS
 refine PySem.W.min_list_datum_default (α := Int) (I.ok.hd hc) pl.isList (by rw[List.toList_toArray];exact zj1 rv) (by show X.A.units+1+0<cLine;omega) (fun e h' tk k=>⟨d,H,I.kept (t':=tk) k,rd,h0 e⟩) fun y ys i v h' tk e hi hh k=>?_
 obtain⟨as,hr⟩:=hh
 have hr':Reads h' v (.int (PySem.W.minOf y ys)) as:=hr
 cases hr' with
 |int _ t=>exact⟨.int _,H,I.kept (t':=tk) k,⟨t,rfl⟩,by rw[zcab,←e];exact h1 (by rw[e];exact List.cons_ne_nil _ _)⟩
theorem zldb {a e:Expr} {p pos kp:Pos} {fa:DE} {v:V} {d:D} (hc:X.calm=true) (hu:X.A.units+64<cLine) (hg:Gl X "min") (hm:X.mg "min" = none) (ha:PE X a (tD X.K Wx fa)) (he:PE X e (tC v)) (hd:∀H1,Rp X.K H1 v d)
  (hs:starEach (a::[]) X.env=(false,eval a X.env)::starEach [] X.env:=by rfl) (hb:backTo pos (starEach (a::[]) X.env)=(false,eval a X.env)::backTo pos (starEach [] X.env):=by rfl) (hpl:(backTo pos (starEach (a::[]) X.env)).any (·.1)=false:=by rfl)
  (hall:(backToKw pos (keywordEach [⟨some "default",e,kp⟩] X.env)).all (·.1.isSome)=true:=by rfl) (hnone:(backToKw pos (keywordEach [⟨some "default",e,kp⟩] X.env)).any (·.1.isNone)=false:=by rfl) (hks:(backToKw pos (keywordEach [⟨some "default",e,kp⟩] X.env)).filterMap (·.1)=(["default"]:List Str):=by rfl) :
  PE X (.Call (.Name "min" p) [a] [⟨some "default",e,kp⟩] pos) (tD X.K Wx (zj7 fa d)):=by
 refine peImp (pe_callBK (zvdb hc hu) hg hm boot_min (pa_cons ha pa_nil hs) (pk_cons he pk_nil) (by decide) (by decide) hb hpl hall hnone hks) fun σ H Q h=>?_
 refine zcw (R:=fun y H Q=>zlbb X.K [y] [v] H Q) h fun H1 H al m x y r hv p=>?_
 unfold zw6 at p
 split at p
 ·rename_i z hz
  split at p
  ·rename_i ds hds
   split at p
   ·rename_i ns hns
    obtain⟨a,us,rfl,h1,h2⟩:=(hv.rh r hz).sql r.ex hds
    rw[zqu hns] at h2
    have e:=h2.of_ints
    subst e
    refine⟨a,ns,v,rfl,rfl,h1,fun e=>?_,fun e=>?_⟩
    ·rw[if_pos e] at p
     exact p.ok_ r v (hd H1)
    ·rw[if_neg e] at p
     exact p.ok_ r _ (.int _)
   ·exact p.elim
  ·exact p.elim
 ·exact p.elim
/-- a class of the module by its name -/
theorem zqj {x C:Str} {pos:Pos} (hg:Gl X x) (hm:X.mg x=some (.ref (He.ga X.K C))) (hd:(x==("__debug__" : Str))=false:=by decide):PE X (.Name x pos) (tD X.K Wx (eC (.cls C))):=de_c (pe_glob (v:=.ref (He.ga X.K C)) hg hm rfl hd) fun _=>.cls
/-- a module's whole number -/
theorem zup {x:Str} {i:Int} {pos:Pos} (hg:Gl X x) (hm:∃t,X.mg x=some (.int i t)) (hd:(x==("__debug__" : Str))=false:=by decide):PE X (.Name x pos) (tD X.K Wx (eC (.int i))):=by
 obtain⟨t,hm⟩:=hm
 exact de_c (pe_glob (v:=.int i) hg hm ⟨t,rfl⟩ hd) fun _=>.int i
theorem zedb {i j:Nat} {x y:Str} {a b:Expr} {f:DA} {px py pt:Pos} {kt k2 pt2} {pos:Pos} (hc:X.calm=true) (hN:X.N.Nodup) (hi:X.N[i]?=some x) (hj:X.N[j]?=some y) (hij:i≠j)
  (hx:X.env.scope.names.lookup x=some .local) (hy:X.env.scope.names.lookup y=some .local) (ha:PA X [a,b] (tA X.K Wx f))
  (hw:swappedStores [.Tuple [.Name x px,.Name y py] kt pt] (.Tuple [a,b] k2 pt2) X.env=pure (some [x,y]))
  (hs:swapsWithSole [.Tuple [.Name x px,.Name y py] kt pt] (.Tuple [a,b] k2 pt2) pos.line X.env=pure false:=by rfl) :
  PS X (.Assign [.Tuple [.Name x px,.Name y py] kt pt] (.Tuple [a,b] k2 pt2) pos) (tS X.K Wx (sPar i j f)):=psImp (ps_par (i:=i) (j:=j) hc hN hi hj hij hx hy ha hw hs) fun En σ H ⟨H1,al,dl,m,r,en,p⟩=>by
 refine⟨H1,al,dl,m,r,en,p.of en fun ws m1 H1' al' H' e1 l1 r1 p1 vs hvs=>?_⟩
 split at p1
 ·rename_i v w
  cases hvs with
  |cons h1 h2=>
   cases h2 with
   |cons h2 h3=>
    cases h3
    exact⟨_,_,rfl,p1.nx_ r1 (((en.mono e1 l1).set i h1).set j h2)⟩
 ·exact p1.elim
end
end DL
namespace DL
open PySem PySem.Spec L2
open PyProof.Rows hiding St
open Evl (Ex)
section
variable {X:Cx} {Wx:WX}
def iAny (K:Fg) (tl:TE):TI:=fun σ H R=>tl σ H fun x H1=>∃a,x = .ref a∧(((∃xs,SqL K H1 a xs)∧R (Itl K a) H1)∨((∃xs,SqT K H1 a xs)∧R (Itt K a) H1))
theorem zvkb {tg l:Expr} {tl:TE} (hl:PE X l tl):PI X tg l (iAny X.K tl):=by
 refine⟨fun pins s σ H R I h=>?_⟩
 refine thn (hl.run pins s σ H _ I h) fun v s1 ⟨x,H1,I1,r1,q1⟩=>?_
 obtain⟨a,e,q⟩:=q1
 subst e
 cases r1
 rcases q with ⟨⟨xs,hq⟩,q⟩ |⟨⟨xs,hq⟩,q⟩
 ·obtain⟨its,rv,p,hz⟩:=I1.list hq
  refine wpAny_pyIter_list p.isList ?_
  refine⟨s1.heap.objs.size,[s1.heap.objs.size],_,_,H1,rfl,I1.kept (t':=s1.toks) fun b o e=>Heap.get?_push_of_some _ e,turn_list a _,⟨_,Heap.get?_push_size _ rfl,rfl,rfl⟩,fun b hb=>?_,q⟩
  have e:b=s1.heap.objs.size:=by simpa using hb
  subst e
  exact I1.fpOk (yp _) (I1.hok.fresh (yp _))
 ·obtain⟨its,rv,p,hz⟩:=I1.tuple hq
  refine wpAny_pyIter_tuple (show s1.heap.IsTuple a its.toArray from p) ?_
  refine⟨s1.heap.objs.size,[s1.heap.objs.size],_,_,H1,rfl,I1.kept (t':=s1.toks) fun b o e=>Heap.get?_push_of_some _ e,turn_tuple a _,⟨_,Heap.get?_push_size _ rfl,rfl,rfl⟩,fun b hb=>?_,q⟩
  have e:b=s1.heap.objs.size:=by simpa using hb
  subst e
  exact I1.fpOk (yp _) (I1.hok.fresh (yp _))
theorem z6f {tg l:Expr} {f:DE} (h:PE X l (tD X.K Wx f)):PI X tg l (tI X.K Wx (iSeq f)):=piImp (zvkb h) fun σ H R ⟨H1,al,dl,m,r,en,p⟩=>by
 refine⟨H1,al,dl,m,r,en,p.bind fun w m1 H1' al' H' e pr r' p' v hv=>?_⟩
 unfold zrq at p'
 split at p'
 ·rename_i x
  split at p'
  ·rename_i ds hds
   have hv':Rp X.K H1' v x:=hv
   cases x <;> first |(cases hds;done) |skip
   ·cases hds
    cases hv' with
    |lst h1 h2=>exact⟨_,rfl,.inl ⟨⟨_,SqL.of (r'.ex _ _ h1)⟩,p'.ok_ r' _ (z3x (SqL.of h1) h2)⟩⟩
   ·cases hds
    cases hv' with
    |tup h1 h2=>exact⟨_,rfl,.inr ⟨⟨_,ybd r'.ex h1⟩,p'.ok_ r' _ (zz9 h1 h2)⟩⟩
   ·cases hds
    cases hv' with
    |fz h1 h2=>exact⟨_,rfl,.inl ⟨⟨_,yud r'.ex h1⟩,p'.ok_ r' _ (z3x h1 h2)⟩⟩
  ·exact p'.elim
 ·exact p'.elim
theorem zhdb {e:Expr} {f:DA} {p pos tpos:Pos} {elts:List Expr} {kk:Nat} (hg:Gl X "enumerate") (hm:X.mg "enumerate" = none) (ha:PA X [e] (tA X.K Wx f)) (hs:starEach [e] X.env=[(false,eval e X.env)]:=by rfl) :
  PI X (.Tuple elts kk tpos) (.Call (.Name "enumerate" p) [e] [] pos) (tI X.K Wx (iEnu f)):=piImp (pi_enum hg hm ha hs) fun σ H R ⟨H1,al,dl,m,r,en,p⟩=>by
 refine⟨H1,al,dl,m,r,en,p.bind fun ws m1 H1' al' H' e pr r' p' vs hv=>?_⟩
 unfold enumW at p'
 split at p'
 ·rename_i x
  split at p'
  ·rename_i ds hds
   cases hv with
   |cons hv hn=>
    cases hn
    have hv':Rp X.K H1' _ x:=hv
    cases x <;> first |(cases hds;done) |skip
    ·cases hds
     cases hv' with
     |lst h1 h2=>exact⟨_,_,rfl,SqL.of (r'.ex _ _ h1),p'.ok_ r' _ (z4x (SqL.of h1) h2)⟩
    ·cases hds
     cases hv' with
     |fz h1 h2=>exact⟨_,_,rfl,yud r'.ex h1,p'.ok_ r' _ (z4x h1 h2)⟩
  ·exact p'.elim
 ·exact p'.elim
theorem zrkb {e:List Expr} {t t':TT} (h:PTs X e t) (k:∀ σ H Q,t' σ H Q→t σ H Q):PTs X e t':=⟨fun pins s σ H Q I hw=>h.run pins s σ H Q I (k σ H Q hw)⟩
theorem zei:PTs X [] (tT X.K Wx bYes):=zrkb pts_nil fun σ H Q ⟨H1,al,dl,m,r,en,p⟩=>p.ok_ r
theorem zrp {c:Expr} {t:DT} (h:PT X c (tT X.K Wx t)):PTs X [c] (tT X.K Wx t):=pts_one h
end
open PySem.W (Frag Hook)
section
variable {fs:List (Frag→Bool)} {fn:List He5.DefA} {K:Frag}
theorem SaysM.fact (c:SaysM fs fn K) (i:Nat) {f:Frag→Bool} (h:fs[i]?=some f:=by rfl):f K=true:=by
 have c1:=(He.ba (show ((fs.all fun f=>f K)&&fn.all fun d=>d.ok K)=true from congrArg (fun z:He.AlD=>z.1) c)).1
 exact yxb.mp c1 f (ywb h)
theorem SaysM.def_ (c:SaysM fs fn K) (i:Nat) {d:He5.DefA} (h:fn[i]?=some d:=by rfl):∃fd,L2.FunD K d.name d.qual d.params d.body d.scope (d.dvs K) (d.kws K) (d.at_ K) fd:=by
 have c2:=(He.ba (show ((fs.all fun f=>f K)&&fn.all fun d=>d.ok K)=true from congrArg (fun z:He.AlD=>z.1) c)).2
 have e:fn.map (fun d=>He5.fnA K (d.at_ K))=fn.map He5.DefA.val:=congrArg (fun z:He.AlD=>z.2) c
 have e2:(fn.map fun d=>He5.fnA K (d.at_ K))[i]?=(fn.map He5.DefA.val)[i]?:=by rw[e]
 rw[yjb,yjb,h] at e2
 exact He5.DefA.funD (ynb e2) (yxb.mp c2 d (ywb h))
end
section
variable {K:Frag} {h:Heap} {mg:Str→Option Value}
theorem zzb (X:K.In h) (G:h.Ns mainGlobals mg) {x:Str} (c:fGlo x K=true):mg x=some (.ref (He.ga K x)):=He.glo_ok X G c
theorem free_of (X:K.In h) (G:h.Ns mainGlobals mg) {x:Str} (c:fFree x K=true):mg x=none:=He.free_ok X G c
theorem zi1 (X:K.In h) (G:h.Ns mainGlobals mg) {x:Str} {i:Int} (c:fInt x i K=true):∃t,mg x=some (.int i t):=He.int_ok X G c
theorem zto {x:Str} (c:fCls x K=true):Cls K (He.ga K x):=He.cls_ok c
theorem zim {x f:Str} (c:fNoat x f K=true):NoAttr K (He.ga K x) f:=He.noat_ok c
theorem zugb {x:Str} (c:fMkr x K=true):Mk K (He.ga K x) (He.ma K (He.ga K x) "__init__"):=He.mkr_ok c
theorem z8d {C m:Str} (c:fOwn C m K=true):yh K (.ref (He.ga K C)) m=some (some (.ref (He.ma K (He.ga K C) m)))∧yhb K (.ref (He.ma K (He.ga K C) m))=true∧PySem.W.fnIn K (He.ma K (He.ga K C) m)=true∧ym K (.ref (He.ma K (He.ga K C) m))=true:=by
 obtain⟨c1,c⟩:=He.ba c
 obtain⟨c2,c⟩:=He.ba c
 obtain⟨c3,c4⟩:=He.ba c
 exact⟨yxc c1,c2,c3,c4⟩
theorem zp6 {C m:Str} (c:fProp C m K=true):PropOf K (He.ga K C) m (He.ma K (He.ga K C) m) (He5.wf K (He.ga K C) "property" m):=by
 obtain⟨c1,c⟩:=He.ba c
 obtain⟨c2,c⟩:=He.ba c
 obtain⟨c3,c4⟩:=He.ba c
 refine⟨yxc c1,yxc c2,of_decide_eq_true c3,?_⟩
 unfold He5.wf
 split at c4
 ·rename_i f r e
  exact⟨r,by rw[e]⟩
 ·cases c4
theorem z1hb {C:Str} (c:fRead C K=true):ClX.CRead K (He.ga K C) (.type "type"):=by
 have c':PySem.W.readsIn K (He.ga K C) (.type "type")=true:=c
 refine⟨c',?_⟩
 unfold PySem.W.readsIn at c'
 obtain⟨h,_⟩:=He.ba c'
 obtain⟨h,_⟩:=He.ba h
 obtain⟨h,h3⟩:=He.ba h
 obtain⟨_,h2⟩:=He.ba h
 unfold y0c
 rw[beq_iff_eq.mp h2,Option.bind_some]
 exact beq_iff_eq.mp h3
theorem cm_of {C m:Str} (c:fCm C m K=true):ClX.CMet K (He.ga K C) (.type "type") m (He.ma K (He.ga K C) m) (He5.wf K (He.ga K C) "classmethod" m):=by
 obtain⟨c1,c2⟩:=He.ba c
 obtain⟨h1,h2⟩:=He5.wrapB_ok c1
 exact⟨h1,h2,c2⟩
theorem z56 {C:Str} (c:fIsiC C K=true):IsiC K (He.ga K C):=by
 obtain⟨c1,c⟩:=He.ba c
 obtain⟨c2,c⟩:=He.ba c
 obtain⟨c3,c⟩:=He.ba c
 obtain⟨c4,c5⟩:=He.ba c
 exact⟨He.cls_ok c1,yxc c2,yxc c3,of_decide_eq_true c4,of_decide_eq_true c5⟩
theorem kit_of {t:CRef} {cs:List CRef} {b:Bool} (c:fKit t cs b K=true):yrc K (t.v K) (cs.map (CRef.v K))=some b:=of_decide_eq_true c
end
/-- isinstance by a table -/
def isfT (t:List (Tag × Bool)) (x:Tag):Option Bool:=match t,x with
 |[],_=>none
 |(.bt n,b)::r,.bt k=>if n=k then some b else isfT r (.bt k)
 |(.own n,b)::r,.own k=>if n=k then some b else isfT r (.own k)
 |_::r,x=>isfT r x
theorem zzq:∀{t:List (Tag × Bool)} {x:Tag} {b:Bool},isfT t x=some b→(x,b)∈t
 |[],_,_,h=>by unfold isfT at h;cases h
 |(.bt n,b)::r,.bt k,b',h=>by
  unfold isfT at h
  by_cases e:n=k
  ·rw[if_pos e] at h
   cases h
   rw[e]
   exact yb
  ·rw[if_neg e] at h
   exact yd _ (zzq h)
 |(.own n,b)::r,.own k,b',h=>by
  unfold isfT at h
  by_cases e:n=k
  ·rw[if_pos e] at h
   cases h
   rw[e]
   exact yb
  ·rw[if_neg e] at h
   exact yd _ (zzq h)
 |(.own n,b)::r,.bt k,b',h=>by
  unfold isfT at h
  exact yd _ (zzq h)
 |(.bt n,b)::r,.own k,b',h=>by
  unfold isfT at h
  exact yd _ (zzq h)
theorem tab_of {K:Frag} {t:List (Tag × Bool)} {cs:List CRef} (c:fTab t cs K=true):IsiT K (isfT t) (cs.map (CRef.v K)):=by
 have all:∀q∈t,fKit (tagC q.1) cs q.2 K=true∧(match q.1 with
  |.own C=>fIsiC C K
  |.bt _=>true)=true:=fun q hq=>He.ba (yxb.mp c q hq)
 refine⟨fun C b h=>?_,fun x b h=>?_⟩
 ·exact z56 (all _ (zzq h)).2
 ·have z:=kit_of (all _ (zzq h)).1
  have e:(tagC x).v K=x.v K:=by cases x <;> rfl
  rw[e] at z
  exact z
end DL
namespace DL
open PySem PySem.Spec L2
section
variable (a b c:DE) (s t:DS) (u v:DT) (g:DA) (dl:Env) (m:Mem)
@[simp] theorem zwnb:sNext dl m = .nx dl m:=nr rfl
end
theorem zvv:∀xs:List D,z5g (xs.map W.d)=some xs
 |[]=>rfl
 |x::xs=>by rw[yr,zt7,zvv xs];rfl
theorem z6jb {α : Type} (z:List α) {i:Int} (h:0≤i):atI z i=z[i.toNat]?:=by
 have:=atI_nat z i.toNat
 rwa [Int.toNat_of_nonneg h] at this
theorem zljb {i:Nat} {C:Str} {F:DF} {f:DA} {m:Mem} {dl:Env} (h:dl[i]?=some (some (.d (.cls C)))):eMk C F (eVar i) f dl m=(f dl m).bind fun ws m2=>makeW C F ws m2:=by
 unfold eMk eVar
 rw[h]
 show (if C=C then (f dl m).bind fun ws m2=>makeW C F ws m2 else .no)=_
 rw[if_pos rfl]
theorem zn6 {j:Int} {m:Mem} (h0:0≤j) (h1:j<2 ^ 62):rngB (.ok [.d (.int j)] m) = .ok (rngD 0 j.toNat) m:=by
 show (if -(2 ^ 62)≤j∧j<2 ^ 62 then Res.ok (rngD 0 j.toNat) m else .no)=_
 rw[if_pos ⟨by omega,h1⟩]
theorem mod_int {i j:Int} (h:0<j):modD (.int i) (.int j)=some (.int (i % j)):=zdc h
theorem zg9 {i j:Int} (h:0<j) (h2:j<1073741824):fdivD (.int i) (.int j)=some (.int (i / j)):=zdc ⟨h,h2⟩
theorem zu8 {i j:Int} (h0 : -(2 ^ 64)<i) (h1:i<2 ^ 64):mulD (.int i) (.int j)=some (.int (i*j)):=zdc (.inl ⟨h0,h1⟩)
theorem zg2 {i j:Int} (h0 : -(2 ^ 64)<j) (h1:j<2 ^ 64):mulD (.int i) (.int j)=some (.int (i*j)):=zdc (.inr ⟨h0,h1⟩)
theorem add_str {a b:List Nat} (h:a.length+b.length≤sizeLine):addD (.str (SX.S a)) (.str (SX.S b))=some (.str (SX.S (a++b))):=by
 show chk _ _=_
 rw[zdc (by rw[SX.S_len,SX.S_len];exact h),SX.S_cat]
theorem len_str {a:List Nat} (h:a.length≤sizeLine):lenD [.str (SX.S a)]=some (.int a.length):=by
 show chk _ _=_
 rw[zdc (by rw[SX.S_len];exact h),SX.S_len]
/-- a loop that walks to its end: I holds of what is left, the env, the memory -/
theorem zj2 {g:DG} {b:DS} (I:List D→Env→Mem→Prop) (step:∀d ds dl m,I (d::ds) dl m→∃dl1,g (.d d) dl=some dl1∧∃dl2 m2,b dl1 m = .nx dl2 m2∧I ds dl2 m2) :
  ∀ds dl m,I ds dl m→∃dl2 m2,loopD g b ds dl m = .nx dl2 m2∧I [] dl2 m2
 |[],dl,m,h=>⟨dl,m,rfl,h⟩
 |d::ds,dl,m,h=>by
  obtain⟨dl1,e1,dl2,m2,e2,h2⟩:=step d ds dl m h
  obtain⟨dl3,m3,e3,h3⟩:=zj2 I step ds dl2 m2 h2
  refine⟨dl3,m3,?_,h3⟩
  unfold loopD
  rw[e1]
  show (match b dl1 m with
   |.nx dl2 m2=>loopD g b ds dl2 m2
   |.ct dl2 m2=>loopD g b ds dl2 m2
   |.bk dl2 m2=>.nx dl2 m2
   |.rt w m2=>.rt w m2
   |.exc dl2 C f p m2=>.exc dl2 C f p m2
   |.no=>.no)=_
  rw[e2]
  exact e3
theorem z3eb {x:D} (h:okD x=true):neP x x=some (.bl false):=by
 unfold okD at h
 split at h
 ·rename_i p hp
  unfold neP
  rw[hp]
  simp only[]
  rw[zdc ⟨h,h⟩,SeqAt.eqv_refl p (SeqAt.canLay_of_shaped h)]
  rfl
 ·cases h
theorem z4eb {x:D} (h:okD x=true):neD x x=some (.bl false):=by
 unfold neD
 split
 ·simp_all
 ·exact z3eb h
theorem znp (i j:Int):eqD (.int i) (.int j)=some (.bl (decide (i=j))):=by
 show eqP (.int i) (.int j)=_
 show chk (SeqAt.shaped (.int i)=true∧SeqAt.shaped (.int j)=true) (D.bl (PyData.eqv (.int i) (.int j)))=_
 rw[zdc ⟨rfl,rfl⟩]
 rfl
theorem z4bb (i j:Int):neD (.int i) (.int j)=some (.bl (!decide (i=j))):=by
 show neP (.int i) (.int j)=_
 show chk (SeqAt.shaped (.int i)=true∧SeqAt.shaped (.int j)=true) (D.bl (!PyData.eqv (.int i) (.int j)))=_
 rw[zdc ⟨rfl,rfl⟩]
 rfl
theorem z83:∀xs:List Str,toPs (xs.map D.str)=some (xs.map PyData.str)
 |[]=>rfl
 |x::xs=>by simp only[yr,toPs,toP,z83 xs]
theorem z18:∀{xs:List Str},(∀x∈xs,PyData.strOk x=true)→PyData.canLayAll0 (xs.map PyData.str)=true
 |[],_=>rfl
 |x::xs,h=>by
  rw[yr,PyData.canLayAll0,PyData.canLay0,h x yb,z18 fun y hy=>h y (yd _ hy)]
  rfl
theorem zm9:∀(xs:List Str),PyData.depthAll (xs.map PyData.str)=0
 |[]=>rfl
 |x::xs=>by
  rw[yr,PyData.depthAll,PyData.depth,zm9 xs]
  rfl
theorem zyu {ps:List PyData} (h:PyData.canLayAll0 ps=true) (hd:PyData.depthAll ps≤63):SeqAt.shaped (.list ps)=true:=by
 unfold SeqAt.shaped
 rw[yab]
 exact⟨h,decide_eq_true (by show PyData.depthAll ps+1≤64;omega)⟩
/-- against the empty list -/
theorem z5eb {xs:List Str} (h:∀x∈xs,PyData.strOk x=true):neD (.lst (xs.map D.str)) (.lst [])=some (.bl (!decide (xs=[]))):=by
 have hs:=zyu (z18 h) (by rw[zm9];omega)
 show neP (.lst (xs.map D.str)) (.lst [])=_
 unfold neP
 simp only[toP,z83,toPs]
 rw[zdc ⟨hs,rfl⟩]
 cases xs <;> rfl
end DL
namespace DL
open PySem PySem.Spec L2
open PyProof.Rows hiding St
open Evl (Ex)
def zch (t:DT) (b:DS):Nat→Env→Mem→SR
 | 0,_,_=>.no
 |n+1,dl,m=>(t dl m).thenS dl fun c m1=>if c=true then (match b dl m1 with
   |.nx dl2 m2=>zch t b n dl2 m2
   |.ct dl2 m2=>zch t b n dl2 m2
   |.bk dl2 m2=>.nx dl2 m2
   |.rt w m2=>.rt w m2
   |.exc dl2 C f p m2=>.exc dl2 C f p m2
   |.no=>.no) else .nx dl m1
def zcbb (n:Nat) (t:DT) (b:DS):DS:=zch t b n
theorem zsfb {X:Cx} {Wx:WX} {pos:Pos} {c:Expr} {body:List Stmt} {t:DT} {b:DS} (n:Nat) (hp:PassesOwn (model X.prog X.w) X.A X.env X.xe) (hc:PT X c (tT X.K Wx t)) (hb:PSs X body (tS X.K Wx b)):PS X (.While c body [] pos) (tS X.K Wx (zcbb n t b)):=
 psImp (ps_while hp hc hb) fun En σ H ⟨H1,al,dl,m,r,en,p⟩=>by
  refine⟨fun n σ H=>∃H1 al dl m,Rel X.K H1 H al m∧RpE X.K H1 al σ dl∧PostS X.K H1 al Wx En (zch t b n dl m),⟨n,H1,al,dl,m,r,en,p⟩,?_⟩
  rintro n σ H ⟨H1,al,dl,m,r,en,p⟩
  cases n with
  |zero=>exact p.elim
  |succ n=>
   unfold zch at p
   refine⟨H1,al,dl,m,r,en,p.of en fun c m1 H1' al' H' e pr r' p'=>?_⟩
   show (if c=true then _ else _)
   cases c with
   |false=>
    refine iteF ?_
    exact PostS.nx_ r' (en.mono e pr) p'
   |true=>
    refine iteT ?_
    refine⟨fun σ H=>∃H1 al dl m,Rel X.K H1 H al m∧RpE X.K H1 al σ dl∧PostS X.K H1 al Wx En (zch t b n dl m),fun σ' H' h=>⟨n,ysd n,h⟩,H1',al',dl,m1,r',en.mono e pr,?_⟩
    have pa:PostS X.K H1' al' Wx En (match b dl m1 with
     |.nx dl2 m2=>zch t b n dl2 m2
     |.ct dl2 m2=>zch t b n dl2 m2
     |.bk dl2 m2=>.nx dl2 m2
     |.rt w m2=>.rt w m2
     |.exc dl2 C f p m2=>.exc dl2 C f p m2
     |.no=>.no):=p'
    cases h2:b dl m1 with
    |nx dl2 m2=>rw[h2] at pa;exact fun H2 a2 Hz σ2 e2 l2 r2 en2=>⟨H2,a2,dl2,m2,r2,en2,PostS.mono e2 l2 pa⟩
    |ct dl2 m2=>rw[h2] at pa;exact fun H2 a2 Hz σ2 e2 l2 r2 en2=>⟨H2,a2,dl2,m2,r2,en2,PostS.mono e2 l2 pa⟩
    |bk dl2 m2=>rw[h2] at pa;exact fun H2 a2 Hz σ2 e2 l2 r2 en2=>pa H2 a2 Hz σ2 e2 l2 r2 en2
    |rt w m2=>rw[h2] at pa;exact pa
    |exc _ _ _ _ _=>rw[h2] at pa;exact pa
    |no=>rw[h2] at pa;exact pa.elim
section
variable {X:Cx} {Wx:WX}
theorem tT_tD {K:Fg} {f:DE} {σ : L2.St} {H:Hp} {Q:Bool→Hp→Prop} (hf:∀dl m w m',f dl m = .ok w m'→∃k,w = .d (.bl k)) (h:tT K Wx (bT f) σ H Q):tD K Wx f σ H (fun v H'=>∃k,v = .bl k∧Q k H'):=by
 obtain⟨H1,al,dl,m,r,en,p⟩:=h
 refine⟨H1,al,dl,m,r,en,?_⟩
 unfold bT at p
 cases hq:f dl m with
 |no=>rw[hq] at p;exact p
 |exc _ _ _ _=>rw[hq] at p;exact p
 |ok w m'=>
  obtain⟨k,rfl⟩:=hf dl m w m' hq
  rw[hq] at p
  intro H1' al' H' e l r' v hv
  cases (show Rp K H1' v (.bl k) from hv)
  exact⟨k,rfl,p H1' al' H' e l r'⟩
theorem zbdb {g g':D→D→Option D} {fa fb fc:DE} (hg':∀x y z,g' x y=some z→∃k,z = .bl k):∀dl m w m',zqp g g' fa fb fc dl m = .ok w m'→∃k,w = .d (.bl k):=by
 intro dl m w m' h
 unfold zqp at h
 cases h1:fa dl m with
 |no=>rw[h1] at h;cases h
 |exc _ _ _ _=>rw[h1] at h;cases h
 |ok x m1=>
  rw[h1] at h
  replace h:((fb dl m1).bind fun y m2=>(lift2 g x y m2).bind fun z m3=>(tru z m3).bind fun k m4=>if k=true then (fc dl m4).bind fun w m5=>lift2 g' y w m5 else .ok (.d (.bl false)) m4) = .ok w m':=h
  cases h2:fb dl m1 with
  |no=>rw[h2] at h;cases h
  |exc _ _ _ _=>rw[h2] at h;cases h
  |ok y m2=>
   rw[h2] at h
   replace h:((lift2 g x y m2).bind fun z m3=>(tru z m3).bind fun k m4=>if k=true then (fc dl m4).bind fun w m5=>lift2 g' y w m5 else .ok (.d (.bl false)) m4) = .ok w m':=h
   cases h3:lift2 g x y m2 with
   |no=>rw[h3] at h;cases h
   |exc _ _ _ _=>rw[h3] at h;cases h
   |ok z m3=>
    rw[h3] at h
    replace h:((tru z m3).bind fun k m4=>if k=true then (fc dl m4).bind fun w m5=>lift2 g' y w m5 else .ok (.d (.bl false)) m4) = .ok w m':=h
    cases h4:tru z m3 with
    |no=>rw[h4] at h;cases h
    |exc _ _ _ _=>rw[h4] at h;cases h
    |ok k m4=>
     rw[h4] at h
     replace h:(if k=true then (fc dl m4).bind fun w m5=>lift2 g' y w m5 else .ok (.d (.bl false)) m4) = .ok w m':=h
     cases k with
     |false=>cases h;exact⟨_,rfl⟩
     |true=>
      replace h:((fc dl m4).bind fun w m5=>lift2 g' y w m5) = .ok w m':=h
      cases h5:fc dl m4 with
      |no=>rw[h5] at h;cases h
      |exc _ _ _ _=>rw[h5] at h;cases h
      |ok u m5=>
       rw[h5] at h
       replace h:lift2 g' y u m5 = .ok w m':=h
       unfold lift2 at h
       split at h
       ·split at h
        ·split at h
         ·rename_i z' hz
          obtain⟨k,rfl⟩:=hg' _ _ _ hz
          cases h
          exact⟨k,rfl⟩
         ·cases h
        ·cases h
       ·cases h
theorem z5fb {r r':R2} {g g':D→D→Option D} {fa fb fc:DE} (hs:∀H1 H al m v w x y z Q,Rel X.K H1 H al m→Rh X.K H1 H v x→Rh X.K H1 H w y→g x y=some z→(∀H1' H' u,Ex H1 H1'→Rel X.K H1' H' al m→Rp X.K H1' u z→Q u H')→r v w H Q)
  (hs':∀H1 H al m v w x y z Q,Rel X.K H1 H al m→Rh X.K H1 H v x→Rh X.K H1 H w y→g' x y=some z→(∀H1' H' u,Ex H1 H1'→Rel X.K H1' H' al m→Rp X.K H1' u z→Q u H')→r' v w H Q)
  (hg:∀x y z,g x y=some z→∃k,z = .bl k) {σ : L2.St} {H:Hp} {Q:VK} (h:tD X.K Wx (zqp g g' fa fb fc) σ H Q):tChain r r' (tD X.K Wx fa) (tD X.K Wx fb) (tD X.K Wx fc) σ H Q:=by
 obtain⟨H1,al,dl,m,rl,en,p⟩:=h
 refine⟨H1,al,dl,m,rl,en,p.bind fun x m1 H1' al' H' e1 l1 r1 p1 v hv=>?_⟩
 have en1:=en.mono e1 l1
 refine⟨H1',al',dl,m1,r1,en1,p1.bind fun y m2 H2 al2 H2' e2 l2 r2 p2 w hw=>?_⟩
 have en2:=en1.mono e2 l2
 have hv2:=hv.mono e2 l2
 refine zpe (K:=X.K) (Wx:=Wx) (σ := σ) (r:=r) (g:=g) (x:=x) (y:=y) (m:=m2) r2 hv2 hw hs ?_
 unfold lift2 at p2 ⊢
 split at p2
 ·rename_i dx hdx
  split at p2
  ·rename_i dy hdy
   split at p2
   ·rename_i z hz
    obtain⟨k,rfl⟩:=hg dx dy z hz
    intro H3 al3 H3' e3 l3 r3 u hu
    cases (show Rp X.K H3 u (.bl k) from hu)
    refine⟨k,rfl,?_⟩
    have p3:Post X.K H2 al2 σ Wx (GV X.K Q) (if k=true then (fc dl m2).bind fun w m5=>lift2 g' y w m5 else .ok (.d (.bl false)) m2):=p2
    have p4:=Post.mono e3 l3 p3
    cases k with
    |false=>
     show (if false=true then _ else Q (.bl false) H3')
     refine iteF ?_
     exact p4 H3 al3 H3' (Ex.refl _) (z2b _) r3 _ (.bl false)
    |true=>
     show (if true=true then tD X.K Wx fc σ H3' (fun w' H4=>r' w w' H4 Q) else Q (.bl false) H3')
     refine iteT ⟨H3,al3,dl,m2,r3,en2.mono e3 l3,?_⟩
     have p5:Post X.K H3 al3 σ Wx (GV X.K Q) ((fc dl m2).bind fun w m5=>lift2 g' y w m5):=p4
     exact p5.bind fun w2 m5 H5 al5 H5' e5 l5 r5 p6 u2 hu2=>zpe r5 ((hw.mono e3 l3).mono e5 l5) hu2 hs' p6
   ·exact p2.elim
  ·exact p2.elim
 ·exact p2.elim
theorem zl9 {a b c:Expr} {op op':CmpOp} {pos:Pos} {g g':D→D→Option D} {fa fb fc:DE} (ho:OpOk X (compareOp op) g) (ho':OpOk X (compareOp op') g') (hg:∀x y z,g x y=some z→∃k,z = .bl k) (hg':∀x y z,g' x y=some z→∃k,z = .bl k) (ha:PE X a (tD X.K Wx fa)) (hb:PE X b (tD X.K Wx fb)) (hc:PE X c (tD X.K Wx fc))
  (hm:lastMarks [op,op'] [b,c]=false:=by with_unfolding_all rfl):PT X (.Compare a [op,op'] [b,c] pos) (tT X.K Wx (bT (zqp g g' fa fb fc))):=by
 obtain⟨r,hr,hs⟩:=ho
 obtain⟨r',hr',hs'⟩:=ho'
 exact ptImp (pt_chain hr hr' ha hb hc hm) fun σ H Q h=>z5fb hs hs' hg (tT_tD (zbdb hg') h)
end
theorem z41 {n:Nat} {p:PyData} (h:shOk n p=true):p.showable=true∧p.hasDict=false∧p.depth≤60∧p.shown.length+n≤sizeLine:=by
 unfold shOk at h
 rw[yab,yab,yab] at h
 exact⟨h.1,by simpa using h.2.1,of_decide_eq_true h.2.2.1,of_decide_eq_true h.2.2.2⟩
section
variable {X:Cx} {Wx:WX}
theorem Inv.repr {pins:List (Addr × Obj)} {σ : L2.St} {H:Hp} {s:Shared} {v:V} {u:Value} {p:PyData} {Q:Value→Shared→Prop} {E:Value→Shared→Prop} {A:Around} (I:Inv X pins σ H s) (h:Dp X.K H v p) (r:RelV v u) (ok:shOk 0 p=true) (hg:A.guards=some []) (hu:A.units+62<cLine)
  (q:∀s' t,Inv X pins σ H s'→Q (.str p.shown t) s'):wpAny (model X.prog X.w) A (pyReprObj u) Q E s:=by
 obtain⟨o1,o2,o3,o4⟩:=z41 ok
 obtain⟨as,rd⟩:=Dp.reads I p v u h r
 cases rd with
 |none=>exact pyReprObj_none (q _ _ (I.tok _))
 |bool b=>exact pyReprObj_bool (q _ _ (I.tok _))
 |int i t=>exact pyReprObj_int (by simpa [PyData.showable] using o1) (q _ _ (I.tok _))
 |str x t=>exact pyReprObj_str (q _ _ (I.tok _)) (by simpa [PyData.shown] using o4)
 |list a b c d=>
  exact pyReprObj_of_reads (.list a b c d) o1 (fun z=>by rw[o2] at z;cases z) hg (by omega) (fun _ _ e=>e) (fun h' t tk k=>q _ _ (I.kept k)) (by omega)
 |tuple a b c d=>
  exact pyReprObj_of_reads (.tuple a b c d) o1 (fun z=>by rw[o2] at z;cases z) hg (by omega) (fun _ _ e=>e) (fun h' t tk k=>q _ _ (I.kept k)) (by omega)
 |dict a b c d e=>exact absurd o2 (by simp[PyData.hasDict])
/-- {x!r} -/
def tFmtD (K:Fg) (te:TE):TE:=fun σ H Q=>te σ H fun x H1=>∃p,Dp K H1 x p∧shOk 0 p=true∧Q (.str p.shown) H1
theorem zhm {e:Expr} {te:TE} {pos:Pos} (hg:X.A.guards=some []) (hu:X.A.units+64<cLine) (he:PE X e te):PE X (.FormattedValue e 114 none pos) (tFmtD X.K te):=by
 refine⟨fun pins s σ H Q I h=>?_⟩
 refine wpAny_FormattedValue_repr (thn (he.run pins s σ H _ I h) fun v s1 ⟨x,H1,I1,r1,p,hd,ok,q⟩=>?_)
 exact Inv.repr I1 hd r1 ok hg (by omega) fun s' t I'=>wpAny_formatField_str ⟨.str _,H1,I',⟨t,rfl⟩,q⟩ ⟨.str _,H1,I'.tok _,⟨_,rfl⟩,q⟩ (by have:=(z41 ok).2.2.2;omega)
end
structure ErrC (K:Fg) (C f:Str) (fI:Addr):Prop where
 ox:OexC K (He.ga K C)
 ini:yh K (.ref (He.ga K C)) "__init__" = some (some (.ref fI))
 typ:ytc K (.ref fI)=some (.type "function")
 noF:yh K (.ref (He.ga K C)) f=some none
theorem zdh {n:Nat} {p:PyData} (h:shOk n p=true):shOk 0 p=true:=by
 obtain⟨a,b,c,d⟩:=z41 h
 unfold shOk
 rw[a,b,decide_eq_true c,decide_eq_true (show p.shown.length+0≤sizeLine by omega)]
 rfl
theorem znr {n:Nat} {t:Str} {p:PyData} (h:shOk n p=true) (hn:t.length≤n):(t++p.shown).length≤sizeLine:=by
 have:=(z41 h).2.2.2
 rw[strLen_append]
 omega
/-- what __init__ is asked and does -/
def spErr (K:Fg) (C f:Str) (n:Nat):Sp:=fun vs H Q _=>∃a v p,vs=[.ref a,v]∧H a=some (exo a (He.ga K C) none)∧Dp K H v p∧shOk n p=true ∧
 ∀dx,H dx=none→dx≠a→Q .non (upd (upd H dx (exd dx [(f,v)])) a (exo a (He.ga K C) (some dx)))
theorem zhj {P:Program} {w:World} {K:Fg} {mg:Str→Option Value} {base:Heap} {x qual:Str} {params:Arguments} {body:List Stmt} {scope:Scope} {fI:Addr} {fd:FuncData} {C f s0:Str} {k n:Nat} (F:FunD K x qual params body scope [] [] fI fd) (S:FnScope [s0,f] [s0,f] scope)
  (hb:∀(cdv:Value) (A:Around) (outer:List PySem.Env) (s:Shared) (H:Hp) (E:XK),RoomG k (A.deeper (envOfC qual scope s.heap.objs.size fI cdv)) →
    ∃t,PSs (cxOf (L2N.CX P w) P w K mg base [s0,f] qual scope fI cdv A outer s H E) body t∧∀(a:Addr) (v:V) (p:PyData) (Q:VK),H a=some (exo a (He.ga K C) none)→Dp K H v p→shOk n p=true →
     (∀dx,H dx=none→dx≠a→Q .non (upd (upd H dx (exd dx [(f,v)])) a (exo a (He.ga K C) (some dx))))→t {nx:=fun _ H'=>Q .non H',rt:=Q} [some (.ref a),some v] H) :
  FnG P w K mg base (k+1) fI fd [s0,f] (spErr K C f n):=
 fn_G F S (fun⟨_,_,_,e,_⟩=>by rw[e] <;> rfl) fun cdv A outer s H vs Q E hr ⟨a,v,p,e,ha,hd,ok,q⟩=>by
  obtain⟨t,ht,h⟩:=hb cdv A outer s H E hr
  refine⟨t,ht,?_⟩
  rw[e]
  exact h a v p Q ha hd ok q
theorem zq9 {P:Program} {w:World} {outer:List PySem.Env} {H:Hp} {s:Shared} {e:Value} {s':Shared} (c:L2N.CX P w outer H s (fun _ _ _=>False) e s'):False:=by
 obtain⟨_,_,_,_,_,_,_,_,_,_,_,_,z⟩:=c
 exact z
section
variable {X:Cx} {Wx:WX}
/-- C(e): a new error, its field in a dict of its own -/
def tMkE (K:Fg) (C f:Str) (n:Nat) (te:TE):L2.St→Hp→XK→Prop:=fun σ H Q=>te σ H fun v H1=>∃p,Dp K H1 v p∧shOk n p=true∧∀dx,H1 dx=none→Q (.ref (He.ga K C)) (some dx) (upd H1 dx (.xd [(f,v)]))
theorem z5bb {pins:List (Addr × Obj)} {σ : L2.St} {H1 H2:Hp} {Q:XK} {hp hp2 h2:Heap} {g1 g2:Array GenState} {d1 d2:Drawn} {t1 t2:Nat} {os1 os2:OsState} {a C d:Addr} {fs:List (Str × V)} (T:Raises X (.ref C)) (I1:Inv X pins σ H1 ⟨hp,g1,d1,t1,os1⟩)
  (ha:hp.objs.size≤a) (k:∀b o,hp.get? b=some o→hp2.get? b=some o) (un:Un (frs X.stack) [] (upd H1 a (exo a C none)) H2 hp2 h2) (hok:HOk X.prog X.w H2 h2) (ho:os2=os1) (hb:AllBare g2)
  (ea:H2 a=some (exo a C (some d))) (ed:H2 d=some (exd d fs)) (hd1:H1 d=none) (q:Q (.ref C) (some d) (upd (del H2 a) d (.xd fs))):L2N.MkP X pins σ Q (.ref a) ⟨h2,g2,d2,t2,os2⟩∧L2H.Six (.ref a) ⟨h2,g2,d2,t2,os2⟩:=by
 obtain⟨t0,G,J,kG,ge,hoe,na⟩:=mk_end0 (d2:=d2) (t2:=t2) I1 ha k un hok ho hb ea ed hd1
 refine⟨⟨a,_,_,⟨G,g2,d2,t2,os2⟩,_,.ref C,some d,rfl,J,kG,ge,hoe,⟨rfl,rfl,fun vs q=>by cases q;rfl⟩,rfl,rfl,na,rfl,hb,T,q⟩,fun a' oe vs e1 e2 e3=>?_⟩
 cases e1
 have e2:h2.get? a=some oe:=e2
 rw[hoe] at e2
 cases e2
 cases e3
 show (4:Nat)<6
 decide
theorem z9hb {k n:Nat} {C f s0:Str} {fI:Addr} {fd:FuncData} {e:Expr} {te:TE} {p pos:Pos} (T:ErrC X.K C f fI) (F1:FnG X.prog X.w X.K X.mg X.base k fI fd [s0,f] (spErr X.K C f n)) (hb:Binds X.K fd [s0,f] []) (room:RoomG (k+1) X.A) (hg:Gl X C) (hm:X.mg C=some (.ref (He.ga X.K C))) (he:PE X e te)
  (hdb:(C==("__debug__" : Str))=false:=by decide) (hst:starEach [e] X.env=[(false,eval e X.env)]:=by rfl):L2N.PMk X (.Call (.Name C p) [e] [] pos) (tMkE X.K C f n te):=by
 intro pins s σ H Q I h
 obtain⟨nm,q,N,bs,bm,sn,sub,ab,col,dd,k0,k1,k2,k3,k5,hC,hbm⟩:=T.ox.cls
 have h2:tCons te tNil σ H fun vs H1=>∃v p,vs=[v]∧Dp X.K H1 v p∧shOk n p=true∧∀dx,H1 dx=none→Q (.ref (He.ga X.K C)) (some dx) (upd H1 dx (.xd [(f,v)])):=by
  refine (show te σ H fun x H1=>_ from ?_)
  have mono:∀{Q1 Q2:VK},te σ H Q1→(∀v H1,Q1 v H1→Q2 v H1)→Q1=Q2→te σ H Q2:=fun a _ b=>b ▸ a
  refine mono h (fun _ _ z=>⟨_,z.choose,rfl,z.choose_spec⟩) ?_
  funext v H1
  refine propext ⟨fun⟨p,z⟩=>⟨v,p,rfl,z⟩,fun⟨v',p,e',z⟩=>?_⟩
  cases e'
  exact⟨p,z⟩
 refine wpAny_Call_Name_kw (ld_glob I hg hm ?_ hdb)
 refine yuc (h₀:=X.base) I.ok.mod.kin T.ox.kC (thn ((pa_cons he pa_nil hst).run pos pins s σ H _ I h2) fun us s1 ⟨vs,H1,I1,r1,v,pd,ev,dp,ok,want⟩=>⟨I1.kIn,?_⟩) hst rfl
 subst ev
 obtain⟨hp,g,dr,tk,os⟩:=s1
 obtain⟨a,ea⟩:∃a,a=hp.objs.size+1:=⟨_,rfl⟩
 have big:hp.objs.size≤a:=by rw[ea];exact Nat.le_succ _
 have na:H1 a=none:=I1.hok.fresh big
 obtain⟨h1,eh⟩:∃h1,h1=(hp.push (PySem.W.kdv_tup us)).push (ycd (He.ga X.K C) hp.objs.size):=⟨_,rfl⟩
 have old:∀b o,hp.get? b=some o→h1.get? b=some o:=fun b o z=>by
  rw[eh]
  exact Heap.get?_push_of_some _ (Heap.get?_push_of_some _ z)
 have new:h1.get? a=some (ycd (He.ga X.K C) hp.objs.size):=by
  subst eh ea
  heap_get
 have I2:Inv X pins σ (upd H1 a (exo a (He.ga X.K C) none)) ⟨h1,g,dr,tk,os⟩:=I1.laid (t':=tk) old big (exo_ok new)
 have ex1:Ex H1 (upd H1 a (exo a (He.ga X.K C) none)):=ylb na
 have few:us.length≤sizeLine:=by
  rw[←r1.length]
  exact yy (show (1:Nat)≤2 by decide) (by decide)
 have rv:Vals [.ref a,v] (.ref a::us):=.cons rfl r1
 have bd:=hb ⟨h1,g,dr,tk,os⟩ (.ref a::us) I2.kIn (by rw[ygb,←rv.length] <;> rfl)
 rw[ygb] at bd
 have goal:spErr X.K C f n [.ref a,v] (upd H1 a (exo a (He.ga X.K C) none)) (fun z H2=>z = .non∧∃(d:Addr) (fs:List (Str × V)),H2 a=some (exo a (He.ga X.K C) (some d))∧H2 d=some (exd d fs)∧H1 d=none∧Q (.ref (He.ga X.K C)) (some d) (upd (del H2 a) d (.xd fs))) (fun _ _ _=>False):=by
  refine⟨a,v,pd,rfl,upd_same ..,Dp.ext ex1 dp,ok,fun dx nd ne=>⟨rfl,dx,_,upd_same ..,by rw[upd_ne ne,upd_same],?_,?_⟩⟩
  ·rw[upd_ne ne] at nd
   exact nd
  ·rw[upd_ne ne] at nd
   have same:upd (del (upd (upd (upd H1 a (exo a (He.ga X.K C) none)) dx (exd dx [(f,v)])) a (exo a (He.ga X.K C) (some dx))) a) dx (.xd [(f,v)])=upd H1 dx (.xd [(f,v)]):=by
    funext b
    by_cases h1:b=dx
    ·rw[h1,upd_same,upd_same]
    ·rw[upd_ne h1,upd_ne h1]
     by_cases h2:b=a
     ·rw[h2,del_same,na]
     ·rw[del_ne h2,upd_ne h2,upd_ne h1,upd_ne h2]
   rw[same]
   exact want dx nd
 subst ea
 show wpAny _ _ (call (.ref (He.ga X.K C)) us) _ _ _
 refine wpAny_call (PySem.HandSPX.call_own F.excBase_ValueError (fun Y=>PySem.HandSPX.refsVE_contains Y bm hbm) (I1.kIn _ _ hC) (y4c I1.kIn T.ini) (fun self=>PySem.W.bind_fn I1.kIn self T.typ) few ?_)
 rw[←eh]
 refine codeAny_mono (F1.go (room.make _ us []) (I2.env0.make _ us []) bd rv goal) fun r s' hq=>?_
 match r,hq with
 |.error er,hq=>exact (zq9 hq).elim
 |.ok .next,hq=>exact y7 hq
 |.ok .brk,hq=>exact y7 hq
 |.ok .cont,hq=>exact y7 hq
 |.ok (.ret u),hq=>
  obtain⟨z,H2,os2,bare2,un2,ok2,rz,ez,d,fs,e1,e2,e3,e4⟩:=hq
  subst ez
  obtain⟨h2',g2,d2,t2,os'⟩:=s'
  exact⟨rz,(z5bb (raises_own T.ox.exC T.ox.tyC) I1 big old un2 ok2 os2 bare2 e1 e2 e3 e4).1⟩
end
section
variable {X:Cx} {Wx:WX}
theorem zwe {k n:Nat} {C f s0:Str} {fI:Addr} {fd:FuncData} {e:Expr} {fe:DE} {p cpos pos:Pos} (hc:X.calm=true) (tk:yk X Wx) (T:ErrC X.K C f fI) (F1:FnG X.prog X.w X.K X.mg X.base k fI fd [s0,f] (spErr X.K C f n)) (hb:Binds X.K fd [s0,f] []) (room:RoomG (k+1) X.A) (hg:Gl X C) (hm:X.mg C=some (.ref (He.ga X.K C))) (he:PE X e (tD X.K Wx fe))
  (hdb:(C==("__debug__" : Str))=false:=by decide) (hst:starEach [e] X.env=[(false,eval e X.env)]:=by rfl):PS X (.Raise (some (.Call (.Name C p) [e] [] cpos)) none pos) (tS X.K Wx (zvf C f n fe)):=
 psImp (L2N.ps_raise hc tk (z9hb T F1 hb room hg hm he hdb hst)) fun En σ H ⟨H1,al,dl,m,r,en,q⟩=>by
  refine⟨H1,al,dl,m,r,en,q.of en fun w m1 H1' al' H' e1 l1 r' q' v hv=>?_⟩
  unfold raW at q'
  split at q'
  ·rename_i x
   split at q'
   ·rename_i pd hp
    split at q'
    ·rename_i ok
     refine⟨pd,ze8 r'.ex hv hp,ok,fun dx nd=>?_⟩
     have nd1:=r'.fresh1 nd
     exact q' _ al' _ σ v dx (ylb nd1) (z2b _) (r'.new nd) ((en.mono e1 l1).mono (ylb nd1) (z2b _)) (Rp.mono (ylb nd1) hv) upd_same
    ·exact q'.elim
   ·exact q'.elim
  ·exact q'.elim
/-- what the head must say of a class whose errors are caught -/
structure CatC (K:Fg) (C:Str):Prop where
 hg:yh K (.ref (He.ga K C)) "__getattribute__" = some (some (.builtin "BaseException.__getattribute__"))
 hk:yh K (.ref (He.ga K C)) "__getattr__" = some none
 hs:yrb K (.ref (He.ga K C)) (.type "BaseException")=some true
 hd:PySem.W.hasDictIn K (He.ga K C)=true
 ha:yh K (.ref (He.ga K C)) "__class__" = some (some (.builtin "object.__class__"))
 hn:y0c K (.builtin "object.__class__") "__get__" = some (some (.builtin "getset_descriptor.__get__"))
 ht:yyd K (.builtin "object.__class__")=some true
 hm:PySem.W.mroIn K (He.ga K C) (.type "object")=some true
theorem CatC.kit {K:Fg} {C:Str} (T:CatC K C) {x:Addr} {ox:Obj} {od:Option Obj}:PySem.W.KitX K (.ref x) (.ref (He.ga K C)) (fun h=>PySem.W.InstAt h x ox (He.ga K C) od):=
 PySem.W.kitx_exc (by obtain⟨cd,hc,_⟩:=PySem.W.any_some T.hd;rw[hc];rfl) T.hg T.hk T.hs T.ha T.hn T.ht T.hm
end
/-- what the head must say of x op y, x an object of C -/
structure BopC (K:Fg) (C:Addr) (op:Operator):Prop where
 sf:yyb K C=true
 rc:∃rc,yh K (.ref C) (dunderR op.info.2)=some rc∧(rc=none∨∃g:Addr,rc=some (.ref g))
/-- .. and of the type of y -/
def BopT (K:Fg) (C:Addr) (op:Operator) (t:Value):Prop:=t = .ref C∨∃(T:String) (fo ro:Option Value),t = .type T∧yh K (.type T) (y5 op.info.2)=some fo∧yh K (.type T) (dunderR op.info.2)=some ro∧yrb K (.type T) (.ref C)=some false
section
open PySem.W (Looks)
variable {prog:Program} {w:World} {A:Around} {E:Value→Shared→Prop} {K:Fg}
theorem bin_left {s:Shared} {op:Operator} {a C f:Addr} {b t:Value} {oa:Obj} {od:Option Obj} {Q:Value→Shared→Prop} (kin:K.In s.heap) (J:PySem.W.InstAt s.heap a oa C od) (B:BopC K C op) (ty:Looks (model prog w) s.heap (typeOf b) t) (bt:BopT K C op t)
  (own:yh K (.ref C) (y5 op.info.2)=some (some (.ref f))) (fn:yhb K (.ref f)=true) (go:wpAny (model prog w) A (call (.ref f) [.ref a,b]) (ykc Q) E s):wpAny (model prog w) A (binaryOp op (.ref a) b) Q E s:=by
 obtain⟨rc,hrc,isP⟩:=B.rc
 obtain⟨cd,rest,isC,first⟩:=y2b B.sf
 have got:=ydd kin J own fn go
 rcases hop:op.info with ⟨sg,nm⟩
 unfold BopT at bt
 rw[hop] at own hrc bt got
 dsimp only at own hrc bt got
 have fillsL:=ylc (M:=model prog w) kin isC first own
 have tyL:Looks (model prog w) s.heap (typeOf (.ref a)) (.ref C):=J.type
 have pyL:=y8c (M:=model prog w) kin own hrc isP
 obtain⟨hp0,gs0,dr0,tk0,os0⟩:=s
 simp only[binaryOp,hop]
 refine wpAny_holding (wpAny_bind ?_)
 unfold binaryOp1
 refine wpAny_bind (tyL.at (wpAny_bind (ty.at (wpAny_bind (fillsL.at ?_)))))
 rcases bt with e |⟨T,fo,ro,e,q1,q2,q3⟩
 ·subst e
  have eqC:(Value.ref C==Value.ref C)=true:=beq_iff_eq.mpr rfl
  simp only[eqC,if_true,Bool.and_false,ykb,if_false]
  ksp_lk
  refine wpAny_mono got (fun r s' hr=>?_) fun _ _ z=>z
  obtain⟨v,rfl,hq⟩:=hr
  ksp_lk
  exact hq
 ·subst e
  have neC:(Value.ref C==Value.type T)=false:=y2c.mpr fun z=>by cases beq_iff_eq.mp z
  have fillsR:=PySem.W.ksp_fillsT (M:=model prog w) kin q1 q2
  have subT:Looks (model prog w) hp0 (isSubtype (.type T) (.ref C)) false:=yoc kin q3
  have pyR:Looks (model prog w) hp0 (numberSlotInPython (.type T) nm) false:=Looks.of_pure rfl
  have lookR:Looks (model prog w) hp0 (typeLookup (.type T) (dunderR nm)) ro:=y4c kin q2
  simp only[neC,ykb,if_false]
  generalize ((fo.isSome && !isSeqSlot fo) ||(ro.isSome && !isSeqSlot ro))=rt at fillsR
  cases rt <;>
  ·ksp_lk
   refine wpAny_mono got (fun r s' hr=>?_) fun _ _ z=>z
   obtain⟨v,rfl,hq⟩:=hr
   ksp_lk
   exact hq
end
/-- C's own method for op keeps F; ts: the built-in types that may stand on the right -/
structure BopM (P:Program) (w:World) (K:Fg) (mg:Str→Option Value) (base:Heap) (k:Nat) (op:Operator) (ts:List String) (C:Str) (F:DF):Prop where
 ex:∃f,yh K (.ref (He.ga K C)) (y5 op.info.2)=some (some (.ref f))∧yhb K (.ref f)=true∧FnD P w K mg base k f F
 bc:BopC K (He.ga K C) op
 ty:∀n∈ts,BopT K (He.ga K C) op (.type n)
 ic:IsiC K (He.ga K C)
section
variable {X:Cx} {Wx:WX}
theorem znn {pins:List (Addr × Obj)} {σ : L2.St} {Q:VK} {u:Value} {s':Shared} (h:EP X pins σ Q u s'):ykc (EP X pins σ Q) u s':=by
 obtain⟨v,H',I,r,q⟩:=h
 cases u with
 |notImplemented=>cases v <;> simp[L2.RelV] at r
 |_=>exact⟨v,H',I,r,q⟩
theorem z0k {pins:List (Addr × Obj)} {σ : L2.St} {H H1:Hp} {s:Shared} {al:Gh} {m:Mem} {y:W} {v:V} {u:Value} {t:Tag} (I:Inv X pins σ H s) (r:Rel X.K H1 H al m) (hy:RpW X.K H1 al v y) (rv:RelV v u) (ht:tagOf y m=some t) (hc:∀C,t = .own C→IsiC X.K (He.ga X.K C)):PySem.W.Looks (model X.prog X.w) s.heap (typeOf u) (t.v X.K):=by
 unfold tagOf at ht
 split at ht
 ·rename_i d hd
  obtain⟨P,z1,z2,z3⟩:=L2.kit_of I rv (zggb r.ex (hy.rh r hd) ht hc)
  exact z1.ty _ _ I.kIn z2
 ·cases ht
theorem zydb {pins:List (Addr × Obj)} {σ : L2.St} {H H1:Hp} {s:Shared} {al:Gh} {m:Mem} {x y:W} {xv yv:V} {v u:Value} {Q:VK} {op:Operator} {k:Nat} {ts:List String} {C:Str} {F:DF} (tk:yk X Wx) (M:BopM X.prog X.w X.K X.mg X.base k op ts C F) (hr:RoomG k X.A) (I:Inv X pins σ H s) (r:Rel X.K H1 H al m) (hx:RpW X.K H1 al xv x) (hy:RpW X.K H1 al yv y) (rx:RelV xv v) (ry:RelV yv u)
  (hc:clsOf x m=some C) (ht:tagIn ts C (tagOf y m)=true) (p:Post X.K H1 al σ Wx (GV X.K Q) (F [x,y] m)):wpAny (model X.prog X.w) X.A (binaryOp op v u) (EP X pins σ Q) X.xe s:=by
 obtain⟨aa,dx,fs,ns,ds,rfl,h1,h3,h4,h5⟩:=zpf r hx hc
 obtain⟨f,q1,q2,Fo⟩:=M.ex
 obtain⟨ox,od,J⟩:=z0i I h1
 obtain rfl:v=Value.ref aa:=rx
 have call_:=zcn (vs:=[.ref aa,yv]) tk Fo hr I I.env0 (.cons rfl (.cons ry .nil)) (zyi r (.cons hx (.cons hy .nil)) p)
 have done:=wpAny_mono call_ (fun _ _ z=>znn z) fun _ _ z=>z
 cases hg:tagOf y m with
 |none=>rw[hg] at ht;cases ht
 |some t=>
  rw[hg] at ht
  cases t with
  |bt n=>
   exact bin_left I.kIn J M.bc (z0k I r hy ry hg (fun C e=>nomatch e)) (M.ty n (of_decide_eq_true ht)) q1 q2 done
  |own C'=>
   have e:C'=C:=of_decide_eq_true ht
   subst e
   exact bin_left I.kIn J M.bc (z0k I r hy ry hg (fun C e=>by cases e;exact M.ic)) (.inl rfl) q1 q2 done
theorem zndb {a b:Expr} {op:Operator} {pos:Pos} {k:Nat} {ts:List String} {t:Tbl} {g:D→D→Option D} {fa fb:DE} (tk:yk X Wx) (ht:∀q∈t,BopM X.prog X.w X.K X.mg X.base k op ts q.1 q.2) (hr:RoomG k X.A) (ho:OpOk X (binaryOp op) g) (ha:PE X a (tD X.K Wx fa)) (hb:PE X b (tD X.K Wx fb)):PE X (.BinOp a op b pos) (tD X.K Wx (eBop ts t g fa fb)):=by
 refine⟨fun pins s σ H Q I h=>?_⟩
 have h2:=zbw (R:=fun v w H2 Q=>∃H1 al m x y,Rel X.K H1 H2 al m∧RpW X.K H1 al v x∧RpW X.K H1 al w y∧Post X.K H1 al σ Wx (GV X.K Q) (bopW ts t g x y m)) h fun H1 H al m x y v w r hx hy p=>⟨H1,al,m,x,y,r,hx,hy,p⟩
 refine wpAny_BinOp (binT ha hb I h2 fun v u s2 xv yv H2 I2 rx ry q=>?_)
 obtain⟨H1,al,m,x,y,r,hx,hy,p⟩:=q
 unfold bopW at p
 cases hc:clsOf x m with
 |none=>
  rw[hc] at p
  obtain⟨r2,hr2,hs2⟩:=ho
  exact hr2 pins s2 σ H2 xv yv v u Q I2 rx ry (zpe r hx hy hs2 p)
 |some C=>
  rw[hc] at p
  dsimp only at p
  cases hl:look t C with
  |none=>rw[hl] at p;exact p.elim
  |some F=>
   rw[hl] at p
   dsimp only at p
   split at p
   ·rename_i hti
    exact zydb tk (ht _ (zwg hl)) hr I2 r hx hy rx ry hc hti p
   ·exact p.elim
theorem z7lb {a:Expr} {pos:Pos} {k:Nat} {t:Tbl} {fa:DE} (tk:yk X Wx) (ht:∀q∈t,OwnM X.prog X.w X.K X.mg X.base k "__neg__" q.1 q.2) (hr:RoomG k X.A) (ha:PE X a (tD X.K Wx fa)):PE X (.UnaryOp .USub a pos) (tD X.K Wx (eNeg t fa)):=by
 refine⟨fun pins s σ H Q I h=>?_⟩
 have h2:=zcw (R:=fun v H2 Q=>∃H1 al m x,Rel X.K H1 H2 al m∧RpW X.K H1 al v x∧Post X.K H1 al σ Wx (GV X.K Q) (negW t x m)) h fun H1 H al m x v r hx p=>⟨H1,al,m,x,r,hx,p⟩
 refine UnaryOp_ (thn (ha.run pins s σ H _ I h2) fun v s1 ⟨xv,H2,I2,rx,q⟩=>?_)
 obtain⟨H1,al,m,x,r,hx,p⟩:=q
 unfold negW at p
 cases hc:clsOf x m with
 |none=>
  rw[hc] at p
  obtain⟨r2,hr2,hs2⟩:=zbt (X:=X)
  exact hr2 pins s1 σ H2 xv v Q I2 rx (zyq r hx hs2 p)
 |some C=>
  rw[hc] at p
  dsimp only at p
  cases hl:look t C with
  |none=>rw[hl] at p;exact p.elim
  |some F=>
   rw[hl] at p
   dsimp only at p
   obtain⟨aa,dx,fs,ns,ds,rfl,h1,h3,h4,h5⟩:=zpf r hx hc
   obtain⟨f,q1,q2,q3,q4,Fo⟩:=(ht _ (zwg hl)).ex
   obtain⟨ox,od,J⟩:=z0i I2 h1
   obtain rfl:v=Value.ref aa:=rx
   obtain⟨mF,Fr1⟩:=I2.fr
   exact PySem.W.ksp_neg Fr1 I2.ok.mod.kin J q1 q2 (zcn (vs:=[.ref aa]) tk Fo hr I2 I2.env0 (.cons rfl .nil) (zyi r (.cons hx .nil) p))
end
end DL
namespace DL
open PySem PySem.Spec L2
open PyProof.Rows hiding St
open PySem.W (Frag)
theorem zeib {K:Frag} {C:Addr} (c:oexB K C=true):∃nm q N bs bm sn sub ab col dd k0 k1 k2 k3 k5,K.lookup C=some (excClassObj nm q C N bs bm true sn sub ab col dd k0 k1 k2 k3 k5 "ValueError.__new__")∧PySem.HandSPX.refsVE bm=true:=by
 unfold oexB at c
 split at c
 ·rename_i dd cd sl ho
  split at c
  ·rename_i C' bm k0 k1 k2 k3 n k5 hm hs
   simp only[yab,beq_iff_eq,ypd] at c
   obtain⟨e1,e2,e3,e4,e5⟩:=c
   obtain⟨nm,bs,mro,ns,qn,hd,sn,sub,ab,col,del⟩:=cd
   dsimp only at hm e3 e4
   subst e1 e2 hm e3 e4
   have es:sl=#[k0,k1,k2,k3,some (.builtin "ValueError.__new__"),k5]:=by
    obtain⟨l⟩:=sl
    simp only at hs
    rw[hs]
   subst es
   exact⟨nm,qn,ns,bs,bm,sn,sub,ab,col,dd,k0,k1,k2,k3,k5,ho,e5⟩
  ·cases c
 ·cases c
section
variable {K:Frag}
theorem zhz {C f:Str} (c:fErr C f K=true):ErrC K C f (He.ma K (He.ga K C) "__init__"):=by
 obtain⟨c1,c⟩:=He.ba c
 obtain⟨c2,c⟩:=He.ba c
 obtain⟨c3,c⟩:=He.ba c
 obtain⟨c4,c⟩:=He.ba c
 obtain⟨c5,c⟩:=He.ba c
 obtain⟨c6,c⟩:=He.ba c
 obtain⟨c7,c8⟩:=He.ba c
 exact⟨⟨zeib c1,yxc c2,of_decide_eq_true c3,of_decide_eq_true c4,c5⟩,yxc c6,of_decide_eq_true c7,yxc c8⟩
theorem ve_of (c:fVe K=true):y4b K (.type "ValueError") (.type "type") "__init__" = some (.val (.builtin "ValueError.__init__")):=by
 unfold fVe at c
 split at c
 ·rename_i n e
  rw[e,beq_iff_eq.mp c]
 ·cases c
theorem zplb {o:Option (Option Value)} (h:isP o=true):∃rc,o=some rc∧(rc=none∨∃g:Addr,rc=some (.ref g)):=by
 match o,h with
 |some none,_=>exact⟨_,rfl,.inl rfl⟩
 |some (some (.ref g)),_=>exact⟨_,rfl,.inr ⟨g,rfl⟩⟩
theorem zur {P:Program} {w:World} {mg:Str→Option Value} {base:Heap} {k:Nat} {C m:Str} {op:Operator} {ts:List String} {F:DF} (c:fBop C m op ts K=true) (h:FnD P w K mg base k (He.ma K (He.ga K C) m) F):BopM P w K mg base k op ts C F:=by
 obtain⟨c1,c⟩:=He.ba c
 obtain⟨c2,c⟩:=He.ba c
 obtain⟨c3,c⟩:=He.ba c
 obtain⟨c4,c⟩:=He.ba c
 obtain⟨c5,c6⟩:=He.ba c
 obtain⟨o1,o2,o3,o4⟩:=z8d c2
 have em:m=y5 op.info.2:=of_decide_eq_true c1
 refine⟨⟨_,by rw[←em];exact o1,o2,h⟩,⟨c3,zplb c4⟩,fun T hT=>?_,z56 c5⟩
 have z:=yxb.mp c6 T hT
 obtain⟨z1,z⟩:=He.ba z
 obtain⟨z2,z3⟩:=He.ba z
 obtain⟨fo,e1⟩:=Option.isSome_iff_exists.mp z1
 obtain⟨ro,e2⟩:=Option.isSome_iff_exists.mp z2
 exact .inr ⟨T,fo,ro,rfl,e1,e2,of_decide_eq_true z3⟩
end
end DL
namespace DL
open PySem PySem.Spec L2
open PyProof.Rows hiding St
open Evl (Ex)
section
variable {X:Cx} {Wx:WX}
def noD:D→D→Option D:=fun _ _=>none
theorem zzbb {op:Operator}:OpOk X (binaryOp op) noD:=⟨fun _ _ _ _=>False,fun _ _ _ _ _ _ _ _ _ _ _ _ h=>h.elim,fun _ _ _ _ _ _ _ _ _ _ _ _ _ h _=>nomatch h⟩
theorem z09 {K:Fg} {H1:Hp} (x:Str):z0p K (Its x) H1 (chrD x):=by
 have e:(chrD x).length=x.cps.size:=by unfold chrD;rw[ye,Array.length_toList]
 refine⟨_,_,by rw[e];exact walk_str (z:=x),fun H _=>True.intro,fun i H v H' hi y Hf al m ex rl=>?_⟩
 obtain⟨rfl,c,hc,rfl⟩:=y
 refine⟨Hf,.str ⟨#[c]⟩,Ex.refl _,rl,?_,.str _⟩
 unfold chrD
 rw[yjb,Array.getElem?_toList,hc]
 rfl
theorem z5lb {tg l:Expr} {f:DE} (h:PE X l (tD X.K Wx f)):PI X tg l (tI X.K Wx (iTxt f)):=piImp (pi_str h) fun σ H R ⟨H1,al,dl,m,r,en,p⟩=>by
 refine⟨H1,al,dl,m,r,en,p.bind fun w m1 H1' al' H' e pr r' p' v hv=>?_⟩
 unfold zrx at p'
 split at p'
 ·rename_i x
  cases (show Rp X.K H1' v (.str x) from hv)
  exact⟨x,rfl,p'.ok_ r' _ (z09 x)⟩
 ·exact p'.elim
end
section
variable {M:Model} {prog:Program} {w:World} {A:Around} {E:Value→Shared→Prop} {s:Shared} {K:Fg} {x C f:Addr} {ox:Obj} {od:Option Obj} {b tb:Value}
theorem z2eb {Q:Fin→Shared→Prop} (hu:A.units<cLine) (X:K.In s.heap) (I:PySem.W.InstAt s.heap x ox C od) (hs:yh K (.ref C) "__eq__" = some (some (.ref f))) (hf:yhb K (.ref f)=true)
  (h:wpAny (model prog w) A (call (.ref f) [.ref x,b]) (fun v s'=>∃k,v = .bool k∧Q (.done (.ret (.bool (!k)))) s') E s):wpAny (model prog w) A (Builtin.«object.__ne__» ⟨[.ref x,b],[]⟩) Q E s:=by
 unfold Builtin.«object.__ne__»
 repeat (first
  |with_reducible refine wpAny_cRoomFor hu ?_
  |(refine wpAny_bind (m:=callSpecialIfBound? (.ref x) (Str.ofString "__eq__") [b])
     (PySem.W.ifBound_K X I hs hf (wpAny_mono h (fun r s' hr=>by
       obtain⟨k,rfl,hq⟩:=hr
       repeat (first |exact hq |exact wpAny_pure hq |exact wpAny_truthy_bool hq |(refine wpAny_bind (m:=truthy (.bool _)) (wpAny_truthy_bool ?_)) |wp_step)) fun _ _ e=>e)))
  |wp_step)
theorem zp2 {args:List Value} {Q:Option Value→Shared→Prop} (X:K.In s.heap) (I:PySem.W.InstAt s.heap x ox C od) (hs:yh K (.ref C) "__ne__" = some (some (.builtin "object.__ne__")))
  (h:wpAny M A (call (.builtin "object.__ne__") (.ref x::args)) (fun v=>Q (some v)) E s):wpAny M A (callSpecialIfBound? (.ref x) "__ne__" args) Q E s:=by
 simp only[callSpecialIfBound?,bindSpecialIfBound?]
 refine wpAny_holding (wpAny_bind (wpAny_bind (wpAny_bind (I.type.here ((y4c X hs).here ?_)))))
 refine wpAny_bind (wpAny_askSetting (wpAny_ite ?_))
 have fin:wpAny M A (call (.builtin "object.__ne__") ([.ref x]++args) >>= fun v=>pure (some v)) Q E s:=wpAny_bind (wpAny_mono h (fun v s' h'=>wpAny_pure h') fun _ _ h'=>h')
 split
 ·exact wpAny_bind (wpAny_of_eq (F.cmp_object.ne.bind _) (wpAny_pure (by exact fin)))
 ·exact wpAny_tryCatch (wpAny_bind (wpAny_of_eq (F.cmp_object.ne.bind _) (wpAny_pure (by exact fin))))
theorem zmib {Q:Value→Shared→Prop} (hu:A.units+1<cLine) (X:K.In s.heap) (I:PySem.W.InstAt s.heap x ox C od) (hb:PySem.W.Looks (model prog w) s.heap (typeOf b) tb) (hn:yrd K C tb=true)
  (hm:PySem.W.mroIn K C (.type "object")=some true) (hne:yh K (.ref C) "__ne__" = some (some (.builtin "object.__ne__"))) (hs:yh K (.ref C) "__eq__" = some (some (.ref f))) (hf:yhb K (.ref f)=true)
  (h:wpAny (model prog w) A.in1 (call (.ref f) [.ref x,b]) (fun v s'=>∃k,v = .bool k∧Q (.bool (!k)) s') E s):wpAny (model prog w) A (compareOp .NotEq (.ref x) b) Q E s:=by
 have one:wpAny (model prog w) A (tryCompare (.ref x) "__ne__" b) (fun r s'=>∃v,r=some v∧Q v s') E s:=by
  unfold tryCompare
  refine wpAny_bind (zp2 X I hne (wpAny_call (codeAny_call_builtin F.cmp_object.ne.plain F.cmpEntry_ne (PySem.W.check_slot F.cmpKind_ne F.cmpSplit_ne (I.type.andThen (PySem.W.looks_mroIn X hm)) (F.cmpArgs_ne _ _)
   (z2eb (A:=A.in1) hu X I hs hf (wpAny_mono h (fun v s' hv=>?_) fun _ _ e=>e))))))
  obtain⟨k,rfl,hq⟩:=hv
  first |exact⟨k,rfl,wpAny_pure ⟨_,rfl,hq⟩⟩ |exact⟨k,rfl,⟨_,rfl,hq⟩⟩
 refine PySem.W.cmp_ofNotEq ?_
 unfold richCompare
 simp only[oneThing_ref]
 refine wpAny_holding (wpAny_bind (wpAny_cRoomFor (Nat.lt_of_succ_lt hu) ?_))
 rw[cmpInfo_NotEq]
 dsimp only
 refine wpAny_bind (I.type.here (wpAny_bind (hb.here ?_)))
 split
 ·rename_i q
  have e:yrb K tb (.ref C)=some false:=by
   rcases Bool.or_eq_true_iff.mp hn with e |e
   ·rw[beq_iff_eq.mp e] at q;simp at q
   ·exact beq_iff_eq.mp e
  refine wpAny_bind ((yoc X e).here ?_)
  simp only[ykb,if_false]
  refine wpAny_bind (wpAny_mono one (fun r s' z=>?_) fun _ _ e=>e)
  obtain⟨v,rfl,hq⟩:=z
  exact wpAny_pure hq
 ·refine wpAny_bind (wpAny_pure ?_)
  simp only[ykb,if_false]
  refine wpAny_bind (wpAny_mono one (fun r s' z=>?_) fun _ _ e=>e)
  obtain⟨v,rfl,hq⟩:=z
  exact wpAny_pure hq
end
/-- the class C has its own == (and no own !=); ts: the built-in types that may stand on the right -/
structure EqM (P:Program) (w:World) (K:Fg) (mg:Str→Option Value) (base:Heap) (k:Nat) (ts:List String) (C:Str) (F:DF):Prop where
 ex:∃f,yh K (.ref (He.ga K C)) "__eq__" = some (some (.ref f))∧yhb K (.ref f)=true∧FnD P w K mg base k f F
 ne:yh K (.ref (He.ga K C)) "__ne__" = some (some (.builtin "object.__ne__"))
 ty:∀n∈ts,yrd K (He.ga K C) (.type n)=true
 ic:IsiC K (He.ga K C)
def OpW (X:Cx) (Wx:WX) (f:Value→Value→Sem Value) (h:W→W→Mem→Res W):Prop:=
 ∀(pins:List (Addr × Obj)) (s:Shared) (σ : L2.St) (H H1:Hp) (al:Gh) (m:Mem) (x y:W) (xv yv:V) (v u:Value) (Q:VK),Inv X pins σ H s→Rel X.K H1 H al m→RpW X.K H1 al xv x→RpW X.K H1 al yv y→RelV xv v→RelV yv u →
  Post X.K H1 al σ Wx (GV X.K Q) (h x y m)→wpAny (model X.prog X.w) X.A (f v u) (EP X pins σ Q) X.xe s
/-- h answers with truths only -/
def BlW (h:W→W→Mem→Res W):Prop:=∀x y m r m',h x y m = .ok r m'→∃b,r = .d (.bl b)
section
variable {X:Cx} {Wx:WX}
theorem zmdb {a b:Expr} {op:CmpOp} {pos:Pos} {h:W→W→Mem→Res W} {fa fb:DE} (ho:OpW X Wx (compareOp op) h) (ha:PE X a (tD X.K Wx fa)) (hb:PE X b (tD X.K Wx fb)) (hm:behindInMarks op b=false):PE X (.Compare a [op] [b] pos) (tD X.K Wx (eOpW h fa fb)):=by
 refine⟨fun pins s σ H Q I hh=>?_⟩
 have h2:=zbw (R:=fun v w H2 Q=>∃H1 al m x y,Rel X.K H1 H2 al m∧RpW X.K H1 al v x∧RpW X.K H1 al w y∧Post X.K H1 al σ Wx (GV X.K Q) (h x y m)) hh fun H1 H al m x y v w r hx hy p=>⟨H1,al,m,x,y,r,hx,hy,p⟩
 refine wpAny_Compare1 (binT ha hb I h2 fun v u s2 xv yv H2 I2 rx ry q=>?_) hm
 obtain⟨H1,al,m,x,y,r,hx,hy,p⟩:=q
 exact ho pins s2 σ H2 H1 al m x y xv yv v u Q I2 r hx hy rx ry p
theorem zddb {a b:Expr} {op:CmpOp} {pos:Pos} {h:W→W→Mem→Res W} {fa fb:DE} (ho:OpW X Wx (compareOp op) h) (hbl:BlW h) (ha:PE X a (tD X.K Wx fa)) (hb:PE X b (tD X.K Wx fb)) (hm:behindInMarks op b=false):PT X (.Compare a [op] [b] pos) (tT X.K Wx (bT (eOpW h fa fb))):=by
 refine⟨fun pins s σ H Q I ⟨H1,al,dl,m,rl,en,p⟩=>?_⟩
 unfold bT eOpW at p
 have assoc:∀(r1:Res W) (k1:W→Mem→Res W) (k2:W→Mem→Res Bool),(r1.bind k1).bind k2=r1.bind fun x m=>(k1 x m).bind k2:=fun r1 k1 k2=>by cases r1 <;> rfl
 rw[assoc] at p
 simp only[assoc] at p
 have h2:tD X.K Wx fa σ H fun v H'=>tD X.K Wx fb σ H' fun w H2=>∃H1 al m x y,Rel X.K H1 H2 al m∧RpW X.K H1 al v x∧RpW X.K H1 al w y∧Post X.K H1 al σ Wx (GV X.K fun z H3=>∃k,z = .bl k∧Q k H3) (h x y m):=by
  refine⟨H1,al,dl,m,rl,en,p.bind fun x m1 H1' al' H' e pr r' p' v hv=>?_⟩
  refine⟨H1',al',dl,m1,r',en.mono e pr,p'.bind fun y m2 H1'' al'' H'' e2 pr2 r'' p'' w hw=>?_⟩
  refine⟨H1'',al'',m2,x,y,r'',hv.mono e2 pr2,hw,?_⟩
  cases hx:h x y m2 with
  |no=>rw[hx] at p'';exact p''
  |exc C f p0 m3=>rw[hx] at p'';exact p''
  |ok r m3=>
   rw[hx] at p''
   obtain⟨k,rfl⟩:=hbl x y m2 r m3 hx
   intro H3 al3 H3' e3 pr3 r3 u hu
   cases (show Rp X.K H3 u (.bl k) from hu)
   exact⟨k,rfl,p'' H3 al3 H3' e3 pr3 r3⟩
 refine wpAny_isTrue_Compare1 (thn (ha.run pins s σ H _ I h2) fun v s1 ⟨xv,H3,I1,r1,q1⟩=>thn (hb.run pins s1 σ H3 _ I1 q1) fun u s2 ⟨yv,H4,I2,r2,q2⟩=>?_) hm
 obtain⟨H5,al5,m5,x,y,r5,hx,hy,p5⟩:=q2
 refine thn (ho pins s2 σ H4 H5 al5 m5 x y xv yv v u _ I2 r5 hx hy r1 r2 p5) fun c s3 ⟨z,H6,I3,r3,k,e,q3⟩=>?_
 subst e
 cases r3
 exact wpAny_truthy_bool ⟨H6,I3,q3⟩
theorem zpgb {f:Value→Value→Sem Value} {g:D→D→Option D} (ho:OpOk X f g):OpW X Wx f (lift2 g):=by
 intro pins s σ H H1 al m x y xv yv v u Q I r hx hy rx ry p
 obtain⟨r2,hr2,hs2⟩:=ho
 exact hr2 pins s σ H xv yv v u Q I rx ry (zpe r hx hy hs2 p)
theorem zr8 {k:Nat} {ts:List String} {t:Tbl} {neg:Bool} (tk:yk X Wx) (ht:∀q∈t,EqM X.prog X.w X.K X.mg X.base k ts q.1 q.2) (hr:RoomG (k+1) X.A):OpW X Wx (compareOp (if neg then .NotEq else .Eq)) (eqoW ts t neg):=by
 intro pins s σ H H1 al m x y xv yv v u Q I r hx hy rx ry p
 unfold eqoW at p
 cases hc:clsOf x m with
 |none=>
  rw[hc] at p
  cases neg with
  |true=>exact zpgb (z8k hr.units) pins s σ H H1 al m x y xv yv v u Q I r hx hy rx ry p
  |false=>exact zpgb (zvc hr.units) pins s σ H H1 al m x y xv yv v u Q I r hx hy rx ry p
 |some C=>
  rw[hc] at p
  dsimp only at p
  cases hl:look t C with
  |none=>rw[hl] at p;exact p.elim
  |some F=>
   rw[hl] at p
   dsimp only at p
   split at p
   ·rename_i hti
    have M:=ht _ (zwg hl)
    obtain⟨aa,dx,fs,ns,ds,rfl,h1,h3,h4,h5⟩:=zpf r hx hc
    obtain⟨f,q1,q2,Fo⟩:=M.ex
    obtain⟨ox,od,J⟩:=z0i I h1
    obtain rfl:v=Value.ref aa:=rx
    have p2:Post X.K H1 al σ Wx (GV X.K fun z H3=>∃b,z = .bl b∧Q (.bl (if neg then !b else b)) H3) (F [x,y] m):=p.bind fun rr m1 H1' al' H' e pr r' p' vv hvv=>by
     split at p'
     ·rename_i b
      cases (show Rp X.K H1' vv (.bl b) from hvv)
      exact⟨b,rfl,p'.ok_ r' _ (show Rp X.K H1' (V.bl _) (D.bl _) from .bl _)⟩
     ·exact p'.elim
    have lk:∃tb,PySem.W.Looks (model X.prog X.w) s.heap (typeOf u) tb∧yrd X.K (He.ga X.K C) tb=true:=by
     cases hg:tagOf y m with
     |none=>rw[hg] at hti;cases hti
     |some tt=>
      rw[hg] at hti
      cases tt with
      |bt n=>exact⟨_,z0k I r hy ry hg (fun C e=>nomatch e),M.ty n (of_decide_eq_true hti)⟩
      |own C'=>
       have e:C'=C:=of_decide_eq_true hti
       subst e
       exact⟨_,z0k I r hy ry hg (fun C e=>by cases e;exact M.ic),by
        show (Value.ref (He.ga X.K C')==Value.ref (He.ga X.K C') ||_)=true
        rw[beq_self_eq_true,Bool.true_or]⟩
    obtain⟨tb,lk1,lk2⟩:=lk
    obtain⟨mF,Fr1⟩:=I.fr
    cases neg with
    |true=>
     refine zmib (Nat.lt_of_le_of_lt (Nat.add_le_add_left (by decide) _) hr.units) I.kIn J lk1 lk2 M.ic.hm M.ne q1 q2 (wpAny_mono (zcn (vs:=[.ref aa,yv]) tk Fo hr.in1 I I.env0.in1 (.cons rfl (.cons ry .nil)) (zyi r (.cons hx (.cons hy .nil)) p2)) (fun z s' hz=>?_) fun _ _ z=>z)
     obtain⟨zv,H',I',rz,b,rfl,qz⟩:=hz
     cases rz
     exact⟨b,rfl,.bl (!b),H',I',rfl,qz⟩
    |false=>
     refine PySem.W.cmp_K (op:=.Eq) (Nat.lt_of_le_of_lt (Nat.le_add_right _ 64) hr.units) Fr1 I.ok.mod.kin J lk1 lk2 q1 q2 (wpAny_mono (zcn (vs:=[.ref aa,yv]) tk Fo (hr.mono (by omega)) I I.env0 (.cons rfl (.cons ry .nil)) (zyi r (.cons hx (.cons hy .nil)) p2)) (fun z s' hz=>?_) fun _ _ z=>z)
     obtain⟨zv,H',I',rz,b,rfl,qz⟩:=hz
     cases rz
     exact⟨.bl b,H',I',rfl,qz⟩
   ·exact p.elim
theorem zfhb {ts:List String} {t:Tbl} {neg:Bool}:BlW (eqoW ts t neg):=by
 intro x y m r m' h
 unfold eqoW at h
 split at h
 ·split at h
  ·split at h
   ·rename_i F _ _
    cases hf:F [x,y] m with
    |no=>rw[hf] at h;cases h
    |exc _ _ _ _=>rw[hf] at h;cases h
    |ok w m1=>
     rw[hf] at h
     simp only[Res.bind] at h
     split at h
     ·cases h;exact⟨_,rfl⟩
     ·cases h
   ·cases h
  ·cases h
 ·unfold lift2 at h
  split at h
  ·split at h
   ·split at h
    ·rename_i z hz
     cases h
     cases neg with
     |true=>obtain⟨k,rfl⟩:=bl_ne _ _ _ hz;exact⟨k,rfl⟩
     |false=>obtain⟨k,rfl⟩:=bl_eq _ _ _ hz;exact⟨k,rfl⟩
    ·cases h
   ·cases h
  ·cases h
theorem z0fb {o:Expr} {m C:Str} {apos pos:Pos} {pl:Sem Bool} {k:Nat} {f:Addr} {F:DF} {fo:DE} (tk:yk X Wx) (c:Cls X.K (He.ga X.K C)) (hm:Meth X.K (He.ga X.K C) m f) (Fo:FnD X.prog X.w X.K X.mg X.base k f F) (hr:RoomG k X.A) (ho:PE X o (tD X.K Wx fo))
  (ht:eval (.Call (.Attribute o m apos) [] [] pos) X.env=(do
    let ov ←eval o X.env
    standAt apos.atName
    let (f,first) ←holding [ov] (getMethod ov m pl)
    callWith pos f first (backTo pos (starEach [] X.env)) (backToKw pos (keywordEach [] X.env))):=by rfl):PE X (.Call (.Attribute o m apos) [] [] pos) (tD X.K Wx (eMeth C m F fo aNil)):=by
 refine⟨fun pins s σ H Q I ⟨H1,al,dl,mm,r,en,p⟩=>?_⟩
 have h2:tD X.K Wx fo σ H fun v H'=>∃a dx fs,v = .ref a∧H' a=some (.ins (He.ga X.K C) dx fs)∧fs.lookup m=none∧spR X.K F [.ref a] H' Q (fun c d H=>Wx c d σ H):=by
  refine⟨H1,al,dl,mm,r,en,p.bind fun x m1 H1' al' H' e pr r' p' v hv=>?_⟩
  split at p'
  ·rename_i hn
   obtain⟨a,dx,fs,rfl,h1,h2⟩:=zq2 r' hv hn
   exact⟨a,dx,fs,rfl,h1,h2,zyi r' (.cons hv .nil) p'⟩
  ·exact p'.elim
 refine ydc (pl:=pl) (thn (ho.run pins s σ H _ I h2) fun u s1 ⟨x,H1,I1,rx,a,dx,fs,ex,ea,l,q⟩=>?_) ht
 subst ex
 obtain rfl:u=Value.ref a:=rx
 refine getmeth_ok I1 ea c hm l ?_
 exact PySem.W.callWith_K0 (first:=[.ref a]) I1.kIn hm.kp (wpAny_call (z71 (us:=[.ref a]) (vs:=[.ref a]) tk Fo hr I1 (.cons rfl .nil) q))
end
def sel {α : Type} (ix:List Nat) (l:List α):List α := ix.filterMap fun i=>l[i]?
theorem Vals.getE {vs:List V} {us:List Value} (h:Vals vs us) (i:Nat):(vs[i]?=none∧us[i]?=none)∨∃v u,vs[i]?=some v∧us[i]?=some u∧RelV v u:=by
 induction h generalizing i with
 |nil=>exact .inl ⟨rfl,rfl⟩
 |cons r t ih=>
  cases i with
  |zero=>exact .inr ⟨_,_,rfl,rfl,r⟩
  |succ i=>exact ih i
theorem Vals.sel {vs:List V} {us:List Value} (h:Vals vs us):∀ix:List Nat,Vals (DL.sel ix vs) (DL.sel ix us)
 |[]=>.nil
 |i::ix=>by
  unfold DL.sel
  rcases Vals.getE h i with ⟨e1,e2⟩ |⟨v,u,e1,e2,r⟩
  ·rw[ydb e1,ydb e2]
   exact Vals.sel h ix
  ·rw[yub e1,yub e2]
   exact .cons r (Vals.sel h ix)
theorem RpWs.getE {K:Fg} {H1:Hp} {al:Gh}:∀{vs:List V} {ws:List W},RpWs K H1 al vs ws→∀i:Nat,(vs[i]?=none∧ws[i]?=none)∨∃v w,vs[i]?=some v∧ws[i]?=some w∧RpW K H1 al v w
 |_,_,.nil,_=>.inl ⟨rfl,rfl⟩
 |_,_,.cons r _,0=>.inr ⟨_,_,rfl,rfl,r⟩
 |_,_,.cons _ t,i+1=>RpWs.getE t i
theorem RpWs.sel {K:Fg} {H1:Hp} {al:Gh} {vs:List V} {ws:List W} (h:RpWs K H1 al vs ws):∀ix:List Nat,RpWs K H1 al (DL.sel ix vs) (DL.sel ix ws)
 |[]=>.nil
 |i::ix=>by
  unfold DL.sel
  rcases RpWs.getE h i with ⟨e1,e2⟩ |⟨v,u,e1,e2,r⟩
  ·rw[ydb e1,ydb e2]
   exact RpWs.sel h ix
  ·rw[yub e1,yub e2]
   exact .cons r (RpWs.sel h ix)
/-- n values are given (by position, then by the keywords in their order); ds: the defaults that fill up; ix: the parameters' order -/
def kwF (n:Nat) (ds:List D) (ix:List Nat) (F:DF):DF:=fun ws m=>if ws.length=n then F (sel ix (ws++ds.map W.d)) m else .no
/-- called with keywords -/
def FnK (P:Program) (w:World) (K:Fg) (mg:Str→Option Value) (base:Heap) (k:Nat) (f:Addr) (ks:List Str) (F:DF):Prop:=
 ∀(A:Around) (outer:List PySem.Env) (s:Shared) (H:Hp) (us ws:List Value) (vs zs:List V) (Q:VK) (E:XK),RoomG k A→Env0 P w K mg base A outer s H→Vals vs us→Vals zs ws→ws.length=ks.length→spR K F (vs++zs) H Q E →
  codeAny (model P w) A (.call (.ref f) ⟨us,ks.zip ws⟩) (CR (L2N.CX P w) outer P w H s Q E) s
section
variable {P:Program} {w:World} {K:Fg} {mg:Str→Option Value} {base:Heap} {x qual:Str} {params:Arguments} {body:List Stmt} {scope:Scope} {f:Addr} {fd:FuncData} {ps:List Str} {k:Nat} {R:DF}
/-- immediate data -/
inductive Imm:V→D→Prop where
 |non:Imm .non .non
 |bl (b:Bool):Imm (.bl b) (.bl b)
inductive Imms:List V→List D→Prop where
 |nil:Imms [] []
 |cons {v:V} {d:D} {vs:List V} {ds:List D}:Imm v d→Imms vs ds→Imms (v::vs) (d::ds)
theorem Imms.rp {H1:Hp} {al:Gh}:∀{vs:List V} {ds:List D},Imms vs ds→RpWs K H1 al vs (ds.map W.d)
 |_,_,.nil=>.nil
 |_,_,.cons h t=>.cons (by cases h with
  |non=>exact (show Rp K H1 V.non D.non from .non)
  |bl b=>exact (show Rp K H1 (V.bl b) (D.bl b) from .bl b)) t.rp
theorem kw_sp {n:Nat} {mz:List V} {ds:List D} {ix:List Nat} {vs:List V} {H:Hp} {Q:VK} {E:XK} (hd:Imms mz ds) (h:spR K (kwF n ds ix (lenF ps.length R)) vs H Q E):vs.length=n∧spD K ps.length R (sel ix (vs++mz)) H Q E:=by
 obtain⟨H1,al,m,ws,rl,hws,p⟩:=h
 unfold kwF at p
 split at p
 ·rename_i hl
  exact⟨by rw[hws.length];exact hl,z16 ⟨H1,al,m,_,rl,(hws.append hd.rp).sel ix,p⟩⟩
 ·exact p.elim
/-- nothing lacks -/
theorem zcjb {kws:List (Str × V)} (F:FunD K x qual params body scope [] kws f fd) (Fo:FnG P w K mg base k f fd ps (spD K ps.length R)) (n:Nat) (ks:List Str) (ix:List Nat)
  (h:∀(kV doc pm:Value) (an:Option Addr) (cdv ct:Value) (us ws:List Value),us.length=n→ws.length=ks.length→bindArgs (y1d x qual params body scope .none kV doc pm an cdv ct) ⟨us,ks.zip ws⟩=pure (ps.zip (sel ix (us++ws)))) :
  FnK P w K mg base k f ks (kwF (n+ks.length) [] ix (lenF ps.length R)):=by
 intro A outer s H us ws vs zs Q E hr e0 r rz lw hs
 obtain⟨hl,q⟩:=kw_sp .nil hs
 rw[ygb] at q
 obtain⟨oc,od,dV,kV,doc,pm,an,cdv,ct,osl,rfl,lk,hcd,hD,hK⟩:=F.ex
 rcases hD with ⟨_,rfl⟩ |⟨e,_⟩
 ·have lu:us.length=n:=by
   rw[yg,r.length,rz.length,lw] at hl
   omega
  exact Fo.go hr e0 (.of_eq (h kV doc pm an cdv ct us ws lu lw)) (Vals.sel (r.append rz) ix) q
 ·exact absurd rfl e
/-- by position, the rest by default -/
theorem FnK.pos {F:DF} (h:FnK P w K mg base k f [] F):FnD P w K mg base k f F:=fun A outer s H us vs Q E hr e0 r hs=>
 h A outer s H us [] vs [] Q E hr e0 r .nil rfl (by rw[ygb];exact hs)
end
theorem pkImp {X:Cx} {e:List Keyword} {t t':TA} (h:PK X e t) (k:∀ σ H Q,t' σ H Q→t σ H Q):PK X e t':=⟨fun pos pins s σ H Q I hw=>h.run pos pins s σ H Q I (k σ H Q hw)⟩
section
variable {X:Cx} {Wx:WX}
theorem zq1:PK X [] (tA X.K Wx aNil):=pkImp pk_nil fun σ H Q ⟨H1,al,dl,m,r,en,p⟩=>p.ok_ r [] .nil
theorem zrv {a:Expr} {nm:Option Str} {kpos:Pos} {kws:List Keyword} {fa:DE} {fr:DA} (ha:PE X a (tD X.K Wx fa)) (hr:PK X kws (tA X.K Wx fr)):PK X (⟨nm,a,kpos⟩::kws) (tA X.K Wx (aCons fa fr)):=
 pkImp (pk_cons ha hr) fun σ H Q ⟨H1,al,dl,m,r,en,p⟩=>⟨H1,al,dl,m,r,en,p.bind fun x m1 H1' al' H' e pr r' p' v hv=>
  ⟨H1',al',dl,m1,r',en.mono e pr,p'.bind fun xs m2 H2' al2 H2 e2 pr2 r2 p2 vs hvs=>p2.ok_ r2 (v::vs) (.cons (hv.mono e2 pr2) hvs)⟩⟩
theorem RpWs.mono' {H1 H2:Hp} {al al2:Gh} (e:Ex H1 H2) (p:Le al al2):∀{vs:List V} {ws:List W},RpWs X.K H1 al vs ws→RpWs X.K H2 al2 vs ws
 |_,_,.nil=>.nil
 |_,_,.cons r t=>.cons (r.mono e p) (RpWs.mono' e p t)
theorem z0hb {k:Nat} {f:Addr} {ks:List Str} {F:DF} {pins:List (Addr × Obj)} {σ : L2.St} {H:Hp} {s:Shared} {Q:VK} {us ws:List Value} {vs zs:List V} (tk:yk X Wx) (Fo:FnK X.prog X.w X.K X.mg X.base k f ks F) (hr:RoomG k X.A) (I:Inv X pins σ H s) (r:Vals vs us) (rz:Vals zs ws) (hl:zs.length=ks.length)
  (h:spR X.K F (vs++zs) H Q (fun c d H=>Wx c d σ H)):wpAny (model X.prog X.w) X.A (call (.ref f) us (ks.zip ws)) (EP X pins σ Q) X.xe s:=by
 refine wpAny_call (codeAny_mono (Fo X.A X.stack s H us ws vs zs Q _ hr I.env0 r rz (rz.length.symm.trans hl) h) fun r s' hq=>?_)
 cases r with
 |error e=>exact yxd tk σ pins H s e s' I hq
 |ok fl=>
  cases fl with
  |ret u=>exact I.after hq
  |next=>exact y7 hq
  |brk=>exact y7 hq
  |cont=>exact y7 hq
theorem z8eb {C m:Str} {nk:Nat} {F:DF} {fo:DE} {g gk:DA} {σ : L2.St} {H:Hp} {Q:VK} (h:tD X.K Wx (zk9 C m nk F fo g gk) σ H Q) :
  tD X.K Wx fo σ H fun v H'=>∃a dx fs,v = .ref a∧H' a=some (.ins (He.ga X.K C) dx fs)∧fs.lookup m=none∧tA X.K Wx g σ H' fun vs H2=>tA X.K Wx gk σ H2 fun zs H3=>zs.length=nk∧spR X.K F ((.ref a::vs)++zs) H3 Q (fun c d H=>Wx c d σ H):=by
 obtain⟨H1,al,dl,mm,r,en,p⟩:=h
 refine⟨H1,al,dl,mm,r,en,p.bind fun x m1 H1' al' H' e pr r' p' v hv=>?_⟩
 split at p'
 ·rename_i hn
  obtain⟨a,dx,fs,rfl,h1,h2⟩:=zq2 r' hv hn
  refine⟨a,dx,fs,rfl,h1,h2,H1',al',dl,m1,r',en.mono e pr,p'.bind fun ws m2 H2 al2 H2' e2 pr2 r2 p2 vs hvs=>?_⟩
  refine⟨H2,al2,dl,m2,r2,(en.mono e pr).mono e2 pr2,p2.bind fun zs m3 H3 al3 H3' e3 pr3 r3 p3 zv hzs=>?_⟩
  split at p3
  ·rename_i hz
   exact⟨by rw[hzs.length];exact hz,zyi r3 (.cons ((hv.mono e2 pr2).mono e3 pr3) ((RpWs.mono' e3 pr3 hvs).append hzs)) p3⟩
  ·exact p3.elim
 ·exact p'.elim
theorem zzfb {o e:Expr} {es:List Expr} {kws:List Keyword} {m C:Str} {apos pos:Pos} {pl:Sem Bool} {k:Nat} {f:Addr} {ks:List Str} {F:DF} {fo:DE} {g gk:DA} (tk:yk X Wx) (c:Cls X.K (He.ga X.K C)) (hm:Meth X.K (He.ga X.K C) m f) (Fo:FnK X.prog X.w X.K X.mg X.base k f ks F) (hr:RoomG k X.A) (ho:PE X o (tD X.K Wx fo)) (ha:PA X (e::es) (tA X.K Wx g)) (hkw:PK X kws (tA X.K Wx gk))
  (hall:(backToKw pos (keywordEach kws X.env)).all (·.1.isSome)=true:=by rfl) (hks:(backToKw pos (keywordEach kws X.env)).filterMap (·.1)=ks:=by rfl) (he:starEach (e::es) X.env=(false,eval e X.env)::starEach es X.env:=by rfl)
  (hpl:((backTo pos (starEach (e::es) X.env)).any (·.1) ||(backToKw pos (keywordEach kws X.env)).any (·.1.isNone))=false:=by rfl)
  (ht:eval (.Call (.Attribute o m apos) (e::es) kws pos) X.env=(do
    let ov ←eval o X.env
    standAt apos.atName
    let (f,first) ←holding [ov] (getMethod ov m pl)
    callWith pos f first (backTo pos (starEach (e::es) X.env)) (backToKw pos (keywordEach kws X.env))):=by rfl):PE X (.Call (.Attribute o m apos) (e::es) kws pos) (tD X.K Wx (zk9 C m ks.length F fo g gk)):=by
 refine⟨fun pins s σ H Q I h=>?_⟩
 refine ydc (pl:=pl) (thn (ho.run pins s σ H _ I (z8eb h)) fun u s1 ⟨x,H1,I1,rx,a,dx,fs,ex,ea,l,q⟩=>?_) ht
 subst ex
 obtain rfl:u=Value.ref a:=rx
 refine getmeth_ok I1 ea c hm l ?_
 refine PySem.W.callWith_KW (first:=[.ref a]) (h₀:=X.base) I.ok.mod.kin hm.kp hall (thn (ha.run pos pins s1 σ H1 _ I1 q) fun us s2 ⟨vs,H2,I2,r,q2⟩=>?_) hpl he
 refine thn (hkw.run pos pins s2 σ H2 _ I2 q2) fun ws s3 ⟨zs,H3,I3,rz,l2,q3⟩=>⟨I3.kIn,?_⟩
 rw[hks]
 exact z0hb (us:=.ref a::us) (vs:=.ref a::vs) tk Fo hr I3 (.cons rfl r) rz l2 q3
end
theorem zn1 {K:Fg} {P:Program} {w:World} {mg:Str→Option Value} {base:Heap} {k:Nat} {C:Str} {ts:List String} {F:DF} (c:fEq C ts K=true) (h:FnD P w K mg base k (He.ma K (He.ga K C) "__eq__") F):EqM P w K mg base k ts C F:=by
 obtain⟨c1,c⟩:=He.ba c
 obtain⟨c2,c⟩:=He.ba c
 obtain⟨c3,c4⟩:=He.ba c
 obtain⟨o1,o2,o3,o4⟩:=z8d c1
 exact⟨⟨_,o1,o2,h⟩,yxc c2,fun T hT=>yxb.mp c4 T hT,z56 c3⟩
section
variable (dl:Env) (m:Mem) (C:Str)
theorem x_kwF (n:Nat) (ds:List D) (ix:List Nat) (F:DF) (ws:List W):kwF n ds ix F ws m=if ws.length=n then F (sel ix (ws++ds.map W.d)) m else .no:=nr rfl
end
theorem zrh {P:Str × DF→Prop}:∀q∈([]:Tbl),P q:=fun _ z=>nomatch z
theorem zcd {P:Str × DF→Prop} {a:Str × DF} {l:Tbl} (h:P a) (t:∀q∈l,P q):∀q∈a::l,P q:=fun q hq=>by
 rcases yo.mp hq with e |e
 ·rw[e];exact h
 ·exact t q e
section
variable {X:Cx} {Wx:WX}
theorem zdbb {k:Nat} {f:Addr} {C:Str} {F:DF} {ks:List Str} {pins:List (Addr × Obj)} {σ : L2.St} {H:Hp} {s:Shared} {Q:VK} {us kus:List Value} {vs kvs:List V} {ws:List W} {H1:Hp} {al:Gh} {m:Mem} (tk:yk X Wx) (M:Mk X.K (He.ga X.K C) f) (Fo:FnK X.prog X.w X.K X.mg X.base k f ks F) (hr:RoomG (k+1) X.A) (I:Inv X pins σ H s) (r:Vals vs us) (rk:Vals kvs kus) (hkl:kvs.length=ks.length)
  (rl:Rel X.K H1 H al m) (hws:RpWs X.K H1 al (vs++kvs) ws) (p:Post X.K H1 al σ Wx (GV X.K Q) (makeW C F ws m)):wpAny (model X.prog X.w) X.A (call (.ref (He.ga X.K C)) us (ks.zip kus)) (EP X pins σ Q) X.xe s:=by
 have hx:H (s.heap.objs.size+1)=none:=I.hok.fresh (Nat.le_succ _)
 have hdx:H s.heap.objs.size=none:=I.hok.fresh (yp _)
 have hne:s.heap.objs.size≠s.heap.objs.size+1:=y0d (ysd _)
 have I2:=Inv.made (C:=He.ga X.K C) I
 have r2:Vals (V.ref (s.heap.objs.size+1)::vs) (Value.ref (s.heap.objs.size+1)::us):=.cons rfl r
 have g1:=rl.grow (ylb (o:=.own (s.heap.objs.size+1)) hdx)
 have hx2:(upd H s.heap.objs.size (.own (s.heap.objs.size+1))) (s.heap.objs.size+1)=none:=by rw[upd_ne (Ne.symm hne)];exact hx
 have g2:Rel X.K H1 (upd (upd H s.heap.objs.size (.own (s.heap.objs.size+1))) (s.heap.objs.size+1) (.ins (He.ga X.K C) s.heap.objs.size [])) (al.push (s.heap.objs.size+1)) (m++[.obj C [] []]):=
  g1.cell hx2 ⟨s.heap.objs.size,[],upd_same,rfl,.nil⟩
 have le:Le al (al.push (s.heap.objs.size+1)):=Le.push _ _
 have hq:spR X.K F (V.ref (s.heap.objs.size+1)::vs++kvs) (upd (upd H s.heap.objs.size (.own (s.heap.objs.size+1))) (s.heap.objs.size+1) (.ins (He.ga X.K C) s.heap.objs.size [])) (fun v H2=>v = .non∧Q (.ref (s.heap.objs.size+1)) H2) (fun c d H=>Wx c d σ H):=by
  refine⟨H1,_,_,.c m.length::ws,g2,.cons ⟨_,?_,rfl⟩ (hws.mono (Ex.refl _) le),?_⟩
  ·show (al.al.fl++[s.heap.objs.size+1])[m.length]?=_
   rw[←rl.len,yf (yp _),yib] <;> rfl
  ·unfold makeW at p
   cases hF:F (.c m.length::ws) (m++[.obj C [] []]) with
   |no=>rw[hF] at p;exact p.elim
   |exc C' f' p' m'=>
    rw[hF] at p
    intro Ha aa Hb v dx e1 l1 e2 e3 e4
    exact p Ha aa Hb v dx e1 (le.trans l1) e2 e3 e4
   |ok w' m'=>
    rw[hF] at p
    intro Ha aa Hb v e1 l1 e2 e3
    have p2:Post X.K H1 al σ Wx (GV X.K Q) (madeW m.length w' m'):=p
    clear p hF
    unfold madeW at p2
    split at p2
    ·cases (show Rp X.K Ha v .non from e3)
     refine⟨rfl,?_⟩
     split at p2
     ·rename_i C2 ns ds hc
      have hk:(al.push (s.heap.objs.size+1)).al.fl[m.length]?=some (s.heap.objs.size+1):=by
       show (al.al.fl++[s.heap.objs.size+1])[m.length]?=_
       rw[←rl.len,yf (yp _),yib] <;> rfl
      obtain⟨H3,e5,r5,q5⟩:=e2.freeze (le.trans l1) rl.pos (zsbb l1 hk) (by rw[rl.len];exact yp _) hc
      rw[rl.len] at r5
      exact p2 H3 (al.up _) Hb (e1.trans e5) (le.trans l1).up r5 _ q5
     ·exact p2.elim
    ·exact p2.elim
 refine wpAny_call (make_map (f:=f) I.kIn M.makes M.init (beq_iff_eq.mp M.fn) (codeAny_mono (Fo _ X.stack _ _ (Value.ref (s.heap.objs.size+1)::us) kus (V.ref (s.heap.objs.size+1)::vs) kvs _ _ (hr.make _ us (ks.zip kus)) (I2.env0.make _ us (ks.zip kus)) r2 rk (rk.length.symm.trans hkl) hq) fun r s' hq'=>?_))
 cases r with
 |error e=>exact yxd tk σ pins _ _ e s' I2 hq'
 |ok fl=>
  cases fl with
  |ret u=>
   obtain⟨v,H',I3,rv,ev,q3⟩:=I2.after hq'
   subst ev
   exact⟨rv,⟨V.ref (s.heap.objs.size+1),H',I3,rfl,q3⟩⟩
  |next=>exact y7 hq'
  |brk=>exact y7 hq'
  |cont=>exact y7 hq'
theorem z8kb {C:Str} {nk:Nat} {F:DF} {fo:DE} {g gk:DA} {σ : L2.St} {H:Hp} {Q:VK} (h:tD X.K Wx (eMkK C nk F fo g gk) σ H Q) :
  tD X.K Wx fo σ H fun v H'=>v = .ref (He.ga X.K C)∧tA X.K Wx g σ H' fun vs H2=>tA X.K Wx gk σ H2 fun zs H3=>zs.length=nk∧∃H1 al m ws,Rel X.K H1 H3 al m∧RpWs X.K H1 al (vs++zs) ws∧Post X.K H1 al σ Wx (GV X.K Q) (makeW C F ws m):=by
 obtain⟨H1,al,dl,mm,r,en,p⟩:=h
 refine⟨H1,al,dl,mm,r,en,p.bind fun x m1 H1' al' H' e pr r' p' v hv=>?_⟩
 split at p'
 ·rename_i C'
  split at p'
  ·rename_i e0
   subst e0
   cases (show Rp X.K H1' v (.cls C') from hv)
   refine⟨rfl,H1',al',dl,m1,r',en.mono e pr,p'.bind fun ws m2 H2 al2 H2' e2 pr2 r2 p2 vs hvs=>?_⟩
   refine⟨H2,al2,dl,m2,r2,(en.mono e pr).mono e2 pr2,p2.bind fun zs m3 H3 al3 H3' e3 pr3 r3 p3 zv hzs=>?_⟩
   split at p3
   ·rename_i hz
    exact⟨by rw[hzs.length];exact hz,H3,al3,m3,_,r3,(RpWs.mono' e3 pr3 hvs).append hzs,p3⟩
   ·exact p3.elim
  ·exact p'.elim
 ·exact p'.elim
theorem zw5 {fe e:Expr} {es:List Expr} {kws:List Keyword} {C:Str} {pos:Pos} {k:Nat} {f:Addr} {ks:List Str} {F:DF} {ff:DE} {g gk:DA} (tk:yk X Wx) (M:Mk X.K (He.ga X.K C) f) (Fo:FnK X.prog X.w X.K X.mg X.base k f ks F) (hr:RoomG (k+1) X.A) (hf:PE X fe (tD X.K Wx ff)) (ha:PA X (e::es) (tA X.K Wx g)) (hkw:PK X kws (tA X.K Wx gk))
  (ht:eval (.Call fe (e::es) kws pos) X.env=(do callWith pos (←eval fe X.env) [] (backTo pos (starEach (e::es) X.env)) (backToKw pos (keywordEach kws X.env))):=by rfl)
  (hall:(backToKw pos (keywordEach kws X.env)).all (·.1.isSome)=true:=by rfl) (hks:(backToKw pos (keywordEach kws X.env)).filterMap (·.1)=ks:=by rfl)
  (he:starEach (e::es) X.env=(false,eval e X.env)::starEach es X.env:=by rfl) (hpl:((backTo pos (starEach (e::es) X.env)).any (·.1) ||(backToKw pos (keywordEach kws X.env)).any (·.1.isNone))=false:=by rfl):PE X (.Call fe (e::es) kws pos) (tD X.K Wx (eMkK C ks.length F ff g gk)):=by
 refine⟨fun pins s σ H Q I h=>?_⟩
 rw[ht]
 refine wpAny_bind (thn (hf.run pins s σ H _ I (z8kb h)) fun u s1 ⟨y,H1,I1,ry,ey,q⟩=>?_)
 subst ey
 obtain rfl:u=Value.ref (He.ga X.K C):=ry
 refine PySem.W.callWith_KW (first:=[]) (h₀:=X.base) I.ok.mod.kin M.kp hall (thn (ha.run pos pins s1 σ H1 _ I1 q) fun us s2 ⟨vs,H2,I2,rv,q2⟩=>?_) hpl he
 refine thn (hkw.run pos pins s2 σ H2 _ I2 q2) fun kus s3 ⟨kvs,H3,I3,rk,hl,Ha,al,m,ws,rl,hws,p⟩=>⟨I3.kIn,?_⟩
 rw[hks]
 exact zdbb tk M Fo hr I3 rv rk hl rl hws p
end
/-- .. as a thing of the heap -/
theorem Rel.pinHeap {K:Fg} {H1 H:Hp} {m:Mem} {pn:List (Addr × HO)} {aa:AA} {p:Addr} {vs:List V} {ws:List HW} (r:Rel K H1 H ⟨aa,(p,.lst vs)::pn⟩ m) (h:RpHs K H1 aa.ha vs ws):Rel K H1 H ⟨aa.hpush p,pn⟩ (hset m (heapOf m++[.lst ws])):=by
 obtain⟨p1,p2,p3⟩:=r.b.pin (p,.lst vs) yb
 have nd:(p::pn.map (·.1)).Nodup:=r.b.pnd
 have hp4:p ∉ aa.ha:=r.hpin (p,.lst vs) yb
 obtain⟨e1,e2⟩:=zes r.hp (heapOf m++[.lst ws])
 have b0:Rel0 K H1 H (⟨aa.fl,pn⟩:Gh0) m:=⟨r.ex,r.len,r.nd,r.fr,r.cells,fun q hq=>r.b.pin q (yd _ hq),r.hp,r.b.only,(ywc.mp nd).2⟩
 have b:Rel0 K H1 H (⟨aa.fl,pn⟩:Gh0) (hset m (heapOf m++[.lst ws])):=by
  obtain⟨h0,rest,rfl⟩:=r.hp
  refine⟨b0.ex,b0.len,b0.nd,fun k a c h1 h2 hl=>?_,fun k a c h1 h2=>?_,b0.pin,⟨_,_,rfl⟩,fun k hs' h=>?_,b0.pnd⟩
  ·cases k with
   |zero=>cases h2;cases hl
   |succ k=>exact b0.fr (k+1) a c h1 h2 hl
  ·cases k with
   |zero=>
    cases h2
    trivial
   |succ k=>exact b0.cells (k+1) a c h1 h2
  ·cases k with
   |zero=>rfl
   |succ k=>exact b0.only (k+1) hs' h
 have hl:aa.ha.length=(heapOf m).length:=r.hlen
 refine⟨b,fun q hq=>?_,?_,z5u r.hnd hp4,fun a h=>?_,fun i a h h1 h2=>?_⟩
 ·intro z
  rcases yz.mp (show q.1∈aa.ha++[p] from z) with z |z
  ·exact r.hpin q (yd _ hq) z
  ·exact (ywc.mp nd).1 (by rw[←yj.mp z];exact List.mem_map_of_mem hq)
 ·rw[e1]
  show (aa.ha++[p]).length=_
  rw[yg,yg,hl] <;> rfl
 ·rcases yz.mp (show a∈aa.ha++[p] from h) with z |z
  ·exact r.hfr a z
  ·rw[yj.mp z]
   exact⟨p2,p3⟩
 ·rw[e1] at h2
  replace h1:(aa.ha++[p])[i]?=some a:=h1
  show HAt K H1 (aa.ha++[p]) H a h
  by_cases hk:i<aa.ha.length
  ·rw[yl hk] at h1
   rw[yl (by rw[←hl];exact hk)] at h2
   exact (r.hcells i a h h1 h2).mono (Ex.refl _) ⟨[p],rfl⟩ fun u hu=>hu
  ·rw[yf (yac hk)] at h1
   rw[yf (by rw[←hl];exact yac hk)] at h2
   have e:i-aa.ha.length=0:=by
    have q:=(yc.mp h1).1
    simp at q
    omega
   rw[e] at h1
   rw[←hl,e] at h2
   simp at h1 h2
   subst h1 h2
   exact⟨vs,p1,h.mono (Ex.refl _) ⟨[p],rfl⟩⟩
theorem z63 {K:Fg} {a:Addr} (n:Nat):Walk (Itl K a) n (fun H=>∃xs,SqL K H a xs∧xs.length=n) (fun i H x H'=>H'=H∧∀xs,SqL K H a xs→xs[i]?=some x):=
 ⟨fun i _ hi ⟨xs,q,hl⟩=>⟨xs,xs[i],q,by simp[hl,hi]⟩,fun _ ⟨xs,q,hl⟩=>⟨xs,q,by omega⟩,fun _ _ _ _ _ _ y=>y⟩
def isB:W→Bool
 |.d .non |.d (.bl _) |.d (.int _) |.d (.str _) |.d (.lst _) |.d (.tup _)=>true
 |_=>false
theorem hw_ok {K:Fg} {H1:Hp} {al:Gh} {v:V}:∀{w:W} {h:HW},RpW K H1 al v w→w.hw=some h→RpH K H1 al.al.ha v h
 |.d _,_,r,e=>by cases e;exact r
 |.h _,_,r,e=>by cases e;exact r
 |.c _,_,_,e=>by cases e
 |.ex _ _ _ _ _,_,_,e=>by cases e
theorem zyx {K:Fg} {H1:Hp} {al:Gh}:∀{vs:List V} {ws:List W} {hs:List HW},RpWs K H1 al vs ws→hwAll ws=some hs→RpHs K H1 al.al.ha vs hs
 |_,_,_,.nil,e=>by cases e;exact .nil
 |_,_,hs,.cons (w:=w) (ws:=ws) h t,e=>by
  unfold hwAll at e
  cases h1:w.hw with
  |none=>rw[h1] at e;cases e
  |some x=>
   rw[h1] at e
   cases h2:hwAll ws with
   |none=>rw[h2] at e;cases e
   |some xs=>
    rw[h2] at e
    cases e
    exact .cons (hw_ok h h1) (zyx t h2)
section
variable {X:Cx} {Wx:WX}
theorem ztt {al:Gh} {m:Mem} {q:Addr} (h:al.al.ha.length=(heapOf m).length):(al.hpush q).al.ha[(heapOf m).length]?=some q:=by
 show (al.al.ha++[q])[(heapOf m).length]?=some q
 rw[←h,yf (yp _),yib] <;> rfl
theorem zk3 {es:List Expr} {pos:Pos} {f:DA} (h:PA X es (tA X.K Wx f)):PE X (.List es pos) (tD X.K Wx (eLstH f)):=
 peImp (pe_lst h) fun σ H Q hq=>zem (R:=fun vs H Q=>vs.length≤sizeLine∧∀p,H p=none→Q (.ref p) (upd H p (.lst vs))) hq fun H1 H al m xs vs r hvs p=>by
  unfold zjw at p
  split at p
  ·rename_i ys hy
   have h2:=zyx hvs hy
   split at p
   ·rename_i hl
    refine⟨by rw[h2.length];exact hl,fun q hq=>?_⟩
    exact p H1 (al.hpush q) _ (Ex.refl _) (Le.hpush _ _) (r.hnew hq ⟨vs,upd_same,h2.mono (Ex.refl _) ⟨[q],rfl⟩⟩) _ ⟨q,ztt r.hlen,rfl⟩
   ·exact p.elim
  ·exact p.elim
theorem zodb {K:Fg} {H1:Hp} {ha:List Addr}:∀{vs:List V} {ws:List HW} {ds:List D},RpHs K H1 ha vs ws→datH ws=some ds→RpL K H1 vs ds
 |_,_,_,.nil,e=>by cases e;exact .nil
 |_,_,_,.cons (w:=.h i) _ _,e=>by cases e
 |_,_,ds,.cons (w:=.d x) (ws:=ws) h t,e=>by
  unfold datH at e
  cases h2:datH ws with
  |none=>rw[h2] at e;cases e
  |some xs=>
   rw[h2] at e
   cases e
   exact .cons h (zodb t h2)
theorem zg1 {K:Fg} {H1 H:Hp} {al:Gh} {m:Mem} (r:Rel K H1 H al m) {v:V} {w:W} {l:Loc} {ws:List HW} (hv:RpW K H1 al v w) (hl:w.loc=some l) (hg:l.get m=some ws) :
  ∃a vs,v = .ref a∧H a=some (.lst vs)∧RpHs K H1 al.al.ha vs ws∧∀vs' ws' m',RpHs K H1 al.al.ha vs' ws'→l.put ws' m=some m'→Rel K H1 (upd H a (.lst vs')) al m':=by
 cases w with
 |d _=>cases hl
 |ex _ _ _ _ _=>cases hl
 |c k=>
  cases hl
  obtain⟨a,ha,rfl⟩:=hv
  unfold Loc.get at hg
  dsimp only at hg
  split at hg
  ·rename_i ds hds
   cases hg
   obtain⟨vs,h5,h6⟩:=r.cells k a _ ha hds
   refine⟨a,vs,rfl,h5,RpHs.ofD h6,fun vs' ws' m' h7 h8=>?_⟩
   unfold Loc.put at h8
   dsimp only at h8
   split at h8
   ·rename_i es hes
    cases h8
    exact r.put (c:=.lst es) ha hds rfl ⟨_,upd_same,zodb h7 hes⟩
   ·cases h8
  ·cases hg
 |h i=>
  cases hl
  obtain⟨a,ha,rfl⟩:=hv
  unfold Loc.get at hg
  dsimp only at hg
  split at hg
  ·rename_i us hus
   cases hg
   obtain⟨vs,h5,h6⟩:=r.hcells i a _ ha hus
   refine⟨a,vs,rfl,h5,h6,fun vs' ws' m' h7 h8=>?_⟩
   cases h8
   exact r.hput ha ⟨_,upd_same,h7⟩
  ·cases hg
theorem z51 {K:Fg} {H1 H:Hp} {al:Gh} {m m':Mem} (r:Rel K H1 H al m) {y o i:W} {yv ov iv:V} (hy:RpW K H1 al yv y) (ho:RpW K H1 al ov o) (hi:RpW K H1 al iv i) (h:setLW y o i m=some m') :
  ∃a vs j n,ov = .ref a∧iv = .int j∧H a=some (.lst vs)∧ixN vs.length j=some n∧Rel K H1 (upd H a (.lst (vs.set n yv))) al m':=by
 unfold setLW at h
 split at h
 ·rename_i l hw j hl hh
  split at h
  ·rename_i ws hws
   split at h
   ·rename_i n hn
    obtain⟨a,vs,rfl,h1,h2,h3⟩:=zg1 r ho hl hws
    cases (show Rp K H1 iv (.int j) from hi)
    exact⟨a,vs,j,n,rfl,rfl,h1,by rw[h2.length];exact hn,h3 _ _ _ (h2.set (hw_ok hy hh) n) h⟩
   ·cases h
  ·cases h
 ·cases h
theorem zm7 {o i e:Expr} {pos1 pos:Pos} {fo fi fe:DE} (he:PE X e (tD X.K Wx fe)) (ho:PE X o (tD X.K Wx fo)) (hi:PE X i (tD X.K Wx fi))
  (ha:∀v,assign (.Subscript o i pos1) X.env v=(do
    let ov ←holding [v] (eval o X.env)
    let iv ←holding [v,ov] (eval i X.env)
    standAt pos1
    holding [v,ov,iv] (setItem ov iv v)
    release [v,ov,iv] []):=by intro _;rfl)
  (hs:swapsWithSole [.Subscript o i pos1] e pos.line X.env=pure false:=by rfl) (hw:swappedStores [.Subscript o i pos1] e X.env=pure none:=by rfl)
  (h1:(assignEach [.Subscript o i pos1] X.env).map (·.2)=[assign (.Subscript o i pos1) X.env]:=by rfl):PS X (.Assign [.Subscript o i pos1] e pos) (tS X.K Wx (sSetL fe fo fi)):=
 psImp (ps_asg he (pg_sub ho hi set_list ha) hs hw h1) fun En σ H ⟨H1,al,dl,m,r,en,p⟩=>by
  refine⟨H1,al,dl,m,r,en,p.of en fun y m1 H1' al' H' e1 l1 r1 p1 v hv=>?_⟩
  have en1:=en.mono e1 l1
  refine⟨H1',al',dl,m1,r1,en1,p1.of en1 fun o m2 H2 al2 H2' e2 l2 r2 p2 ov hov=>?_⟩
  have en2:=en1.mono e2 l2
  refine⟨H2,al2,dl,m2,r2,en2,p2.of en2 fun i m3 H3 al3 H3' e3 l3 r3 p3 iv hiv=>?_⟩
  have en3:=en2.mono e3 l3
  have hv3:=(hv.mono e2 l2).mono e3 l3
  have ho3:=hov.mono e3 l3
  cases hs:setLW y o i m3 with
  |none=>rw[hs] at p3;exact p3.elim
  |some m4=>
   rw[hs] at p3
   obtain⟨a,vs,j,n,rfl,rfl,h5,h6,h7⟩:=z51 r3 hv3 ho3 hiv hs
   exact⟨a,vs,j,n,rfl,rfl,h5,h6,p3.nx_ h7 en3⟩
theorem zujb {o e:Expr} {es:List Expr} {apos cpos:Pos} {fo:DE} {f:DA} (ho:PE X o (tD X.K Wx fo)) (ha:PA X (e::es) (tA X.K Wx f))
  (hbase:attributeBase o "append" X.env (eval o X.env)=eval o X.env:=by rfl)
  (hfew:((backTo cpos (starEach (e::es) X.env)).all (fun x => !x.1)&&(backToKw cpos (keywordEach [] X.env)).all (fun x=>x.1.isSome)
    && decide ((e::es).length+([]:List Keyword).length+(if ([]:List Keyword).isEmpty then 0 else 1)<30))=true:=by rfl)
  (hline:(apos.endLine==cpos.line)=true:=by rfl) (hs:starEach (e::es) X.env=(false,eval e X.env)::starEach es X.env:=by rfl) (hplain:(backTo cpos (starEach es X.env)).any (·.1)=false:=by rfl) :
  PE X (.Call (.Attribute o "append" apos) (e::es) [] cpos) (tD X.K Wx (eAppL fo f)):=by
 refine peImp (pe_bm ync PySem.F.slot_list_append PySem.F.type_list_append mt_append ho ha hbase hfew hline hs hplain) fun σ H Q ⟨H1,al,dl,m,rl,en,p⟩=>?_
 refine⟨H1,al,dl,m,rl,en,p.bind fun x m1 H1' al' H' e pr r' p' v hv=>?_⟩
 split at p'
 ·rename_i ht
  refine⟨z73 r' hv ht,H1',al',dl,m1,r',en.mono e pr,p'.bind fun ws m2 H2 al2 H2' e2 pr2 r2 p2 vs hvs=>?_⟩
  have hv2:=hv.mono e2 pr2
  unfold appLW at p2
  split at p2
  ·rename_i l h hl hh
   split at p2
   ·rename_i us hus
    split at p2
    ·rename_i hz
     split at p2
     ·rename_i m' hm'
      obtain⟨a,zs,rfl,h1,h2,h3⟩:=zg1 r2 hv2 hl hus
      have h4:=zyx hvs hh
      cases h4 with
      | @cons y ys _ _ hy hys=>
        cases hys
        exact⟨a,zs,y,rfl,rfl,h1,by rw[h2.length];exact hz,p2 H2 al2 _ (Ex.refl _) (z2b _) (h3 _ _ _ (h2.append (.cons hy .nil)) hm') _ .non⟩
     ·exact p2.elim
    ·exact p2.elim
   ·exact p2.elim
  ·exact p2.elim
 ·exact p'.elim
theorem zqjb {o:Expr} {apos cpos:Pos} {fo:DE} (ho:PE X o (tD X.K Wx fo)) (hbase:attributeBase o "pop" X.env (eval o X.env)=eval o X.env:=by rfl) (hline:(apos.endLine==cpos.line)=true:=by rfl):PE X (.Call (.Attribute o "pop" apos) [] [] cpos) (tD X.K Wx (ePopL fo)):=by
 refine peImp (pe_bm0 ync PySem.F.slot_list_pop PySem.F.type_list_pop mt_pop ho hbase hline) fun σ H Q ⟨H1,al,dl,m,rl,en,p⟩=>?_
 refine⟨H1,al,dl,m,rl,en,p.bind fun x m1 H1' al' H' e pr r' p' v hv=>?_⟩
 split at p'
 ·rename_i ht
  refine⟨z73 r' hv ht,?_⟩
  unfold popLW at p'
  split at p'
  ·rename_i l hl
   split at p'
   ·rename_i us hus
    split at p'
    ·rename_i h hh
     split at p'
     ·rename_i m' hm'
      obtain⟨a,zs,rfl,h1,h2,h3⟩:=zg1 r' hv hl hus
      obtain⟨u,h7,h8⟩:=h2.get hh
      exact⟨a,zs,u,rfl,rfl,h1,by rw[h2.length];exact h7,p' H1' al' _ (Ex.refl _) (z2b _) (h3 _ _ _ h2.dropLast hm') _ h8.w⟩
     ·exact p'.elim
    ·exact p'.elim
   ·exact p'.elim
  ·exact p'.elim
 ·exact p'.elim
theorem zyfb {o e:Expr} {es:List Expr} {apos cpos:Pos} {fo:DE} {f:DA} (ho:PE X o (tD X.K Wx fo)) (ha:PA X (e::es) (tA X.K Wx f))
  (hbase:attributeBase o "pop" X.env (eval o X.env)=eval o X.env:=by rfl)
  (hfew:((backTo cpos (starEach (e::es) X.env)).all (fun x => !x.1)&&(backToKw cpos (keywordEach [] X.env)).all (fun x=>x.1.isSome)
    && decide ((e::es).length+([]:List Keyword).length+(if ([]:List Keyword).isEmpty then 0 else 1)<30))=true:=by rfl)
  (hline:(apos.endLine==cpos.line)=true:=by rfl) (hs:starEach (e::es) X.env=(false,eval e X.env)::starEach es X.env:=by rfl) (hplain:(backTo cpos (starEach es X.env)).any (·.1)=false:=by rfl) :
  PE X (.Call (.Attribute o "pop" apos) (e::es) [] cpos) (tD X.K Wx (zt5 fo f)):=by
 refine peImp (pe_bm ync PySem.F.slot_list_pop PySem.F.type_list_pop mt_popAt ho ha hbase hfew hline hs hplain) fun σ H Q ⟨H1,al,dl,m,rl,en,p⟩=>?_
 refine⟨H1,al,dl,m,rl,en,p.bind fun x m1 H1' al' H' e pr r' p' v hv=>?_⟩
 split at p'
 ·rename_i ht
  refine⟨z73 r' hv ht,H1',al',dl,m1,r',en.mono e pr,p'.bind fun ws m2 H2 al2 H2' e2 pr2 r2 p2 vs hvs=>?_⟩
  have hv2:=hv.mono e2 pr2
  unfold zh4 at p2
  split at p2
  ·rename_i l i hl
   split at p2
   ·rename_i us hus
    split at p2
    ·rename_i hi
     split at p2
     ·rename_i k hk
      split at p2
      ·rename_i h hh
       split at p2
       ·rename_i m' hm'
        obtain⟨a,zs,rfl,h1,h2,h3⟩:=zg1 r2 hv2 hl hus
        obtain⟨u,h7,h8⟩:=h2.get hh
        cases hvs with
        | @cons y ys _ _ hy hys=>
          cases hys
          cases (show Rp X.K H2 y (.int i) from hy)
          exact⟨a,zs,i,k,u,rfl,rfl,h1,hi.1,hi.2,by rw[h2.length];exact hk,h7,p2 H2 al2 _ (Ex.refl _) (z2b _) (h3 _ _ _ (h2.eraseIdx k) hm') _ h8.w⟩
       ·exact p2.elim
      ·exact p2.elim
     ·exact p2.elim
    ·exact p2.elim
   ·exact p2.elim
  ·exact p2.elim
 ·exact p'.elim
end
section
variable {X:Cx} {Wx:WX} {e:Expr} {pos:Pos} {fe:DE}
theorem zzgb {g:DG} {t:DT} {fe:DE} {fi:DI} {is vs:List Nat} (his:∀i∈is,i∈vs) {σ : L2.St} {H:Hp} {Q:VK} (h:tD X.K Wx (eLcH fi g t fe vs) σ H Q):tLc (tI X.K Wx fi) (tG X.K is g) (tT X.K W0 t) (tD X.K W0 fe) vs σ H Q:=by
 obtain⟨H1,al,dl,m,r,en,p⟩:=h
 refine⟨H1,al,dl,m,r,en,p.bind fun items m1 H1' al' H' e pr r' p' J y Dd hD=>?_⟩
 obtain⟨G,Y,wk,hG,hY⟩:=y
 have en1:RpE X.K H1' al' σ dl:=en.mono e pr
 refine lc_it wk (fun i Hc=>∃Ha aa ma acc vacc,Ex H1' Ha∧AA.le al'.al aa∧Rel X.K Ha Hc ⟨aa,(Dd,.lst vacc)::al'.pn⟩ ma∧RpHs X.K Ha aa.ha vacc acc∧Post X.K Ha ⟨aa,al'.pn⟩ σ Wx (GV X.K Q) ((compH g t fe (wipeD dl vs) (items.drop i) acc ma).bind fun acc m2=>newH (.lst acc) m2))
  ⟨H1',al'.al,m1,[],[],Ex.refl _,AA.refl _,r'.pinNew hD,.nil,p'⟩ (fun i Hc _ ⟨Ha,aa,ma,acc,vacc,ea,_,ra,_⟩=>hG Hc (ea.trans ra.ex)) (fun i x Hc Hx hi ⟨Ha,aa,ma,acc,vacc,ea,la,ra,hva,pa⟩ hy=>?_) (fun Hc ⟨Ha,aa,ma,acc,vacc,ea,la,ra,hva,pa⟩=>?_)
 ·obtain⟨Hb,d,eb,rb,hd,hx⟩:=hY i Hc x Hx hi hy Ha _ ma ea ra
  have pb:=Post.mono eb (z2b _) pa
  have ed:items.drop i=d::items.drop (i+1):=by
   rw[yhc hi]
   rw[yt hi] at hd
   rw[ynb hd]
  rw[ed] at pb
  unfold compH at pb
  cases h1:g (.d d) (wipeD dl vs) with
  |none=>rw[h1] at pb;exact pb.elim
  |some dl1=>
   rw[h1] at pb
   dsimp only at pb
   refine⟨Hb,_,wipeD dl vs,ma,.d d,dl1,rb,(en1.wipe vs).monoP (ea.trans eb) la,hx,h1,fun σ' en' b'=>⟨z01 his b',Hb,_,dl1,ma,rb,en',?_⟩⟩
   cases h2:t dl1 ma with
   |exc _ _ _ _=>rw[h2] at pb;exact pb.elim
   |no=>rw[h2] at pb;exact pb.elim
   |ok b m2=>
    rw[h2] at pb
    dsimp only at pb
    intro H2 a2 Hz e2 l2 r2
    have g2:a2=⟨a2.al,(Dd,.lst vacc)::al'.pn⟩:=by
     have:=l2.pn
     cases a2
     simp only at this
     rw[this]
    have lp:Le ⟨aa,al'.pn⟩ ⟨a2.al,al'.pn⟩:=⟨l2.pre,rfl⟩
    have pb2:=Post.mono e2 lp pb
    cases b with
    |false=>
     unfold GT
     dsimp only
     try rw[if_neg y4]
     refine⟨H2,a2.al,m2,acc,vacc,(ea.trans eb).trans e2,la.trans l2.pre,by rw[←g2];exact r2,(hva.mono eb (ycb _)).mono e2 l2.pre.hpre,pb2⟩
    |true=>
     unfold GT
     dsimp only
     try rw[if_pos rfl]
     refine⟨H2,a2,dl1,m2,r2,en'.mono e2 l2,?_⟩
     dsimp only at pb2
     cases h3:fe dl1 m2 with
     |exc _ _ _ _=>rw[h3] at pb2;exact pb2.elim
     |no=>rw[h3] at pb2;exact pb2.elim
     |ok w m3=>
      rw[h3] at pb2
      dsimp only at pb2
      cases hy:w.hw with
      |none=>rw[hy] at pb2;exact pb2.elim
      |some y=>
       rw[hy] at pb2
       dsimp only at pb2
       intro H3 a3 Hw e3 l3 r3 v hv
       have g3:a3=⟨a3.al,(Dd,.lst vacc)::al'.pn⟩:=by
        have h5:=l3.pn
        rw[g2] at h5
        cases a3
        simp only at h5
        rw[h5]
       rw[g3] at r3
       have pn1:=(r3.b.pin (Dd,.lst vacc) yb).1
       have hva3:=((hva.mono eb (ycb _)).mono e2 l2.pre.hpre).mono e3 l3.pre.hpre
       by_cases hz:acc.length<sizeLine
       ·rw[if_pos hz] at pb2
        refine⟨vacc,pn1,by rw[hva.length];exact hz,H3,a3.al,m3,acc++[y],vacc++[v],((ea.trans eb).trans e2).trans e3,(la.trans l2.pre).trans l3.pre,r3.pinPut,hva3.append (.cons (hw_ok hv hy) .nil),Post.mono e3 (show Le ⟨a2.al,al'.pn⟩ ⟨a3.al,al'.pn⟩ from ⟨l3.pre,rfl⟩) pb2⟩
       ·rw[if_neg hz] at pb2
        exact pb2.elim
 ·rw[List.drop_length] at pa
  have r1:=ra.pinHeap hva
  refine pa Ha ⟨aa.hpush Dd,al'.pn⟩ _ (Ex.refl _) (Le.hpush ⟨aa,al'.pn⟩ Dd) r1 _ ⟨Dd,?_,rfl⟩
  show (aa.ha++[Dd])[(heapOf ma).length]?=some Dd
  have hlen:aa.ha.length=(heapOf ma).length:=ra.hlen
  rw[←hlen,yf (yp _),yib] <;> rfl
theorem z8lb {tg iter:Expr} {ifs:List Expr} {scope:Scope} {own:List (Str × Nat)} {is:List Nat} {fi:DI} {g:DG} {t:DT} (hc:X.calm=true) (hN:X.N.Nodup) (hi:PI X tg iter (tI X.K Wx fi)) (ok:BlkOk X.N X.env.scope scope own)
  (hg:∀(s:Shared) (H:Hp) (C:Addr) (cl:List (Str × Addr)) (fp:List Addr),PG (X.blk s H scope (compEnvC scope cl C X.env) fp) tg (tG X.K is g)) (ht:∀(s:Shared) (H:Hp) (C:Addr) (cl:List (Str × Addr)) (fp:List Addr),PTs (X.blk s H scope (compEnvC scope cl C X.env) fp) ifs (tT X.K W0 t))
  (he:∀(s:Shared) (H:Hp) (C:Addr) (cl:List (Str × Addr)) (fp:List Addr),PE (X.blk s H scope (compEnvC scope cl C X.env) fp) e (tD X.K W0 fe)) (his:∀i∈is,i∈own.map (·.2)) (hs:∀x,foldedSetIterable iter X.env x=pure x:=by intro _;rfl) :
  PE X (.ListComp e [⟨tg,iter,ifs,0⟩] scope pos) (tD X.K Wx (eLcH fi g t fe (own.map (·.2)))):=peImp (pe_lc hc hN hi ok hg ht he hs) fun σ H Q h=>zzgb his h
theorem zu5 {i:Nat} {y:Str} {py:Pos} {tg iter:Expr} {ifs:List Expr} {scope:Scope} {own:List (Str × Nat)} {is:List Nat} {pos spos:Pos} {fi:DI} {g:DG} {t:DT} (hc:X.calm=true) (hN:X.N.Nodup) (hy:X.N[i]?=some y) (hyl:X.env.scope.names.lookup y=some .local)
  (hsw:swapsWith (.ListComp e [⟨tg,iter,ifs,0⟩] scope pos) (some (.Name y py)) spos.line X.env=pure true) (hi:PI X tg iter (tI X.K Wx fi)) (ok:BlkOk X.N X.env.scope scope own)
  (hg:∀(s:Shared) (H:Hp) (C:Addr) (cl:List (Str × Addr)) (fp:List Addr),PG (X.blk s H scope (compEnvC scope cl C X.env) fp) tg (tG X.K is g)) (ht:∀(s:Shared) (H:Hp) (C:Addr) (cl:List (Str × Addr)) (fp:List Addr),PTs (X.blk s H scope (compEnvC scope cl C X.env) fp) ifs (tT X.K W0 t))
  (he:∀(s:Shared) (H:Hp) (C:Addr) (cl:List (Str × Addr)) (fp:List Addr),PE (X.blk s H scope (compEnvC scope cl C X.env) fp) e (tD X.K W0 fe)) (his:∀i∈is,i∈own.map (·.2)) (hs:∀x,foldedSetIterable iter X.env x=pure x:=by intro _;rfl) :
  PS X (.Assign [.Name y py] (.ListComp e [⟨tg,iter,ifs,0⟩] scope pos) spos) (tS X.K Wx (sAsg (eLcH fi g t fe (own.map (·.2))) (gNm i))):=
 psImp (ps_setLc (i:=i) hc hN hy hyl hsw hi ok hg ht he hs) fun En σ H ⟨H1,al,dl,m,r,en,p⟩=>zzgb his ⟨H1,al,dl,m,r,en,p.of en fun w m1 H1' al' H' e pr r' p' v hv=>p'.nx_ r' ((en.mono e pr).set i hv)⟩
end
section
variable {X:Cx} {Wx:WX}
theorem z5jb {K:Fg} {H:Hp} {ha:List Addr} {vs:List V} {ds:List HW} (h:RpHs K H ha vs ds) {i:Int} {d:HW} (e:atI ds i=some d):∃v,atI vs i=some v∧RpH K H ha v d:=by
 unfold atI at e ⊢
 rw[h.length]
 cases hi:ixN ds.length i with
 |none=>rw[hi] at e;cases e
 |some j=>
  rw[hi] at e
  obtain⟨v,h1,h2⟩:=h.get (show ds[j]?=some d from e)
  exact⟨v,h1,h2⟩
theorem z1db {K:Fg} {H1 H:Hp} {al:Gh} {m:Mem} {σ : L2.St} {Q:VK} {ws:List HW} {vs:List V} {y:W} {yv:V} (r:Rel K H1 H al m) (h:RpHs K H1 al.al.ha vs ws) (hy:RpW K H1 al yv y) (p:Post K H1 al σ Wx (GV K Q) (atHW ws y m)):∃k u,yv = .int k∧atI vs k=some u∧Q u H:=by
 unfold atHW at p
 split at p
 ·rename_i k
  split at p
  ·rename_i w hw
   cases (show Rp K H1 yv (.int k) from hy)
   obtain⟨u,h1,h2⟩:=z5jb h hw
   exact⟨k,u,rfl,h1,p.ok_ r u h2.w⟩
  ·exact p.elim
 ·exact p.elim
theorem zfu {a b:Expr} {pos:Pos} {k:Nat} {t:Tbl} {fa fb:DE} (tk:yk X Wx) (ht:∀q∈t,OwnM X.prog X.w X.K X.mg X.base k "__getitem__" q.1 q.2) (hr:RoomG (k+1) X.A) (ha:PE X a (tD X.K Wx fa)) (hb:PE X b (tD X.K Wx fb)) (hs:PlainIx b)
  (hsl:∀x i,subscripted b true (.ref x) i=runValue (.builtin "lifetime.subscript" ⟨[.ref x,i],[]⟩)):PE X (.Subscript a b pos) (tD X.K Wx (eIxH t fa fb)):=by
 refine⟨fun pins s σ H Q I h=>?_⟩
 have h2:tD X.K Wx fa σ H fun v H'=>tD X.K Wx fb σ H' fun w H2=>∃H1 al m x y,Rel X.K H1 H2 al m∧RpW X.K H1 al v x∧RpW X.K H1 al w y∧Post X.K H1 al σ Wx (GV X.K Q) (ixHW t x y m):=
  zbw (R:=fun v w H2 Q=>∃H1 al m x y,Rel X.K H1 H2 al m∧RpW X.K H1 al v x∧RpW X.K H1 al w y∧Post X.K H1 al σ Wx (GV X.K Q) (ixHW t x y m)) h fun H1 H al m x y v w r hx hy p=>⟨H1,al,m,x,y,r,hx,hy,p⟩
 refine Subscript_ (binT ha hb I h2 fun v u s2 xv yv H2 I2 rx ry q=>?_)
 obtain⟨H1,al,m,x,y,r,hx,hy,p⟩:=q
 have own:∀C F,clsOf x m=some C→look t C=some F→Post X.K H1 al σ Wx (GV X.K Q) (F [x,y] m)→wpAny (model X.prog X.w) X.A (subscriptTail a b v u) (EP X pins σ Q) X.xe s2:=by
  intro C F hc hl p
  obtain⟨aa,dx,fs,ns,ds,rfl,h1,h3,h4,h5⟩:=zpf r hx hc
  obtain⟨fa,q1,q2,q3,q4,Fo⟩:=(ht _ (zwg hl)).ex
  obtain⟨ox,od,J⟩:=z0i I2 h1
  obtain rfl:v=Value.ref aa:=rx
  obtain⟨mF,Fr1⟩:=I2.fr
  exact PySem.W.sub_K Fr1 I2.ok.mod.kin J q1 q3 q2 (zcn (vs:=[.ref aa,yv]) tk Fo hr.in1 I2 I2.env0.in1 (.cons rfl (.cons ry .nil)) (zyi r (.cons hx (.cons hy .nil)) p)) (hsl _ _)
 have old:∀x,RpW X.K H1 al xv x→Post X.K H1 al σ Wx (GV X.K Q) (ixW t x y m)→clsOf x m=none→wpAny (model X.prog X.w) X.A (subscriptTail a b v u) (EP X pins σ Q) X.xe s2:=by
  intro x hx p hc
  unfold ixW at p
  rw[hc] at p
  dsimp only at p
  have z:=zpe (r:=fun v w H Q=>rIxS v w H Q∨rIxL X.K v w H Q∨rIxT X.K v w H Q) r hx hy (fun H1 H al m v w x y z Q r hx hy hz k=>z58 r hx hy hz k) p
  exact (ix_str.or (ix_list.or ix_tup)) a b pins s2 σ H2 xv yv v u Q I2 rx ry z (hs _ _)
 have any:∀x',x=x'→Post X.K H1 al σ Wx (GV X.K Q) (ixW t x' y m)→wpAny (model X.prog X.w) X.A (subscriptTail a b v u) (EP X pins σ Q) X.xe s2:=by
  rintro _ rfl p
  cases hc:clsOf x m with
  |none=>exact old x hx p hc
  |some C=>
   unfold ixW at p
   rw[hc] at p
   dsimp only at p
   cases hl:look t C with
   |none=>rw[hl] at p;exact p.elim
   |some F=>
    rw[hl] at p
    exact own C F hc hl p
 cases x with
 |d _=>exact any _ rfl p
 |c _=>exact any _ rfl p
 |ex _ _ _ _ _=>exact any _ rfl p
 |h i=>
  obtain⟨aa,haa,rfl⟩:=hx
  obtain⟨c,hc,hat⟩:=r.hat haa
  have p':Post X.K H1 al σ Wx (GV X.K Q) (match (heapOf m)[i]? with
   |some (.lst ws)=>atHW ws y m
   |some (.tup ws)=>atHW ws y m
   |some (.obj C _ _)=>(match look t C with
    |some F=>F [.h i,y] m
    |none=>.no)
   |_=>.no):=p
  rw[hc] at p'
  cases c with
  |lst ws=>
   obtain⟨vs,g1,g2⟩:=hat
   obtain⟨k,z,rfl,g3,g4⟩:=z1db r g2 hy p'
   exact ix_list a b pins s2 σ H2 _ _ v u Q I2 rx ry ⟨_,_,_,z,rfl,rfl,SqL.of g1,g3,g4⟩ (hs _ _)
  |tup ws=>
   obtain⟨vs,g1,g2⟩:=hat
   obtain⟨k,z,rfl,g3,g4⟩:=z1db r g2 hy p'
   exact ix_tup a b pins s2 σ H2 _ _ v u Q I2 rx ry ⟨_,_,_,z,rfl,rfl,SqT.of g1,g3,g4⟩ (hs _ _)
  |dic _ _=>exact p'.elim
  |obj C ns ws=>
   dsimp only at p'
   cases hl:look t C with
   |none=>rw[hl] at p';exact p'.elim
   |some F=>
    rw[hl] at p'
    refine own C F ?_ hl p'
    show (match ((heapOf m)[i]?).map HC.toD with
     |some (D.obj C ns ds)=>some C
     |_=>none)=some C
    rw[hc]
    rfl
theorem ze9 {K:Fg} {H:Hp} {ha:List Addr} {f:Str}:∀{fs:List (Str × V)} {ns:List Str} {ds:List HW} {d:HW},fs.map (·.1)=ns→RpHs K H ha (fs.map (·.2)) ds→fldLH ns ds f=some d→∃v,fs.lookup f=some v∧RpH K H ha v d
 |[],_,_,_,e,r,h=>by
  subst e
  cases r
  cases h
 |(n,v)::fs,_,ds,d,e,r,h=>by
  subst e
  cases r with
  | @cons _ _ d1 ds1 r1 r2=>
    have h':(if n=f then some d1 else fldLH (fs.map (·.1)) ds1 f)=some d:=h
    by_cases hn:n=f
    ·rw[if_pos hn] at h'
     cases h'
     refine⟨v,?_,r1⟩
     rw[y7c,hn,beq_self_eq_true]
    ·rw[if_neg hn] at h'
     obtain⟨u,h1,h2⟩:=ze9 rfl r2 h'
     refine⟨u,?_,h2⟩
     rw[y7c,show (f==n)=false from beq_eq_false_iff_ne.mpr (Ne.symm hn)]
     exact h1
theorem zts {e:Expr} {f:Str} {pos:Pos} {Cs:List Str} {fe:DE} (hC:∀C∈Cs,Cls X.K (He.ga X.K C)∧NoAttr X.K (He.ga X.K C) f) (he:PE X e (tD X.K Wx fe)) (hb:attributeBase e f X.env (eval e X.env)=eval e X.env:=by rfl):PE X (.Attribute e f pos) (tD X.K Wx (eFldH Cs f fe)):=
 peImp (pe_fld he hb) fun σ H Q h=>zcw (R:=fun x H1 Q=>∃a C dx fs v,x = .ref a∧H1 a=some (.ins C dx fs)∧Cls X.K C∧NoAttr X.K C f∧fs.lookup f=some v∧Q v H1) h fun H1 H al m x v r hv p=>by
  have any:∀x',x=x'→Post X.K H1 al σ Wx (GV X.K Q) (lift1 (fldD Cs f) x' m)→∃a C dx fs v',v = .ref a∧H a=some (.ins C dx fs)∧Cls X.K C∧NoAttr X.K C f∧fs.lookup f=some v'∧Q v' H:=by
   rintro _ rfl p
   refine zyq (r:=fun x H1 Q=>∃a C dx fs v,x = .ref a∧H1 a=some (.ins C dx fs)∧Cls X.K C∧NoAttr X.K C f∧fs.lookup f=some v∧Q v H1) r hv (fun H1 H al m v x z Q r hx hz k=>?_) p
   cases x <;> first |(cases hz;done) |skip
   rename_i C ns ds
   have hz':(if C∈Cs then fldL ns ds f else none)=some z:=hz
   by_cases hm:C∈Cs
   ·rw[if_pos hm] at hz'
    obtain⟨a,dx,fs,rfl,h1,h2,h3⟩:=hx.obj r.ex
    obtain⟨u,h4,h5⟩:=zd7 h2 h3 hz'
    exact⟨a,_,dx,fs,u,rfl,h1,(hC C hm).1,(hC C hm).2,h4,k H1 H u (Ex.refl _) r h5⟩
   ·rw[if_neg hm] at hz'
    cases hz'
  cases x with
  |d _=>exact any _ rfl p
  |c _=>exact any _ rfl p
  |ex _ _ _ _ _=>exact any _ rfl p
  |h i=>
   obtain⟨aa,haa,rfl⟩:=hv
   obtain⟨c,hc,hat⟩:=r.hat haa
   unfold fldHW at p
   dsimp only at p
   rw[hc] at p
   cases c with
   |lst _=>exact p.elim
   |tup _=>exact p.elim
   |dic _ _=>exact p.elim
   |obj C ns ws=>
    dsimp only at p
    by_cases hm:C∈Cs
    ·rw[if_pos hm] at p
     cases hf:fldLH ns ws f with
     |none=>rw[hf] at p;exact p.elim
     |some w=>
      rw[hf] at p
      obtain⟨dx,fs,g1,g2,g3⟩:=hat
      obtain⟨u,g4,g5⟩:=ze9 g2 g3 hf
      exact⟨aa,_,dx,fs,u,rfl,g1,(hC C hm).1,(hC C hm).2,g4,p.ok_ r u g5.w⟩
    ·rw[if_neg hm] at p
     exact p.elim
theorem zm8 {K:Fg} {H:Hp} {ha:List Addr} {f:Str} {v:V} {d:HW} (h:RpH K H ha v d):∀{fs:List (Str × V)} {ds:List HW},RpHs K H ha (fs.map (·.2)) ds→(putF f v fs).map (·.1)=(putLH f d (fs.map (·.1)) ds).1∧RpHs K H ha ((putF f v fs).map (·.2)) (putLH f d (fs.map (·.1)) ds).2
 |[],_,r=>by
  cases r
  exact⟨rfl,.cons h .nil⟩
 |(g,x)::fs,_,r=>by
  cases r with
  | @cons _ _ d1 ds1 r1 r2=>
    obtain⟨h1,h2⟩:=zm8 (f:=f) h r2
    by_cases hg:g=f
    ·have e1:putF f v ((g,x)::fs)=(g,v)::fs:=if_pos hg
     have e2:putLH f d (g::fs.map (·.1)) (d1::ds1)=(g::fs.map (·.1),d::ds1):=if_pos hg
     rw[e1]
     show _=(putLH f d (g::fs.map (·.1)) (d1::ds1)).1∧RpHs K H ha _ (putLH f d (g::fs.map (·.1)) (d1::ds1)).2
     rw[e2]
     exact⟨rfl,.cons h r2⟩
    ·have e1:putF f v ((g,x)::fs)=(g,x)::putF f v fs:=if_neg hg
     have e2:putLH f d (g::fs.map (·.1)) (d1::ds1)=(g::(putLH f d (fs.map (·.1)) ds1).1,d1::(putLH f d (fs.map (·.1)) ds1).2):=if_neg hg
     rw[e1]
     show _=(putLH f d (g::fs.map (·.1)) (d1::ds1)).1∧RpHs K H ha _ (putLH f d (g::fs.map (·.1)) (d1::ds1)).2
     rw[e2]
     exact⟨congrArg (g :: ·) h1,.cons r1 h2⟩
theorem zn7 {o e:Expr} {f:Str} {pos1 pos:Pos} {Cs:List Str} {fo fe:DE} (hC:∀C∈Cs,Cls X.K (He.ga X.K C)∧NoAttr X.K (He.ga X.K C) f) (ho:PE X o (tD X.K Wx fo)) (he:PE X e (tD X.K Wx fe)) (hs:swapsWith e (some (.Attribute o f pos1)) pos.line X.env=pure false:=by rfl) :
  PS X (.Assign [.Attribute o f pos1] e pos) (tS X.K Wx (sFldH Cs f fe fo)):=psImp (ps_fld ho he hs) fun En σ H ⟨H1,al,dl,m,r,en,p⟩=>by
 refine⟨H1,al,dl,m,r,en,p.of en fun y m1 H1' al' H' e1 l1 r1 p1 v hv=>?_⟩
 have en1:=en.mono e1 l1
 refine⟨H1',al',dl,m1,r1,en1,p1.of en1 fun o m2 H2 al2 H2' e2 l2 r2 p2 ov hov=>?_⟩
 have en2:=en1.mono e2 l2
 have hv2:=hv.mono e2 l2
 cases hs:zgw Cs f y o m2 with
 |none=>rw[hs] at p2;exact p2.elim
 |some m4=>
  rw[hs] at p2
  unfold zgw at hs
  split at hs
  ·rename_i d i hd
   split at hs
   ·rename_i C ns ds hds
    split at hs
    ·rename_i hc
     cases hs
     obtain⟨a,ha,rfl⟩:=hov
     obtain⟨dx,fs,h5,h6,h7⟩:=r2.hcells i a _ ha hds
     obtain⟨c1,c2⟩:=hC C hc.1
     subst h6
     refine⟨a,_,dx,fs,rfl,h5,c1,c2,by have:=hc.2;rwa [ye] at this,?_⟩
     obtain⟨z1,z2⟩:=zm8 (f:=f) (hw_ok hv2 hd) h7
     exact p2.nx_ (r2.hput (c:=.obj C _ _) ha ⟨dx,_,upd_same,z1,z2⟩) en2
    ·cases hs
   ·cases hs
  ·cases hs
theorem zebb {k:Nat} {f:Addr} {C:Str} {F:DF} {pins:List (Addr × Obj)} {σ : L2.St} {H:Hp} {s:Shared} {Q:VK} {us:List Value} {vs:List V} {ws:List W} {H1:Hp} {al:Gh} {m:Mem} (tk:yk X Wx) (M:Mk X.K (He.ga X.K C) f) (Fo:FnD X.prog X.w X.K X.mg X.base k f F) (hr:RoomG (k+1) X.A) (I:Inv X pins σ H s) (r:Vals vs us)
  (rl:Rel X.K H1 H al m) (hws:RpWs X.K H1 al vs ws) (p:Post X.K H1 al σ Wx (GV X.K Q) (z1l C F ws m)):wpAny (model X.prog X.w) X.A (call (.ref (He.ga X.K C)) us) (EP X pins σ Q) X.xe s:=by
 have hx:H (s.heap.objs.size+1)=none:=I.hok.fresh (Nat.le_succ _)
 have hdx:H s.heap.objs.size=none:=I.hok.fresh (yp _)
 have hne:s.heap.objs.size≠s.heap.objs.size+1:=y0d (ysd _)
 have I2:=Inv.made (C:=He.ga X.K C) I
 have r2:Vals (V.ref (s.heap.objs.size+1)::vs) (Value.ref (s.heap.objs.size+1)::us):=.cons rfl r
 have g1:=rl.grow (ylb (o:=.own (s.heap.objs.size+1)) hdx)
 have hx2:(upd H s.heap.objs.size (.own (s.heap.objs.size+1))) (s.heap.objs.size+1)=none:=by rw[upd_ne (Ne.symm hne)];exact hx
 have g2:Rel X.K H1 (upd (upd H s.heap.objs.size (.own (s.heap.objs.size+1))) (s.heap.objs.size+1) (.ins (He.ga X.K C) s.heap.objs.size [])) (al.hpush (s.heap.objs.size+1)) (hset m (heapOf m++[.obj C [] []])):=
  g1.hnew hx2 ⟨s.heap.objs.size,[],upd_same,rfl,.nil⟩
 have le:Le al (al.hpush (s.heap.objs.size+1)):=Le.hpush _ _
 have hk:(al.hpush (s.heap.objs.size+1)).al.ha[(heapOf m).length]?=some (s.heap.objs.size+1):=ztt rl.hlen
 have hq:spR X.K F (V.ref (s.heap.objs.size+1)::vs) (upd (upd H s.heap.objs.size (.own (s.heap.objs.size+1))) (s.heap.objs.size+1) (.ins (He.ga X.K C) s.heap.objs.size [])) (fun v H2=>v = .non∧Q (.ref (s.heap.objs.size+1)) H2) (fun c d H=>Wx c d σ H):=by
  refine⟨H1,_,_,.h (heapOf m).length::ws,g2,.cons ⟨_,hk,rfl⟩ (hws.mono (Ex.refl _) le),?_⟩
  unfold z1l at p
  cases hF:F (.h (heapOf m).length::ws) (hset m (heapOf m++[.obj C [] []])) with
  |no=>rw[hF] at p;exact p.elim
  |exc C' f' p' m'=>
   rw[hF] at p
   intro Ha aa Hb v dx e1 l1 e2 e3 e4
   exact p Ha aa Hb v dx e1 (le.trans l1) e2 e3 e4
  |ok w' m'=>
   rw[hF] at p
   intro Ha aa Hb v e1 l1 e2 e3
   have p2:Post X.K H1 al σ Wx (GV X.K Q) (zw8 (heapOf m).length w' m'):=p
   clear p hF
   unfold zw8 at p2
   split at p2
   ·cases (show Rp X.K Ha v .non from e3)
    exact⟨rfl,p2 Ha aa Hb e1 (le.trans l1) e2 _ ⟨_,z6o l1.pre.hpre hk,rfl⟩⟩
   ·exact p2.elim
 refine wpAny_call (make_map (f:=f) I.kIn M.makes M.init (beq_iff_eq.mp M.fn) (codeAny_mono (Fo _ X.stack _ _ (Value.ref (s.heap.objs.size+1)::us) _ _ _ (hr.make _ us []) (I2.env0.make _ us []) r2 hq) fun r s' hq'=>?_))
 cases r with
 |error e=>exact yxd tk σ pins _ _ e s' I2 hq'
 |ok fl=>
  cases fl with
  |ret u=>
   obtain⟨v,H',I3,rv,ev,q3⟩:=I2.after hq'
   subst ev
   exact⟨rv,⟨V.ref (s.heap.objs.size+1),H',I3,rfl,q3⟩⟩
  |next=>exact y7 hq'
  |brk=>exact y7 hq'
  |cont=>exact y7 hq'
def rSetO (X:Cx) (Wx:WX) (t:Tbl) (o i v:V) (σ : L2.St) (H:Hp) (Q:Hp→Prop):Prop:=rSetL o i v H Q∨∃H1 al m x y z C F,Rel X.K H1 H al m∧RpW X.K H1 al o x∧RpW X.K H1 al i y∧RpW X.K H1 al v z∧clsOf x m=some C∧look t C=some F∧Post X.K H1 al σ Wx (GV X.K fun _ H'=>Q H') (F [x,y,z] m)
theorem zaib {k:Nat} {t:Tbl} {o i:Expr} {to ti:TE} {pos:Pos} (tk:yk X Wx) (ht:∀q∈t,OwnM X.prog X.w X.K X.mg X.base k "__setitem__" q.1 q.2) (hq:∀q∈t,yvd X.K (He.ga X.K q.1)=true) (hr:RoomG k X.A) (ho:PE X o to) (hi:PE X i ti)
  (ha:∀v,assign (.Subscript o i pos) X.env v=(do
    let ov ←holding [v] (eval o X.env)
    let iv ←holding [v,ov] (eval i X.env)
    standAt pos
    holding [v,ov,iv] (setItem ov iv v)
    release [v,ov,iv] []):=by intro _;rfl):PG X (.Subscript o i pos) (fun v σ H Q=>to σ H fun o H1=>ti σ H1 fun i H2=>rSetO X Wx t o i v σ H2 fun H3=>Q σ H3):=by
 refine⟨fun pins s σ H v u Q I r h=>?_⟩
 rw[ha]
 refine wpAny_bind (wpAny_holding (thn (ho.run pins s σ H _ I h) fun ov s1 ⟨x,H1,I1,r1,q1⟩=>?_))
 refine wpAny_bind (wpAny_holding (thn (hi.run pins s1 σ H1 _ I1 q1) fun iv s2 ⟨y,H2,I2,r2,q2⟩=>?_))
 have main:wpAny (model X.prog X.w) X.A (setItem ov iv u) (fun _ s'=>∃H',Inv X pins σ H' s'∧Q σ H') X.xe s2:=by
  rcases q2 with q2 |⟨H1,al,m,x',y',z',C,F,r3,hx,hy,hz,hc,hl,p⟩
  ·exact set_list pins s2 σ H2 x y v ov iv u _ I2 r1 r2 r q2
  ·obtain⟨aa,dx,fs,ns,ds,rfl,h1,h3,h4,h5⟩:=zpf r3 hx hc
   obtain⟨fa,q1,q2,q3,q4,Fo⟩:=(ht _ (zwg hl)).ex
   obtain⟨ox,od,J⟩:=z0i I2 h1
   obtain rfl:ov=Value.ref aa:=r1
   obtain⟨mF,Fr1⟩:=I2.fr
   refine PySem.W.ksp_setItem Fr1 I2.ok.mod.kin J (hq _ (zwg hl)) q1 q2 (wpAny_mono (zcn (vs:=[.ref aa,y,v]) tk Fo hr I2 I2.env0 (.cons rfl (.cons r2 (.cons r .nil))) (zyi r3 (.cons hx (.cons hy (.cons hz .nil))) p)) (fun w s' hq=>?_) fun _ _ z=>z)
   obtain⟨_,H',I',_,q⟩:=hq
   exact⟨H',I',q⟩
 refine wpAny_bind (wpAny_standAt (wpAny_bind (wpAny_holding (thn main fun _ s3 ⟨H3,I3,q3⟩=>?_))))
 exact wpAny_release ⟨σ,H3,I3,q3⟩
theorem zmjb {k:Nat} {t:Tbl} {o i e:Expr} {pos1 pos:Pos} {fo fi fe:DE} (tk:yk X Wx) (ht:∀q∈t,OwnM X.prog X.w X.K X.mg X.base k "__setitem__" q.1 q.2) (hq:∀q∈t,yvd X.K (He.ga X.K q.1)=true) (hr:RoomG k X.A) (he:PE X e (tD X.K Wx fe)) (ho:PE X o (tD X.K Wx fo)) (hi:PE X i (tD X.K Wx fi))
  (ha:∀v,assign (.Subscript o i pos1) X.env v=(do
    let ov ←holding [v] (eval o X.env)
    let iv ←holding [v,ov] (eval i X.env)
    standAt pos1
    holding [v,ov,iv] (setItem ov iv v)
    release [v,ov,iv] []):=by intro _;rfl)
  (hs:swapsWithSole [.Subscript o i pos1] e pos.line X.env=pure false:=by rfl) (hw:swappedStores [.Subscript o i pos1] e X.env=pure none:=by rfl)
  (h1:(assignEach [.Subscript o i pos1] X.env).map (·.2)=[assign (.Subscript o i pos1) X.env]:=by rfl):PS X (.Assign [.Subscript o i pos1] e pos) (tS X.K Wx (sSetO t fe fo fi)):=
 psImp (ps_asg he (zaib tk ht hq hr ho hi ha) hs hw h1) fun En σ H ⟨H1,al,dl,m,r,en,p⟩=>by
  refine⟨H1,al,dl,m,r,en,p.of en fun y m1 H1' al' H' e1 l1 r1 p1 v hv=>?_⟩
  have en1:=en.mono e1 l1
  refine⟨H1',al',dl,m1,r1,en1,p1.of en1 fun o m2 H2 al2 H2' e2 l2 r2 p2 ov hov=>?_⟩
  have en2:=en1.mono e2 l2
  refine⟨H2,al2,dl,m2,r2,en2,p2.of en2 fun i m3 H3 al3 H3' e3 l3 r3 p3 iv hiv=>?_⟩
  have en3:=en2.mono e3 l3
  have hv3:=(hv.mono e2 l2).mono e3 l3
  have ho3:=hov.mono e3 l3
  unfold setOW at p3
  cases hc:clsOf o m3 with
  |none=>
   rw[hc] at p3
   dsimp only at p3
   cases hs:setLW y o i m3 with
   |none=>rw[hs] at p3;exact p3.elim
   |some m4=>
    rw[hs] at p3
    obtain⟨a,vs,j,n,rfl,rfl,h5,h6,h7⟩:=z51 r3 hv3 ho3 hiv hs
    have p4:PostS X.K H3 al3 Wx En (SR.nx dl m4):=p3
    exact .inl ⟨a,vs,j,n,rfl,rfl,h5,h6,PostS.nx_ h7 en3 p4⟩
  |some C=>
   rw[hc] at p3
   dsimp only at p3
   cases hl:look t C with
   |none=>rw[hl] at p3;exact p3.elim
   |some F=>
    rw[hl] at p3
    refine .inr ⟨H3,al3,m3,o,i,y,C,F,r3,ho3,hiv,hv3,hc,hl,?_⟩
    exact p3.of en3 fun w m4 H4 al4 H4' e4 l4 r4 p4 u hu=>p4.nx_ r4 (en3.mono e4 l4)
end
section
variable {X:Cx} {Wx:WX}
theorem zalb {C:Str} {F:DF} {fo:DE} {g:DA} {σ : L2.St} {H:Hp} {Q:VK} (h:tD X.K Wx (eMkH C F fo g) σ H Q) :
  tD X.K Wx fo σ H fun v H'=>v = .ref (He.ga X.K C)∧tA X.K Wx g σ H' fun vs H2=>∃H1 al m ws,Rel X.K H1 H2 al m∧RpWs X.K H1 al vs ws∧Post X.K H1 al σ Wx (GV X.K Q) (z1l C F ws m):=by
 obtain⟨H1,al,dl,mm,r,en,p⟩:=h
 refine⟨H1,al,dl,mm,r,en,p.bind fun x m1 H1' al' H' e pr r' p' v hv=>?_⟩
 split at p'
 ·rename_i C'
  split at p'
  ·rename_i e0
   subst e0
   cases (show Rp X.K H1' v (.cls C') from hv)
   exact⟨rfl,H1',al',dl,m1,r',en.mono e pr,p'.bind fun ws m2 H2 al2 H2' e2 pr2 r2 p2 vs hvs=>⟨H2,al2,m2,ws,r2,hvs,p2⟩⟩
  ·exact p'.elim
 ·exact p'.elim
/-- C(*e) -/
theorem zrjb {fe e:Expr} {C:Str} {sp pos:Pos} {k:Nat} {f:Addr} {F:DF} {ff fa:DE} (tk:yk X Wx) (M:Mk X.K (He.ga X.K C) f) (Fo:FnD X.prog X.w X.K X.mg X.base k f F) (hr:RoomG (k+1) X.A) (hf:PE X fe (tD X.K Wx ff)) (ha:PE X e (tD X.K Wx fa))
  (ht:eval (.Call fe [.Starred e sp] [] pos) X.env=(do callWith pos (←eval fe X.env) [] (backTo pos (starEach [.Starred e sp] X.env)) (backToKw pos (keywordEach [] X.env))):=by rfl)
  (hst:starEach [.Starred e sp] X.env=[(true,eval e X.env)]:=by rfl):PE X (.Call fe [.Starred e sp] [] pos) (tD X.K Wx (eMkH C F ff (zuo fa))):=by
 refine⟨fun pins s σ H Q I h=>?_⟩
 refine Call_ (thn (hf.run pins s σ H _ I (zalb h)) fun u s1 ⟨y,H1,I1,ry,ey,H1',al,dl,m,r,en,p⟩=>?_) ht
 subst ey
 obtain rfl:u=Value.ref (He.ga X.K C):=ry
 have h3:tD X.K Wx fa σ H1 fun v H2=>∃a xs,v = .ref a∧(SqT X.K H2 a xs∨SqL X.K H2 a xs)∧∃H1 al m ws,Rel X.K H1 H2 al m∧RpWs X.K H1 al xs ws∧Post X.K H1 al σ Wx (GV X.K Q) (z1l C F ws m):=by
  refine⟨H1',al,dl,m,r,en,?_⟩
  unfold zuo at p
  cases hfa:fa dl m with
  |no=>rw[hfa] at p;exact p.elim
  |exc C' f' p' m'=>rw[hfa] at p;exact p
  |ok x m1=>
   rw[hfa] at p
   intro Ha aa Hb e1 l1 r1 v hv
   have p1:Post X.K H1' al σ Wx (GA X.K fun vs H2=>∃H1 al m ws,Rel X.K H1 H2 al m∧RpWs X.K H1 al vs ws∧Post X.K H1 al σ Wx (GV X.K Q) (z1l C F ws m)) (starW x m1):=p
   have p2:=Post.mono e1 l1 p1
   unfold starW at p2
   split at p2
   ·rename_i d hd
    split at p2
    ·rename_i ds hds
     obtain⟨a,us,rfl,h1,h2⟩:=(hv.rh r1 hd).seq r1.ex hds
     exact⟨a,us,rfl,h1.symm,p2.ok_ r1 us (RpWs.of_L h2)⟩
    ·exact p2.elim
   ·exact p2.elim
 refine PySem.W.callWith_S (h₀:=X.base) I.ok.mod.kin M.kp (thn (ha.run pins s1 σ H1 _ I1 h3) fun v s2 ⟨y,H2,I2,ry,a,xs,ey,hxs,Ha,al,m,ws,rl,hws,p⟩=>?_) hst
 subst ey
 obtain rfl:v=Value.ref a:=ry
 exact StX.star_any I2 hxs fun us s3 I3 rv=>⟨I3.kIn,zebb tk M Fo hr I3 rv rl hws p⟩
end
theorem zrfb {i:Nat} {C:Str} {F:DF} {f:DA} {m:Mem} {dl:Env} (h:dl[i]?=some (some (.d (.cls C)))):eMkH C F (eVar i) f dl m=(f dl m).bind fun ws m2=>z1l C F ws m2:=by
 unfold eMkH eVar
 rw[h]
 show (if C=C then (f dl m).bind fun ws m2=>z1l C F ws m2 else .no)=_
 rw[if_pos rfl]
def flatD:D→Option V
 |.non=>some .non
 |.bl b=>some (.bl b)
 |.int i=>some (.int i)
 |.str s=>some (.str s)
 |_=>none
def zlm:List D→Option (List V)
 |[]=>some []
 |d::ds=>(match flatD d with
  |some v=>(match zlm ds with
   |some vs=>some (v::vs)
   |none=>none)
  |none=>none)
def inTD (x y:D):Option D:=match flatD x with
 |some v=>(match seqD y with
  |some ds=>(match zlm ds with
   |some vs=>some (.bl (inV v vs))
   |none=>none)
  |none=>none)
 |none=>none
def ninTD (x y:D):Option D:=match flatD x with
 |some v=>(match seqD y with
  |some ds=>(match zlm ds with
   |some vs=>some (.bl (!inV v vs))
   |none=>none)
  |none=>none)
 |none=>none
theorem z1cb {K:Fg} {H1 H:Hp} {v u:V} {x:D} (h:Rh K H1 H v x) (e:flatD x=some u):v=u∧flatV u=true:=by
 cases x <;> first |(cases e;done) |skip
 ·cases h.non;cases e;exact⟨rfl,rfl⟩
 ·cases h.bl;cases e;exact⟨rfl,rfl⟩
 ·cases h.int;cases e;exact⟨rfl,rfl⟩
 ·cases h.str;cases e;exact⟨rfl,rfl⟩
theorem zl1 {K:Fg} {H1:Hp}:∀{vs us:List V} {ds:List D},RpL K H1 vs ds→zlm ds=some us→vs=us∧us.all flatV=true
 |_,_,_,.nil,e=>by cases e;exact⟨rfl,rfl⟩
 |_,us,_,.cons (d:=d) (ds:=ds) h t,e=>by
  unfold zlm at e
  cases h1:flatD d with
  |none=>rw[h1] at e;cases e
  |some v=>
   rw[h1] at e
   cases h2:zlm ds with
   |none=>rw[h2] at e;cases e
   |some vs=>
    rw[h2] at e
    cases e
    obtain⟨rfl,f1⟩:=z1cb (Rh.p (H:=H1) h) h1
    obtain⟨rfl,f2⟩:=zl1 t h2
    exact⟨rfl,by rw[List.all_cons,f1,f2];rfl⟩
section
variable {X:Cx} {Wx:WX}
theorem zscb {K:Fg} {H1 H:Hp} {al:Gh} {m:Mem} {v w:V} {x y z:D} {Q:VK} {neg:Bool} (r:Rel K H1 H al m) (hx:Rh K H1 H v x) (hy:Rh K H1 H w y) (hz:(if neg=true then ninTD x y else inTD x y)=some z) (k:∀H1' H' u,Ex H1 H1'→Rel K H1' H' al m→Rp K H1' u z→Q u H'):rIn K neg v w H Q:=by
 have hz':∃u ds us,flatD x=some u∧seqD y=some ds∧zlm ds=some us∧z = .bl (if neg=true then !inV u us else inV u us):=by
  cases h1:flatD x with
  |none=>cases neg <;> (unfold inTD ninTD at hz;rw[h1] at hz;cases hz)
  |some u=>
   cases h2:seqD y with
   |none=>cases neg <;> (unfold inTD ninTD at hz;rw[h1,h2] at hz;cases hz)
   |some ds=>
    cases h3:zlm ds with
    |none=>cases neg <;> (unfold inTD ninTD at hz;rw[h1,h2] at hz;dsimp only at hz;rw[h3] at hz;cases hz)
    |some us=>
     refine⟨u,ds,us,rfl,rfl,h3,?_⟩
     cases neg <;> (unfold inTD ninTD at hz;rw[h1,h2] at hz;dsimp only at hz;rw[h3] at hz;cases hz;rfl)
 obtain⟨u,ds,us,h1,h2,h3,rfl⟩:=hz'
 obtain⟨rfl,f1⟩:=z1cb hx h1
 obtain⟨a,vs,rfl,h4,h5⟩:=hy.seq r.ex h2
 obtain⟨rfl,f2⟩:=zl1 h5 h3
 exact⟨a,vs,rfl,h4,f1,f2,k H1 H _ (Ex.refl _) r (.bl _)⟩
theorem zuq:OpOk X (compareOp .In) inTD:=⟨_,op_in_seq,fun H1 H al m v w x y z Q r hx hy hz k=>zscb (neg:=false) r hx hy hz k⟩
theorem zv1 (x y z:D) (h:inTD x y=some z):∃k,z = .bl k:=by
 unfold inTD at h
 split at h
 ·split at h
  ·split at h
   ·cases h;exact⟨_,rfl⟩
   ·cases h
  ·cases h
 ·cases h
def sumD:List D→Option D
 |[x]=>(match lstD x with
  |some ds=>(match zru ds with
   |some ns=>some (.int ns.sum)
   |none=>none)
  |none=>none)
 |_=>none
theorem z2v (hc:X.calm=true):zwo X (.builtin "sum") sumD:=by
 refine⟨_,cr_sum hc,fun H1 H al m vs xs z Q r hx hz k=>?_⟩
 unfold sumD at hz
 split at hz
 ·obtain⟨v,rfl,h⟩:=rh1 hx
  split at hz
  ·rename_i ds hds
   obtain⟨a,us,rfl,h1,h2⟩:=h.sql r.ex hds
   split at hz
   ·rename_i ns hns
    cases hz
    rw[zqu hns] at h2
    have e:=h2.of_ints
    subst e
    exact⟨a,ns,rfl,h1,k H1 H _ (Ex.refl _) r (.int _)⟩
   ·cases hz
  ·cases hz
 ·cases hz
theorem zacb:∀a b:List Nat,ltCps a b=false→ltCps b a=false→a=b
 |[],[],_,_=>rfl
 |[],_::_,h,_=>by simp[ltCps] at h
 |_::_,[],_,h=>by simp[ltCps] at h
 |a::r,b::t,h1,h2=>by
  simp[ltCps] at h1 h2
  have e:a=b:=Nat.le_antisymm h2.1 h1.1
  subst e
  rw[zacb r t (h1.2 rfl) (h2.2 rfl)]
theorem lt_tr:∀a b c:List Nat,ltCps b a=false→ltCps c b=false→ltCps c a=false:=by
 intro a
 induction a with
 |nil=>
  intro b c _ _
  cases c <;> rfl
 |cons a r ih=>
  intro b c h1 h2
  cases b with
  |nil=>simp[ltCps] at h1
  |cons b t=>
   cases c with
   |nil=>simp[ltCps] at h2
   |cons c u=>
    simp[ltCps] at h1 h2 ⊢
    refine⟨by omega,fun e=>?_⟩
    subst e
    have e2:c=b:=by omega
    subst e2
    exact ih t u (h1.2 rfl) (h2.2 rfl)
def leS (a b:Str):Bool := !ltCps b.cps.toList a.cps.toList
theorem zncb (a b:Str):leS a b=true∨leS b a=true:=by
 unfold leS
 cases h1:ltCps b.cps.toList a.cps.toList with
 |false=>exact .inl rfl
 |true=>
  cases h2:ltCps a.cps.toList b.cps.toList with
  |false=>exact .inr rfl
  |true=>
   exfalso
   have key:∀x y:List Nat,ltCps x y=true→ltCps y x=true→False:=by
    intro x
    induction x with
    |nil=>intro y h1 h2;cases y <;> simp[ltCps] at h1 h2
    |cons a r ih=>
     intro y h1 h2
     cases y with
     |nil=>simp[ltCps] at h1
     |cons b t=>
      simp[ltCps] at h1 h2
      rcases h1 with h1 |⟨h1,h3⟩
      ·rcases h2 with h2 |⟨h2,_⟩ <;> omega
      ·rcases h2 with h2 |⟨_,h4⟩
       ·omega
       ·exact ih t h3 h4
   exact key _ _ h1 h2
theorem zq4 {a b c:Str} (h1:leS a b=true) (h2:leS b c=true):leS a c=true:=by
 unfold leS at *
 simp only[ypd] at *
 exact lt_tr _ _ _ h1 h2
theorem zdfb {a b:Str} (h1:leS a b=true) (h2:leS b a=true):a=b:=by
 unfold leS at *
 simp only[ypd] at *
 have e:=zacb _ _ h2 h1
 cases a with
 |mk x=>
  cases b with
  |mk y=>
   congr 1
   exact Array.toList_inj.mp e
def insS (x:Str):List Str→List Str
 |[]=>[x]
 |y::r=>if leS x y=true then x::y::r else y::insS x r
def sortS:List Str→List Str
 |[]=>[]
 |x::r=>insS x (sortS r)
theorem z3y (x:Str):∀l:List Str,(insS x l).Perm (x::l)
 |[]=>List.Perm.refl _
 |y::r=>by
  unfold insS
  split
  ·exact List.Perm.refl _
  ·exact ((z3y x r).cons y).trans (List.Perm.swap x y r)
theorem zpq:∀l:List Str,(sortS l).Perm l
 |[]=>List.Perm.refl _
 |x::r=>(z3y x (sortS r)).trans ((zpq r).cons x)
theorem ziy:∀(l:List Str) (p:Str),risingS p l=true→∀x∈l,leS p x=true
 |[],_,_,x,hx=>by cases hx
 |y::r,p,h,x,hx=>by
  unfold risingS at h
  rw[yab] at h
  have h1:leS p y=true:=h.1
  rcases yo.mp hx with rfl |hx
  ·exact h1
  ·exact zq4 h1 (ziy r y h.2 x hx)
theorem zzr {x:Str} {r:List Str} (h:sortedS (x::r)=true):(∀y∈r,leS x y=true)∧sortedS r=true:=by
 refine⟨ziy r x h,?_⟩
 cases r with
 |nil=>rfl
 |cons y r=>
  have h':risingS x (y::r)=true:=h
  unfold risingS at h'
  rw[yab] at h'
  exact h'.2
theorem zby {x:Str} {r:List Str} (h1:∀y∈r,leS x y=true) (h2:sortedS r=true):sortedS (x::r)=true:=by
 cases r with
 |nil=>rfl
 |cons y r=>
  show risingS x (y::r)=true
  unfold risingS
  rw[yab]
  exact⟨h1 y yb,h2⟩
theorem z2y (x:Str):∀l:List Str,sortedS l=true→sortedS (insS x l)=true
 |[],_=>rfl
 |y::r,h=>by
  obtain⟨h1,h2⟩:=zzr h
  unfold insS
  split
  ·rename_i hxy
   refine zby (fun z hz=>?_) h
   rcases yo.mp hz with rfl |hz
   ·exact hxy
   ·exact zq4 hxy (h1 z hz)
  ·rename_i hxy
   have hyx:leS y x=true:=(zncb x y).resolve_left hxy
   refine zby (fun z hz=>?_) (z2y x r h2)
   rcases yo.mp ((z3y x r).mem_iff.mp hz) with rfl |hz
   ·exact hyx
   ·exact h1 z hz
theorem zdw:∀l:List Str,sortedS (sortS l)=true
 |[]=>rfl
 |x::r=>z2y x _ (zdw r)
theorem zay:∀{xs ys:List Str},xs.Perm ys→sortedS xs=true→sortedS ys=true→xs=ys
 |[],ys,p,_,_=>by rw[List.nil_perm.mp p]
 |x::xs,[],p,_,_=>by have:=p.length_eq;simp at this
 |x::xs,y::ys,p,h1,h2=>by
  obtain⟨a1,a2⟩:=zzr h1
  obtain⟨b1,b2⟩:=zzr h2
  have e:x=y:=by
   have hx:=p.mem_iff.mp (yb (a:=x) (l:=xs))
   have hy:=p.mem_iff.mpr (yb (a:=y) (l:=ys))
   rcases yo.mp hx with rfl |hx
   ·rfl
   ·rcases yo.mp hy with rfl |hy
    ·rfl
    ·exact zdfb (a1 y hy) (b1 x hx)
  subst e
  rw[zay (List.Perm.cons_inv p) a2 b2]
def zcy:List D→Option D
 |[x]=>(match lstD x with
  |some ds=>(match zon ds with
   |some ss=>if ss.length<64 then some (.lst ((sortS ss).map D.str)) else none
   |none=>none)
  |none=>none)
 |_=>none
theorem zw3:zwo X (.builtin "sorted") zcy:=by
 refine⟨_,cr_sortedS,fun H1 H al m vs xs z Q r hx hz k=>?_⟩
 unfold zcy at hz
 split at hz
 ·obtain⟨v,rfl,h⟩:=rh1 hx
  split at hz
  ·rename_i ds hds
   obtain⟨a,us,rfl,h1,h2⟩:=h.sql r.ex hds
   split at hz
   ·rename_i ss hss
    split at hz
    ·rename_i hl
     cases hz
     rw[z0z hss] at h2
     have e:=h2.of_strs
     subst e
     refine⟨a,ss,rfl,h1,hl,fun ys p pe so hp=>?_⟩
     have e:=zay (pe.trans (zpq ss).symm) so (zdw ss)
     subst e
     obtain⟨q1,q2,q3⟩:=z5o (vs:=(sortS ss).map V.str) r (RpL.strs (sortS ss)) hp
     exact k _ _ _ q1 q2 q3
    ·cases hz
   ·cases hz
  ·cases hz
 ·cases hz
theorem RpL.zip_get {K:Fg} {H:Hp} {xs ys:List V} {as bs:List D} (h1:RpL K H xs as) (h2:RpL K H ys bs) {i:Nat} {x y:V} (e1:xs[i]?=some x) (e2:ys[i]?=some y):∃a b,(zipD as bs)[i]?=some (.tup [a,b])∧Rp K H x a∧Rp K H y b:=by
 obtain⟨a,ha,qa⟩:=h1.getV e1
 obtain⟨b,hb,qb⟩:=h2.getV e2
 refine⟨a,b,?_,qa,qb⟩
 unfold zipD
 rw[yjb,(List.getElem?_zip_eq_some (z:=(a,b))).mpr ⟨ha,hb⟩]
 rfl
theorem z97 (as bs:List D):(zipD as bs).length=min as.length bs.length:=by
 unfold zipD
 rw[ye,List.length_zip]
theorem zy9 {K:Fg} {H1:Hp} {a b:Addr} {xs ys:List V} {as bs:List D} (h1:SqL K H1 a xs) (h2:SqL K H1 b ys) (r1:RpL K H1 xs as) (r2:RpL K H1 ys bs):z0p K (Itz K a b) H1 (zipD as bs):=by
 have hl:(zipD as bs).length=min xs.length ys.length:=by rw[z97,r1.length,r2.length]
 refine⟨fun H=>SqL K H a xs∧SqL K H b ys,fun i H v H'=>∃T x y,v = .ref T∧H T=none∧H'=upd H T (.tup [x,y])∧xs[i]?=some x∧ys[i]?=some y,⟨fun i H hi ⟨q1,q2⟩=>?_,fun H ⟨q1,q2⟩=>⟨xs,ys,q1,q2,by omega⟩,fun i H v H' hi ⟨q1,q2⟩ ⟨T,x,y,e1,e2,e3,e4,e5⟩=>⟨T,x,y,e1,e2,e3,e4 xs q1,e5 ys q2⟩⟩,fun H ex=>⟨yud ex h1,yud ex h2⟩,fun i H x H' hi y Hf al m ex rl=>?_⟩
 ·exact⟨xs,ys,xs[i]'(by omega),ys[i]'(by omega),q1,q2,yt _,yt _⟩
 ·obtain⟨T,x1,y1,rfl,hT,rfl,e1,e2⟩:=y
  obtain⟨d1,d2,hd,q1,q2⟩:=r1.zip_get r2 e1 e2
  obtain⟨z1,z2,z3⟩:=z7k (vs:=[x1,y1]) (xs:=[d1,d2]) rl (.cons (q1.mono ex) (.cons (q2.mono ex) .nil)) hT
  exact⟨_,_,z1,z2,hd,z3⟩
theorem zf6 {K:Fg} {H1:Hp} {a b:Addr} {xs ys:List V} {as bs:List D} (h1:SqT K H1 a xs) (h2:SqT K H1 b ys) (r1:RpL K H1 xs as) (r2:RpL K H1 ys bs):z0p K (RZ.ItzT K a b) H1 (zipD as bs):=by
 have hl:(zipD as bs).length=min xs.length ys.length:=by rw[z97,r1.length,r2.length]
 refine⟨fun H=>SqT K H a xs∧SqT K H b ys,fun i H v H'=>∃T x y,v = .ref T∧H T=none∧H'=upd H T (.tup [x,y])∧xs[i]?=some x∧ys[i]?=some y,⟨fun i H hi ⟨q1,q2⟩=>?_,fun H ⟨q1,q2⟩=>⟨xs,ys,q1,q2,by omega⟩,fun i H v H' hi ⟨q1,q2⟩ ⟨T,x,y,e1,e2,e3,e4,e5⟩=>⟨T,x,y,e1,e2,e3,e4 xs q1,e5 ys q2⟩⟩,fun H ex=>⟨ybd ex h1,ybd ex h2⟩,fun i H x H' hi y Hf al m ex rl=>?_⟩
 ·exact⟨xs,ys,xs[i]'(by omega),ys[i]'(by omega),q1,q2,yt _,yt _⟩
 ·obtain⟨T,x1,y1,rfl,hT,rfl,e1,e2⟩:=y
  obtain⟨d1,d2,hd,q1,q2⟩:=r1.zip_get r2 e1 e2
  obtain⟨z1,z2,z3⟩:=z7k (vs:=[x1,y1]) (xs:=[d1,d2]) rl (.cons (q1.mono ex) (.cons (q2.mono ex) .nil)) hT
  exact⟨_,_,z1,z2,hd,z3⟩
theorem z4lb {e e2:Expr} {f:DA} {p pos tpos:Pos} {elts:List Expr} {kk:Nat} (hg:Gl X "zip") (hm:X.mg "zip" = none) (ha:PA X [e,e2] (tA X.K Wx f))
  (hs:starEach [e,e2] X.env=(false,eval e X.env)::starEach [e2] X.env:=by rfl) (hpl:(backTo pos (starEach [e2] X.env)).any (·.1)=false:=by rfl) :
  PI X (.Tuple elts kk tpos) (.Call (.Name "zip" p) [e,e2] [] pos) (tI X.K Wx (iZp f)):=piImp (RZ.pi_zipA hg hm ha hs hpl) fun σ H R ⟨H1,al,dl,m,r,en,p⟩=>by
 refine⟨H1,al,dl,m,r,en,p.bind fun ws m1 H1' al' H' e pr r' p' vs hv=>?_⟩
 unfold zipW at p'
 split at p'
 ·rename_i as bs
  cases hv with
  |cons hv1 hn=>
   cases hn with
   |cons hv2 hn=>
    cases hn
    cases (show Rp X.K H1' _ (.lst as) from hv1) with
    |lst a1 a2=>
     cases (show Rp X.K H1' _ (.lst bs) from hv2) with
     |lst b1 b2=>exact⟨_,_,_,_,rfl,.inl ⟨SqL.of (r'.ex _ _ a1),SqL.of (r'.ex _ _ b1),p'.ok_ r' _ (zy9 (SqL.of a1) (SqL.of b1) a2 b2)⟩⟩
 ·rename_i as bs
  cases hv with
  |cons hv1 hn=>
   cases hn with
   |cons hv2 hn=>
    cases hn
    cases (show Rp X.K H1' _ (.tup as) from hv1) with
    |tup a1 a2=>
     cases (show Rp X.K H1' _ (.tup bs) from hv2) with
     |tup b1 b2=>exact⟨_,_,_,_,rfl,.inr ⟨ybd r'.ex a1,ybd r'.ex b1,p'.ok_ r' _ (zf6 a1 b1 a2 b2)⟩⟩
 ·exact p'.elim
end
theorem zb6:∀{vs:List Value} {ss:List Str},zc6 vs=some ss→Vals (ss.map V.str) vs
 |[],_,h=>by cases h;exact .nil
 |v::vs,ss,h=>by
  unfold zc6 at h
  cases h1:strV v with
  |none=>rw[h1] at h;cases h
  |some s=>
   rw[h1] at h
   cases h2:zc6 vs with
   |none=>rw[h2] at h;cases h
   |some ss'=>
    rw[h2] at h
    cases h
    cases v <;> first |(cases h1;done) |skip
    cases h1
    exact .cons ⟨_,rfl⟩ (zb6 h2)
section
variable {K:Fg} {h:Heap} {mg:Str→Option Value}
theorem zohb {x:Str} {ss:List Str} (c:fTupG x ss K=true) (H:Hp):SqT K H (He.ga K x) (ss.map V.str):=by
 unfold fTupG at c
 split at c
 ·rename_i cl dd its n sl hk
  rw[yab,yab] at c
  obtain⟨c1,c2,c3⟩:=c
  exact .inr ⟨_,its,n,hk,of_decide_eq_true c1,rfl,of_decide_eq_true c2,zb6 (of_decide_eq_true c3)⟩
 ·cases c
end
section
variable {X:Cx} {Wx:WX}
theorem ztjb {x:Str} {ss:List Str} {pos:Pos} (hg:Gl X x) (hm:X.mg x=some (.ref (He.ga X.K x))) (ht:∀H,SqT X.K H (He.ga X.K x) (ss.map V.str)) (hd:(x==("__debug__" : Str))=false:=by decide):PE X (.Name x pos) (tD X.K Wx (eC (.tup (ss.map D.str)))):=
 de_c (pe_glob (v:=.ref (He.ga X.K x)) hg hm rfl hd) fun H1=>.tup (ht H1) (RpL.strs ss)
end
section
variable {X:Cx} {Wx:WX}
theorem z7ib:OpR X (inplaceOp .Add) (fun x y H Q=>∃a b,x = .str a∧y = .str b∧a.length+b.length≤sizeLine∧Q (.str (a++b)) H):=by
 intro pins s σ H x y v u Q I rx ry h
 obtain⟨a,b,rfl,rfl,hz,q⟩:=h
 obtain⟨t,rfl⟩:=rx
 obtain⟨t',rfl⟩:=ry
 exact SB.iadd (fun t' k=>⟨.str _,H,I.kept (t':=k) fun _ _ z=>z,⟨_,rfl⟩,q⟩) hz
def rAug:R2:=fun x y H Q=>ipI (fun i j=>i+j) x y H Q∨(∃a b,x = .str a∧y = .str b∧a.length+b.length≤sizeLine∧Q (.str (a++b)) H)∨rExt2 x y H Q
theorem z2gb:PIp X .Add rAug:=fun pins s σ H x y v u Q I rx ry h=>by
 rcases h with h |h |h
 ·exact ip_add pins s σ H x y v u Q I rx ry h
 ·exact z7ib pins s σ H x y v u Q I rx ry h
 ·exact iop_ext pins s σ H x y v u Q I rx ry h
theorem z0db {K:Fg} {H1 H:Hp} {al:Gh} {m:Mem} {σ : L2.St} {Q:VK} {x y:W} {xv yv:V} (r:Rel K H1 H al m) (hx:RpW K H1 al xv x) (hy:RpW K H1 al yv y) (p:Post K H1 al σ Wx (GV K Q) (augW x y m)):rAug xv yv H Q:=by
 unfold augW at p
 cases hl:x.loc with
 |some l=>
  rw[hl] at p
  dsimp only at p
  split at p
  ·rename_i us hus
   split at p
   ·rename_i zs hzs
    split at p
    ·rename_i hz
     split at p
     ·rename_i m' hm'
      obtain⟨a,vs,rfl,h1,h2,h3⟩:=zg1 r hx hl hus
      obtain⟨b,ws,rfl,h4,h5⟩:=(hy.rh r hzs).lst r.ex
      refine .inr (.inr ⟨a,b,vs,ws,rfl,rfl,h1,h4,by rw[h2.length,h5.length];exact hz,?_⟩)
      exact p H1 al _ (Ex.refl _) (z2b _) (h3 _ _ _ (h2.append (RpHs.ofD h5)) hm') _ hx
     ·exact p.elim
    ·exact p.elim
   ·exact p.elim
  ·exact p.elim
 |none=>
  rw[hl] at p
  dsimp only at p
  split at p
  ·rename_i i j
   cases (show Rp K H1 xv (.int i) from hx)
   cases (show Rp K H1 yv (.int j) from hy)
   exact .inl ⟨i,j,rfl,rfl,p.ok_ r _ (show Rp K H1 (V.int _) (D.int _) from .int _)⟩
  ·rename_i a b
   cases (show Rp K H1 xv (.str a) from hx)
   cases (show Rp K H1 yv (.str b) from hy)
   split at p
   ·rename_i hz
    exact .inr (.inl ⟨a,b,rfl,rfl,hz,p.ok_ r _ (show Rp K H1 (V.str _) (D.str _) from .str _)⟩)
   ·exact p.elim
  ·exact p.elim
theorem zgdb {i:Nat} {x:Str} {e:Expr} {fe:DE} {pos' pos:Pos} (hN:X.N.Nodup) (hi:X.N[i]?=some x) (hx:L2.Loc X.env.scope x) (he:PE X e (tD X.K Wx fe)) (hf:X.fn x=true∨X.env.scope.names.lookup x=some .local:=by first |exact .inl rfl |exact .inr rfl |assumption) :
  PS X (.AugAssign (.Name x pos') .Add e pos) (tS X.K Wx (sAug i fe)):=psImp (ps_aug hN hi hx he z2gb hf) fun En σ H ⟨H1,al,dl,m,r,en,p⟩=>by
 unfold sAug at p
 split at p
 ·rename_i w hw
  obtain⟨v,hv,q⟩:=en.at_ i w hw
  refine⟨v,hv,H1,al,dl,m,r,en,p.of en fun y m1 H1' al' H' e1 l1 r1 p1 yv hy=>?_⟩
  have en1:=en.mono e1 l1
  exact z0db (Wx:=Wx) (σ := σ) r1 (q.mono e1 l1) hy (p1.of en1 fun z m2 H2 al2 H2' e2 l2 r2 p2 zv hz=>p2.nx_ r2 ((en1.mono e2 l2).set i hz))
 ·exact p.elim
theorem zvcb:PGet X (fun x y H Q=>∃(p:Addr) (xs:List V) (i:Int) (v:V),x = .ref p∧y = .int i∧SqL X.K H p xs∧0≤i∧xs[i.toNat]?=some v∧Q v H):=by
 intro pins s σ H x y v u Q I rx ry h
 obtain⟨p,xs,i,z,rfl,rfl,hq,h0,he,q⟩:=h
 cases rx
 obtain⟨t,rfl⟩:=ry
 obtain⟨its,r,pl,hz⟩:=I.list hq
 obtain⟨w,ew,rw'⟩:=r.get he
 have hl:=r.length
 have hn:=line63
 have hlt:=(yc.mp he).1
 exact wpAny_getItem_list pl.isList h0 (by omega) (by simpa using ew) ⟨z,H,I,rw',q⟩
def getLW (x y:W) (m:Mem):Res W:=match x.loc,y with
 |some l,.d (.int k)=>if 0≤k then (match l.get m with
  |some us=>(match us[k.toNat]? with
   |some h=>.ok h.toW m
   |none=>.no)
  |none=>.no) else .no
 |_,_=>.no
def zc1 (o i e:DE):DS:=fun dl m=>(o dl m).thenS dl fun x m1=>(i dl m1).thenS dl fun y m2=>(getLW x y m2).thenS dl fun z m3=>(e dl m3).thenS dl fun u m4=>(augW z u m4).thenS dl fun v m5=>match setLW v x y m5 with
 |some m6=>.nx dl m6
 |none=>.no
theorem zufb {o i e:Expr} {fo fi fe:DE} {tpos pos:Pos} (ho:PE X o (tD X.K Wx fo)) (hi:PE X i (tD X.K Wx fi)) (he:PE X e (tD X.K Wx fe))
  (ha:∀ov iv new,augStore i ov iv new=(do holding [new,ov,iv] (setItem ov iv new);release [new,ov,iv] [];pure .next):=by intros;rfl):PS X (.AugAssign (.Subscript o i tpos) .Add e pos) (tS X.K Wx (zc1 fo fi fe)):=
 psImp (ps_augS ho hi zvcb he z2gb set_list ha) fun En σ H ⟨H1,al,dl,m,r,en,p⟩=>by
  refine⟨H1,al,dl,m,r,en,p.of en fun x m1 Ha al1 Ha' e1 l1 r1 p1 xv hx=>?_⟩
  have en1:=en.mono e1 l1
  refine⟨Ha,al1,dl,m1,r1,en1,p1.of en1 fun y m2 Hb al2 Hb' e2 l2 r2 p2 yv hy=>?_⟩
  have en2:=en1.mono e2 l2
  have hx2:=hx.mono e2 l2
  cases hg:getLW x y m2 with
  |no=>rw[hg] at p2;exact p2.elim
  |exc _ _ _ _=>
   exfalso
   unfold getLW at hg
   split at hg
   ·split at hg
    ·split at hg
     ·split at hg <;> cases hg
     ·cases hg
    ·cases hg
   ·cases hg
  |ok z m3=>
   rw[hg] at p2
   unfold getLW at hg
   split at hg
   ·rename_i l k hl
    split at hg
    ·rename_i hk
     split at hg
     ·rename_i us hus
      split at hg
      ·rename_i h hh
       cases hg
       obtain⟨a,vs,rfl,h1,h2,h3⟩:=zg1 r2 hx2 hl hus
       cases (show Rp X.K Hb yv (.int k) from hy)
       obtain⟨zv,h4,h5⟩:=h2.get hh
       refine⟨a,vs,k,zv,rfl,rfl,SqL.of h1,hk,h4,?_⟩
       have p2':PostS X.K Hb al2 Wx En ((fe dl m2).thenS dl fun u m4=>(augW h.toW u m4).thenS dl fun v m5=>match setLW v x (W.d (D.int k)) m5 with
        |some m6=>SR.nx dl m6
        |none=>SR.no):=p2
       refine⟨Hb,al2,dl,m2,r2,en2,p2'.of en2 fun u m4 Hc al3 Hc' e3 l3 r3 p3 uv hu=>?_⟩
       have en3:=en2.mono e3 l3
       have hx3:=hx2.mono e3 l3
       have hz3:=(h5.w (al:=al2)).mono e3 l3
       refine z0db (Wx:=Wx) (σ := σ) r3 hz3 hu (p3.of en3 fun w m5 Hd al4 Hd' e4 l4 r4 p4 wv hw=>?_)
       have en4:=en3.mono e4 l4
       cases hs:setLW w x (.d (.int k)) m5 with
       |none=>rw[hs] at p4;exact p4.elim
       |some m6=>
        rw[hs] at p4
        obtain⟨a',vs',j,n,ea,ej,h6,h7,h8⟩:=z51 (iv:=.int k) r4 hw (hx3.mono e4 l4) (show RpW X.K Hd al4 (V.int k) (.d (.int k)) from Rp.int k) hs
        cases ea
        cases ej
        exact⟨a,vs',k,n,rfl,rfl,h6,h7,p4.nx_ h8 en4⟩
      ·cases hg
     ·cases hg
    ·cases hg
   ·cases hg
end
section
variable {P:Program} {w:World} {K:Fg} {mg:Str→Option Value} {base:Heap} {x qual:Str} {params:Arguments} {body:List Stmt} {scope:Scope} {f:Addr} {fd:FuncData} {ps:List Str} {k:Nat} {R:DF}
theorem z94 {dvs:List V} (F:FunD K x qual params body scope dvs [] f fd) (Fo:FnG P w K mg base k f fd ps (spD K ps.length R)) (n:Nat) (ks:List Str) (dd:List D) (ix:List Nat) (hd:dvs≠[]) (hds:Imms dvs dd)
  (h:∀(T:Addr) (kV doc pm:Value) (an:Option Addr) (cdv ct:Value) (us ws its:List Value),us.length=n→ws.length=ks.length→its.length=dvs.length →
    ∃k,bindArgs (y1d x qual params body scope (.ref T) kV doc pm an cdv ct) ⟨us,ks.zip ws⟩=PySem.seqItems? (.ref T) >>= k∧k (some its.toArray)=pure (ps.zip (sel ix (us++ws++its)))) :
  FnK P w K mg base k f ks (kwF (n+ks.length) dd ix (lenF ps.length R)):=by
 intro A outer s H us ws vs zs Q E hr e0 r rz lw hs
 obtain⟨hl,q⟩:=kw_sp hds hs
 obtain⟨oc,od,dV,kV,doc,pm,an,cdv,ct,osl,rfl,lk,hcd,hD,hK⟩:=F.ex
 rcases hD with ⟨e,_⟩ |⟨_,T,o,its,m,rfl,lT,oT,rT⟩
 ·exact absurd e hd
 ·have lu:us.length=n:=by
   rw[yg,r.length,rz.length,lw] at hl
   omega
  have X:=e0.mod.kin.keeps fun b o e=>(e0.bs b o e).1
  obtain⟨g,e1,e2⟩:=h T kV doc pm an cdv ct us ws its lu lw rT.length.symm
  exact Fo.go hr e0 (BindsTo.of_looks fun M=>by
   rw[e1]
   exact looks_items X lT oT (.of_pure e2)) (Vals.sel ((r.append rz).append rT) ix) q
/-- a def that is never asked -/
theorem zc9:FnD P w K mg base k f (fun _ _=>.no):=fun A outer s H us vs Q E hr e0 r hs=>by
 obtain⟨H1,al,m,ws,rl,hws,p⟩:=hs
 exact p.elim
end
/-- a built-in class of errors -/
structure EB (B newId initId:String) (tl:List Value):Prop where
 F:ExcBaseFacts B newId initId tl
 S:StoreFacts B tl "object.__setattr__" "object"
 ty:typeOf (.type B)=pure (.type "type")
 bo:bootBuiltins (Str.ofString B)=some (.type B)
 n1:(Str.ofString B)≠Str.ofString "__name__"
 n2:((Str.ofString B)==Str.ofString "__debug__")=false
 st:Manifest.isStub B=false
 hi:PySem.W.handedIn (.builtin initId)=true
theorem zgl:EB "LookupError" "LookupError.__new__" "LookupError.__init__" zn4:=
 ⟨PySem.F.excBase_LookupError,PySem.F.store_LookupError,by kernel_rfl,PyProof.Rows.Boot.LookupError,by decide,by decide,by decide +kernel,by decide +kernel⟩
theorem ze3:EB "OverflowError" "OverflowError.__new__" "OverflowError.__init__" zybb:=
 ⟨PySem.F.excBase_OverflowError,PySem.F.store_OverflowError,by kernel_rfl,PyProof.Rows.Boot.OverflowError,by decide,by decide,by decide +kernel,by decide +kernel⟩
/-- what the head must say of such a class -/
structure OxB (K:Fg) (newId:String) (tl:List Value) (C:Addr):Prop where
 i0:PySem.W.excInitIn K C tl newId=true
 ov:PySem.W.excOver K C tl=true
 hdd:PySem.W.hasDictIn K C=true
 sta:yh K (.ref C) "__setattr__" = some (some (.builtin "object.__setattr__"))
 exb:yrb K (.ref C) (.type "BaseException")=some true
 tyb:ytc K (.ref C)=some (.type "type")
 kpb:ym K (.ref C)=true
structure ErrB (K:Fg) (newId:String) (tl:List Value) (C f:Str) (fI:Addr):Prop where
 ox:OxB K newId tl (He.ga K C)
 ini:yh K (.ref (He.ga K C)) "__init__" = some (some (.ref fI))
 typ:ytc K (.ref fI)=some (.type "function")
 noF:yh K (.ref (He.ga K C)) f=some none
section
variable {X:Cx} {B newId initId:String} {tl:List Value}
theorem zqfb {pins:List (Addr × Obj)} {σ : L2.St} {H:Hp} {s:Shared} {q c:Addr} {f:Str} {y:V} {u:Value} {Q:Unit→Shared→Prop} {E:Value→Shared→Prop} {A:Around} (N:EB B newId initId tl) (T:OxB X.K newId tl c) (I:Inv X pins σ H s) (hq:H q=some (exo q c none)) (hf:yh X.K (.ref c) f=some none) (r:RelV y u)
  (k:∀b s',H b=none→b≠q→Inv X pins σ (upd (upd H b (exd b [(f,y)])) q (exo q c (some b))) s'→Q () s'):wpAny (model X.prog X.w) A (setAttr (.ref q) f u) Q E s:=by
 obtain⟨t1,hobj⟩:=exo_at I.hok hq
 obtain⟨cd,hcl,hdict⟩:=PySem.W.any_some T.hdd
 obtain⟨g0,gs,dr,tk,os⟩:=s
 have lt:q<g0.objs.size:=Heap.lt_size hobj
 refine PySem.W.set_plain I.kIn (od:=none) ⟨hobj,rfl,rfl,trivial⟩ T.sta (PySem.W.osa_openX (r:=none) (od:=none) N.S I.kIn ⟨hobj,rfl,rfl,trivial⟩ T.ov (by unfold PySem.W.takerIn;rw[hf];rfl) fun bb=>?_)
 refine wpAny_bind (wpAny_pure (wpAny_bind (PySem.W.instanceDict_exc hobj (PySem.W.looks_clsIn I.kIn hcl) hdict ?_)))
 obtain⟨b,eb⟩:∃b,b=g0.objs.size:=⟨_,rfl⟩
 show wpAny _ _ (Builtin.ObjectAttr.storeInDict g0.objs.size (.str f tk) f u) _ _ _
 have ne:b≠q:=by rw[eb];exact Nat.ne_of_gt lt
 obtain⟨g1,e1⟩:∃g1:Heap,g1=(g0.push (PySem.W.dictOf [] 0)).update q fun o=>{o with dict:=some g0.objs.size}:=⟨_,rfl⟩
 have hnew:g1.get? b=some (PySem.W.dictOf [] 0):=by
  subst e1 eb
  exact (Heap.get?_update_ne _ _ _ _ ne).trans (Heap.get?_push_at rfl rfl)
 have hself:g1.get? q=some ({cls:=.ref c,dict:=some b,data:=.fields #[.ref t1,.none,.none,.none,.bool false,.none]}:Obj):=by
  subst e1 eb
  exact Heap.get?_update_self _ (Heap.get?_push_of_some _ hobj) rfl
 have hold:∀a o,a≠q→g0.get? a=some o→g1.get? a=some o:=fun a o ha ho=>by
  subst e1
  exact (Heap.get?_update_ne _ _ _ _ ha).trans (Heap.get?_push_of_some _ ho)
 show wpAny _ _ _ _ _ ({heap:=(g0.push (PySem.W.dictOf [] 0)).update q fun o=>{o with dict:=some g0.objs.size},gens:=gs,drawn:=dr,toks:=tk+1,os:=os}:Shared)
 rw[←e1,←eb]
 refine PySem.HandSPX.store_in_new ⟨_,#[],_,hnew,rfl,(fun e he=>absurd he (by simp)),fun _=>rfl⟩ fun g2 tk2 hn2 hs2=>?_
 have hb:H b=none:=I.hok.fresh (by rw[eb];exact yp _)
 have keep:∀a o,a≠q→g0.get? a=some o→g2.get? a=some o:=fun a o ha ho=>(hs2.2 a (by rw[eb];exact y0d (Heap.lt_size ho))).trans (hold a o ha ho)
 have selfE:g2.get? q=some ({cls:=.ref c,dict:=some b,data:=.fields #[.ref t1,.none,.none,.none,.bool false,.none]}:Obj):=(hs2.2 q (Ne.symm ne)).trans hself
 have outQ:∀{a:Addr},H a=none→a≠q:=fun {a} z e=>by
  rw[e,hq] at z
  cases z
 have outB:∀{a:Addr} {o:Obj},g0.get? a=some o→a≠b:=fun {a o} z=>by
  rw[eb]
  exact y0d (Heap.lt_size z)
 refine k b _ hb ne (I.un (t':=tk2) ⟨fun a o z n _ _=>keep a o (outQ n) z,fun a o z n _ _=>⟨o.slots,keep a o (outQ n) z⟩,fun a o z n _=>?_,fun a o z _=>?_,fun a xs z=>?_,fun a o v z=>?_,fun a ps z=>⟨#[],?_⟩⟩ fun a o z=>?_)
 ·rw[upd_ne (outQ n),upd_ne (outB z)]
  exact n
 ·by_cases ha:a=q
  ·exact⟨_,ha ▸ selfE⟩
  ·exact⟨o,keep a o ha z⟩
 ·rw[upd_ne (at_ne hq z exo_tup),upd_ne (ne_of_none z hb)]
  exact z
 ·rw[upd_ne (at_ne hq z exo_frz),upd_ne (ne_of_none z hb)]
  exact z
 ·rw[upd_ne (at_ne hq z exo_tbl),upd_ne (ne_of_none z hb),z]
  simp
 ·by_cases ha:a=q
  ·subst ha
   rw[upd_same] at z
   cases z
   exact exo_ok selfE
  ·rw[upd_ne ha] at z
   by_cases ha2:a=b
   ·subst ha2
    rw[upd_same] at z
    cases z
    exact exd_ok hn2 (relO_put (fs:=[]) r fun _=>True.intro)
   ·rw[upd_ne ha2] at z
    have noQ:∀{d:Addr},(d=a∨H d=some (.own a))→d≠q:=fun {d} hd=>hd.elim (fun e=>e ▸ ha) fun e=>at_ne hq e exo_own
    refine (I.hok a o z).stay (fun d v hd=>keep d v (noQ hd)) (fun d hd=>?_) (fun d xs hd=>?_)
    ·rw[upd_ne (at_ne hq hd exo_own),upd_ne (ne_of_none hd hb)]
     exact hd
    ·rw[upd_ne (at_ne hq hd exo_tup),upd_ne (ne_of_none hd hb)]
     exact hd
/-- B.__init__(self, ..): nothing of it is told -/
theorem zijb {pins:List (Addr × Obj)} {σ : L2.St} {H:Hp} {s:Shared} {q c:Addr} {us:List Value} {Q:Value→Shared→Prop} {E:Value→Shared→Prop} {A:Around} (N:EB B newId initId tl) (T:OxB X.K newId tl c) (I:Inv X pins σ H s) (hq:H q=some (exo q c none)) (hz:us.length≤sizeLine) (k:∀s',Inv X pins σ H s'→Q .none s') :
  wpAny (model X.prog X.w) A (call (.builtin initId) (.ref q::us)) Q E s:=by
 obtain⟨t1,hobj⟩:=exo_at I.hok hq
 obtain⟨g0,gs,dr,tk,os⟩:=s
 obtain⟨nm,N',qn,bs,bm,hdct,sn,sub,ab,col,dd,k0,k1,k2,k3,k5,hC,hT⟩:=PySem.W.excInit_of I.kIn T.i0
 refine wpAny_call (PySem.HandSPX.init_base N.F hT hC hobj hz fun g2 t2 kp hx=>k _ ?_)
 have J:=I.write (t':=tk) (x:=q) (e:=q) (o:=exo q c none) (by rw[hq];exact True.intro) (.inl rfl) kp ⟨_,hx⟩ (exo_ok hx)
 have same:upd H q (exo q c none)=H:=funext fun a=>by
  by_cases ha:a=q
  ·rw[ha,upd_same,hq]
  ·rw[upd_ne ha]
 rwa [same] at J
def tInB (K:Fg) (newId:String) (tl:List Value) (ta:TA):TE:=fun σ H Q=>ta σ H fun vs H1=>∃(q c:Addr) (ws:List V),vs = .ref q::ws∧ws.length≤1000∧OxB K newId tl c∧H1 q=some (exo q c none)∧Q .non H1
def tStB (K:Fg) (newId:String) (tl:List Value) (f:Str) (to te:TE):TS:=fun D σ H=>te σ H fun y H1=>to σ H1 fun x H2=>∃q c:Addr,x = .ref q∧OxB K newId tl c∧yh K (.ref c) f=some none ∧
 (H2 q=some (exo q c none)∧∀b,H2 b=none→b≠q→D.nx σ (upd (upd H2 b (exd b [(f,y)])) q (exo q c (some b))))
theorem zwbb {e:Expr} {es:List Expr} {ta:TA} {p1 p2 pos:Pos} {pl:Sem Bool} (N:EB B newId initId tl) (hg:Gl X (Str.ofString B)) (hm:X.mg (Str.ofString B)=none) (vV:y4b X.K (.type B) (.type "type") "__init__" = some (.val (.builtin initId))) (ha:PA X (e::es) ta)
  (hc:eval (.Call (.Attribute (.Name (Str.ofString B) p1) "__init__" p2) (e::es) [] pos) X.env=(do
    let tv ←eval (.Name (Str.ofString B) p1) X.env
    standAt p2.atName
    let (fv,fst) ←holding [tv] (getMethod tv "__init__" pl)
    callWith pos fv fst (backTo pos (starEach (e::es) X.env)) (backToKw pos (keywordEach [] X.env))):=by rfl)
  (hst:starEach (e::es) X.env=(false,eval e X.env)::starEach es X.env:=by rfl) (hpl:(backTo pos (starEach es X.env)).any (·.1)=false:=by rfl) :
  PE X (.Call (.Attribute (.Name (Str.ofString B) p1) "__init__" p2) (e::es) [] pos) (tInB X.K newId tl ta):=by
 refine⟨fun pins s σ H Q I h=>ydc (ld_blt I hg hm N.bo ?_ N.n1 N.n2) hc⟩
 obtain⟨m,fr⟩:=I.fr
 refine PySem.W.method_type fr I.ok.mod.kin N.ty N.st vV N.hi ?_
 show wpAny _ _ (callWith pos (Value.builtin initId) [] (backTo pos (starEach (e::es) X.env)) []) _ _ _
 refine PyProof.Rows.callWith_method1 (thn (ha.run pos pins _ σ H _ (I.tok _) h) fun us s1 ⟨vs,H1,I1,r1,q,c,ws,ev,hz,T,hq,k⟩=>?_) hst hpl
 subst ev
 cases r1 with
 | @cons _ u0 _ ur ra rw'=>
   cases (show u0=Value.ref q from ra)
   exact zijb N T I1 hq (by rw[←Paired.length rw',sizeLine_eq];omega) fun s' J=>⟨.non,H1,J,rfl,k⟩
theorem znbb {o e:Expr} {to te:TE} {f:Str} {p' pos:Pos} (N:EB B newId initId tl) (ho:PE X o to) (he:PE X e te) (hs:swapsWith e (some (.Attribute o f p')) pos.line X.env=pure false:=by rfl):PS X (.Assign [.Attribute o f p'] e pos) (tStB X.K newId tl f to te):=
 ⟨fun pins s σ H D I h=>plainObj_wpAny_Assign_Attribute (thn (he.run pins s σ H _ I h) fun v s1 ⟨y,H1,I1,r1,q1⟩=>thn (ho.run pins s1 σ H1 _ I1 q1) fun u s2 ⟨x,H2,I2,r2,q,c,ex,T,hno,hq,k⟩=>by
  subst ex
  cases (show u=Value.ref q from r2)
  exact zqfb N T I2 hq hno r1 fun b s' n ne J=>⟨σ,_,J,k b n ne⟩) hs⟩
/-- C(e) over B -/
theorem zyeb {Wx:WX} {k n:Nat} {C f s0:Str} {fI:Addr} {fd:FuncData} {e:Expr} {te:TE} {p pos:Pos} (N:EB B newId initId tl) (T:ErrB X.K newId tl C f fI) (F1:FnG X.prog X.w X.K X.mg X.base k fI fd [s0,f] (spErr X.K C f n)) (hb:Binds X.K fd [s0,f] []) (room:RoomG (k+1) X.A) (hg:Gl X C) (hm:X.mg C=some (.ref (He.ga X.K C))) (he:PE X e te)
  (hdb:(C==("__debug__" : Str))=false:=by decide) (hst:starEach [e] X.env=[(false,eval e X.env)]:=by rfl):L2N.PMk X (.Call (.Name C p) [e] [] pos) (tMkE X.K C f n te):=by
 intro pins s σ H Q I h
 have h2:tCons te tNil σ H fun vs H1=>∃v p,vs=[v]∧Dp X.K H1 v p∧shOk n p=true∧∀dx,H1 dx=none→Q (.ref (He.ga X.K C)) (some dx) (upd H1 dx (.xd [(f,v)])):=by
  refine (show te σ H fun x H1=>_ from ?_)
  have mono:∀{Q1 Q2:VK},te σ H Q1→Q1=Q2→te σ H Q2:=fun a b=>b ▸ a
  refine mono h ?_
  funext v H1
  refine propext ⟨fun⟨p,z⟩=>⟨v,p,rfl,z⟩,fun⟨v',p,e',z⟩=>?_⟩
  cases e'
  exact⟨p,z⟩
 refine wpAny_Call_Name_kw (ld_glob I hg hm ?_ hdb)
 refine yuc (h₀:=X.base) I.ok.mod.kin T.ox.kpb (thn ((pa_cons he pa_nil hst).run pos pins s σ H _ I h2) fun us s1 ⟨vs,H1,I1,r1,v,pd,ev,dp,ok,want⟩=>⟨I1.kIn,?_⟩) hst rfl
 subst ev
 obtain⟨nm,N',qn,bs,bm,hdct,sn,sub,ab,col,dd,k0,k1,k2,k3,k5,hC,hT⟩:=PySem.W.excInit_of I1.kIn T.ox.i0
 obtain⟨hp,g,dr,tk,os⟩:=s1
 obtain⟨a,ea⟩:∃a,a=hp.objs.size+1:=⟨_,rfl⟩
 have big:hp.objs.size≤a:=by rw[ea];exact Nat.le_succ _
 have na:H1 a=none:=I1.hok.fresh big
 obtain⟨h1,eh⟩:∃h1,h1=(hp.push (PySem.W.kdv_tup us)).push (ycd (He.ga X.K C) hp.objs.size):=⟨_,rfl⟩
 have old:∀b o,hp.get? b=some o→h1.get? b=some o:=fun b o z=>by
  rw[eh]
  exact Heap.get?_push_of_some _ (Heap.get?_push_of_some _ z)
 have new:h1.get? a=some (ycd (He.ga X.K C) hp.objs.size):=by
  subst eh ea
  heap_get
 have I2:Inv X pins σ (upd H1 a (exo a (He.ga X.K C) none)) ⟨h1,g,dr,tk,os⟩:=I1.laid (t':=tk) old big (exo_ok new)
 have ex1:Ex H1 (upd H1 a (exo a (He.ga X.K C) none)):=ylb na
 have few:us.length≤sizeLine:=by
  rw[←r1.length]
  exact yy (show (1:Nat)≤2 by decide) (by decide)
 have rv:Vals [.ref a,v] (.ref a::us):=.cons rfl r1
 have bd:=hb ⟨h1,g,dr,tk,os⟩ (.ref a::us) I2.kIn (by rw[ygb,←rv.length] <;> rfl)
 rw[ygb] at bd
 have goal:spErr X.K C f n [.ref a,v] (upd H1 a (exo a (He.ga X.K C) none)) (fun z H2=>z = .non∧∃(d:Addr) (fs:List (Str × V)),H2 a=some (exo a (He.ga X.K C) (some d))∧H2 d=some (exd d fs)∧H1 d=none∧Q (.ref (He.ga X.K C)) (some d) (upd (del H2 a) d (.xd fs))) (fun _ _ _=>False):=by
  refine⟨a,v,pd,rfl,upd_same ..,Dp.ext ex1 dp,ok,fun dx nd ne=>⟨rfl,dx,_,upd_same ..,by rw[upd_ne ne,upd_same],?_,?_⟩⟩
  ·rw[upd_ne ne] at nd
   exact nd
  ·rw[upd_ne ne] at nd
   have same:upd (del (upd (upd (upd H1 a (exo a (He.ga X.K C) none)) dx (exd dx [(f,v)])) a (exo a (He.ga X.K C) (some dx))) a) dx (.xd [(f,v)])=upd H1 dx (.xd [(f,v)]):=by
    funext b
    by_cases h1:b=dx
    ·rw[h1,upd_same,upd_same]
    ·rw[upd_ne h1,upd_ne h1]
     by_cases h2:b=a
     ·rw[h2,del_same,na]
     ·rw[del_ne h2,upd_ne h2,upd_ne h1,upd_ne h2]
   rw[same]
   exact want dx nd
 subst ea
 show wpAny _ _ (call (.ref (He.ga X.K C)) us) _ _ _
 refine wpAny_call (PySem.HandSPX.call_own N.F hT hC (y4c I1.kIn T.ini) (fun self=>PySem.W.bind_fn I1.kIn self T.typ) few ?_)
 rw[←eh]
 refine codeAny_mono (F1.go (room.make _ us []) (I2.env0.make _ us []) bd rv goal) fun r s' hq=>?_
 match r,hq with
 |.error er,hq=>exact (zq9 hq).elim
 |.ok .next,hq=>exact y7 hq
 |.ok .brk,hq=>exact y7 hq
 |.ok .cont,hq=>exact y7 hq
 |.ok (.ret u),hq=>
  obtain⟨z,H2,os2,bare2,un2,ok2,rz,ez,d,fs,e1,e2,e3,e4⟩:=hq
  subst ez
  obtain⟨h2',g2,d2,t2,os'⟩:=s'
  exact⟨rz,(z5bb (raises_own T.ox.exb T.ox.tyb) I1 big old un2 ok2 os2 bare2 e1 e2 e3 e4).1⟩
theorem zsp {Wx:WX} {k n:Nat} {C f s0:Str} {fI:Addr} {fd:FuncData} {e:Expr} {fe:DE} {p cpos pos:Pos} (N:EB B newId initId tl) (hc:X.calm=true) (tk:yk X Wx) (T:ErrB X.K newId tl C f fI) (F1:FnG X.prog X.w X.K X.mg X.base k fI fd [s0,f] (spErr X.K C f n)) (hb:Binds X.K fd [s0,f] []) (room:RoomG (k+1) X.A) (hg:Gl X C) (hm:X.mg C=some (.ref (He.ga X.K C))) (he:PE X e (tD X.K Wx fe))
  (hdb:(C==("__debug__" : Str))=false:=by decide) (hst:starEach [e] X.env=[(false,eval e X.env)]:=by rfl):PS X (.Raise (some (.Call (.Name C p) [e] [] cpos)) none pos) (tS X.K Wx (zvf C f n fe)):=
 psImp (L2N.ps_raise hc tk (zyeb (Wx:=Wx) N T F1 hb room hg hm he hdb hst)) fun En σ H ⟨H1,al,dl,m,r,en,q⟩=>by
  refine⟨H1,al,dl,m,r,en,q.of en fun w m1 H1' al' H' e1 l1 r' q' v hv=>?_⟩
  unfold raW at q'
  split at q'
  ·rename_i x
   split at q'
   ·rename_i pd hp
    split at q'
    ·rename_i ok
     refine⟨pd,ze8 r'.ex hv hp,ok,fun dx nd=>?_⟩
     have nd1:=r'.fresh1 nd
     exact q' _ al' _ σ v dx (ylb nd1) (z2b _) (r'.new nd) ((en.mono e1 l1).mono (ylb nd1) (z2b _)) (Rp.mono (ylb nd1) hv) upd_same
    ·exact q'.elim
   ·exact q'.elim
  ·exact q'.elim
end
theorem zi7 {K:Fg} {newId:String} {tl:List Value} {C f:Str} (c:fErrB newId tl C f K=true):ErrB K newId tl C f (He.ma K (He.ga K C) "__init__"):=by
 obtain⟨a1,c⟩:=He.ba c
 obtain⟨a2,c⟩:=He.ba c
 obtain⟨a3,c⟩:=He.ba c
 obtain⟨a4,c⟩:=He.ba c
 obtain⟨a5,c⟩:=He.ba c
 obtain⟨a6,c⟩:=He.ba c
 obtain⟨a7,c⟩:=He.ba c
 obtain⟨a8,c⟩:=He.ba c
 obtain⟨a9,a10⟩:=He.ba c
 exact⟨⟨a1,a2,a3,yxc a4,of_decide_eq_true a5,of_decide_eq_true a6,a7⟩,yxc a8,of_decide_eq_true a9,yxc a10⟩
theorem bi_of {K:Fg} {B initId:String} (c:fBi B initId K=true):y4b K (.type B) (.type "type") "__init__" = some (.val (.builtin initId)):=by
 unfold fBi at c
 split at c
 ·rename_i n e
  rw[e,beq_iff_eq.mp c]
 ·cases c
/-- a clause: its class, the classes that it lets pass, its slot, its suite -/
structure Cl where
 C:Str
 Es:List Str
 o:Option Nat
 h:Addr→Addr→DS
def mulTD:D→D→Option D
 |.tup a,.int k=>chk (a≠[]∧2≤k∧k≤1000∧a.length≤1000) (.tup (yn k.toNat a).flatten)
 |x,y=>mulD x y
section
variable {X:Cx} {Wx:WX}
theorem z1bb:OpOk X (binaryOp .Mult) mulTD:=by
 obtain⟨rm,h1,h2⟩:=zjk (X:=X)
 refine⟨_,zlr op_repT h1,fun H1 H al m v w x y z Q r hx hy hz k=>?_⟩
 by_cases hc:∃a n,x = .tup a∧y = .int n
 ·obtain⟨a,n,rfl,rfl⟩:=hc
  obtain⟨p,vs,rfl,e1,e2⟩:=hx.tup r.ex
  cases hy.int
  obtain⟨⟨c1,c2,c3,c4⟩,rfl⟩:=zuc hz
  refine .inl ⟨_,_,vs,rfl,rfl,e1,fun z=>c1 (List.length_eq_zero_iff.mp (by rw[←e2.length,z];rfl)),c2,c3,by rw[e2.length];exact c4,fun q hq=>?_⟩
  obtain⟨q1,q2,q3⟩:=z7k r (e2.rep _) hq
  exact k _ _ _ q1 q2 q3
 ·have hz':mulD x y=some z:=by
   unfold mulTD at hz
   split at hz
   ·exact absurd ⟨_,_,rfl,rfl⟩ hc
   ·exact hz
  exact .inr (h2 H1 H al m v w x y z Q r hx hy hz' k)
end
def kk (g:D→D→Option D) (x y:W) (m:Mem):Res Bool:=(lift2 g x y m).bind fun z m3=>tru z m3
theorem RpWs.app {K:Fg} {H1:Hp} {al:Gh}:∀{xs ys:List V} {us ws:List W},RpWs K H1 al xs us→RpWs K H1 al ys ws→RpWs K H1 al (xs++ys) (us++ws)
 |_,_,_,_,.nil,s=>s
 |_,_,_,_,.cons r t,s=>.cons r (RpWs.app t s)
theorem u1 {n:Nat} (h:n+64<cLine):n+2<cLine:=by omega
end DL
namespace DL
open PySem PySem.Spec L2
open PyProof.Rows hiding St
open Evl (Ex)
variable {P:Program} {w:World} {K:Fg} {mg:Str→Option Value} {base:Heap}
end DL
namespace DL
open PySem PySem.Spec L2
open PyProof.Rows hiding St
open Evl (Ex)
theorem RoomX.make {k:Nat} {A:Around} (r:RoomX (k+1) A) (C:Addr) (us:List Value) (kw:List (Str × Value)):RoomX k (A.under (.builtin "type.__call__" ⟨.ref C::us,kw⟩)):=⟨r.toRoomH.make C us kw,by
 have:=r.gd
 first |exact this |simpa [Around.under,Code.guards,Code.isGuard,guardIds,pushGuards] using this⟩
/-- numbers know the operator, and decline -/
structure NumOp (op:Operator):Prop where
 fi:fillsNumberSlot (.type "int") op.info.2=pure true
 fb:fillsNumberSlot (.type "bool") op.info.2=pure true
 go:∃id,Slot "int" (y5 op.info.2) id∧Slot "bool" (y5 op.info.2) id ∧
  (∀(prog:Program) (w:World) (A:Around) (E:Value→Shared→Prop) (s:Shared) (a C dx:Addr) (i:Int) (t:Tok) (Q:Value→Shared→Prop),s.heap.get? a=some (PySem.W.instObj C dx)→Q .notImplemented s→wpAny (model prog w) A (call (.builtin id) [.int i t,.ref a]) Q E s) ∧
  (∀(prog:Program) (w:World) (A:Around) (E:Value→Shared→Prop) (s:Shared) (a C dx:Addr) (b:Bool) (Q:Value→Shared→Prop),s.heap.get? a=some (PySem.W.instObj C dx)→Q .notImplemented s→wpAny (model prog w) A (call (.builtin id) [.bool b,.ref a]) Q E s)
theorem zlt:NumOp .Add:=by
 refine⟨F.fills_int_add,F.fills_bool_add, "int.__add__",F.slot_int_add,F.slot_bool_add,fun prog w A E s a C dx i t Q ho h=>?_,fun prog w A E s a C dx b Q ho h=>?_⟩
 ·refine wpAny_call_entry F.slot_int_add (typeIs_int s i t) F.entry_int_add ?_ (F.args_int_add_2 _ _)
  show wpAny _ _ (asInt? (.ref a) >>= _) _ _ s
  unfold asInt?
  exact wpAny_bind (wpAny_bind (wpAny_load ho (wpAny_pure (wpAny_bind (wpAny_rule (wpAny_pure ⟨_,rfl,h⟩))))))
 ·refine wpAny_call_entry F.slot_bool_add (PySem.typeIs_bool s b) F.entry_int_add ?_ (F.args_int_add_2 _ _)
  show wpAny _ _ (asInt? (.ref a) >>= _) _ _ s
  unfold asInt?
  exact wpAny_bind (wpAny_bind (wpAny_load ho (wpAny_pure (wpAny_bind (wpAny_rule (wpAny_pure ⟨_,rfl,h⟩))))))
section
open PySem.W (Looks)
variable {prog:Program} {w:World} {A:Around} {E:Value→Shared→Prop} {K:Fg}
theorem ztab {op:Operator} {s:Shared} {a C f g:Addr} {v:Value} {T:String} {oa:Obj} {od:Option Obj} {Q:Value→Shared→Prop} (kin:K.In s.heap) (J:PySem.W.InstAt s.heap a oa C od) (sf:yyb K C=true) (ty:Looks (model prog w) s.heap (typeOf v) (.type T))
  (own:yh K (.ref C) (y5 op.info.2)=some (some (.ref f))) (rown:yh K (.ref C) (dunderR op.info.2)=some (some (.ref g))) (fn:yhb K (.ref g)=true) (nf:ze2 op K T=true)
  (go:wpAny (model prog w) A (call (.ref g) [.ref a,v]) (ykc Q) E s):wpAny (model prog w) A (binaryOp op v (.ref a)) Q E s:=by
 obtain⟨cd,rest,isC,first⟩:=y2b sf
 have got:=ydd kin J rown fn go
 obtain⟨fo,ro,q1,q2,q3⟩:∃fo ro,yh K (.type T) (y5 op.info.2)=some fo∧yh K (.type T) (dunderR op.info.2)=some ro∧((fo.isSome && !isSeqSlot fo) ||(ro.isSome && !isSeqSlot ro))=false:=by
  unfold ze2 at nf
  split at nf
  ·rename_i fo ro h1 h2
   exact⟨fo,ro,h1,h2,ypd _ |>.mp nf⟩
  ·cases nf
 rcases hop:op.info with ⟨sg,nm⟩
 rw[hop] at own rown q1 q2 got
 dsimp only at own rown q1 q2 got
 have fillsR:=ylc (M:=model prog w) kin isC first own
 have fillsL:=PySem.W.ksp_fillsT (M:=model prog w) kin q1 q2
 rw[q3] at fillsL
 have tyR:Looks (model prog w) s.heap (typeOf (.ref a)) (.ref C):=J.type
 obtain⟨hp0,gs0,dr0,tk0,os0⟩:=s
 simp only[binaryOp,hop]
 refine wpAny_holding (wpAny_bind ?_)
 unfold binaryOp1
 refine wpAny_bind (ty.at (wpAny_bind (tyR.at (wpAny_bind (fillsL.at ?_)))))
 have neC:(Value.type T==Value.ref C)=false:=y2c.mpr fun z=>by cases beq_iff_eq.mp z
 simp only[neC,ykb,if_false]
 ksp_lk
 refine wpAny_mono got (fun r s' hr=>?_) fun _ _ z=>z
 obtain⟨v,rfl,hq⟩:=hr
 ksp_lk
 exact hq
theorem zw1 {op:Operator} {s:Shared} {a C f g:Addr} {v:Value} {T id:String} {oa:Obj} {od:Option Obj} {Q:Value→Shared→Prop} (kin:K.In s.heap) (J:PySem.W.InstAt s.heap a oa C od) (sf:yyb K C=true) (ty:s.TypeIs v T)
  (own:yh K (.ref C) (y5 op.info.2)=some (some (.ref f))) (rown:yh K (.ref C) (dunderR op.info.2)=some (some (.ref g))) (fn:yhb K (.ref g)=true) (fills:fillsNumberSlot (.type T) op.info.2=pure true) (sub:yrb K (.ref C) (.type T)=some false)
  (slot:Slot T (y5 op.info.2) id) (dec:∀Q':Value→Shared→Prop,Q' .notImplemented s→wpAny (model prog w) A (call (.builtin id) [v,.ref a]) Q' E s)
  (tyv:Looks (model prog w) s.heap (typeOf v) (.type T))
  (go:wpAny (model prog w) A (call (.ref g) [.ref a,v]) (ykc Q) E s):wpAny (model prog w) A (binaryOp op v (.ref a)) Q E s:=by
 obtain⟨cd,rest,isC,first⟩:=y2b sf
 have got:=ydd kin J rown fn go
 have tl:∀Q':Option Value→Shared→Prop,Q' none s→wpAny (model prog w) A (tryMethod v (y5 op.info.2) (.ref a)) Q' E s:=fun Q' h=>wpAny_tryMethod_declines ty slot (dec _ ⟨rfl,h⟩)
 rcases hop:op.info with ⟨sg,nm⟩
 rw[hop] at own rown got fills tl
 dsimp only at own rown got fills tl
 have fillsR:=ylc (M:=model prog w) kin isC first own
 have fillsL:Looks (model prog w) s.heap (fillsNumberSlot (.type T) nm) true:=Looks.of_pure fills
 have tyR:Looks (model prog w) s.heap (typeOf (.ref a)) (.ref C):=J.type
 have L5:Looks (model prog w) s.heap (isSubtype (.ref C) (.type T)) false:=yoc kin sub
 have L7:Looks (model prog w) s.heap (numberSlotInPython (.type T) nm) false:=Looks.of_pure rfl
 obtain⟨hp0,gs0,dr0,tk0,os0⟩:=s
 simp only[binaryOp,hop]
 refine wpAny_holding (wpAny_bind ?_)
 unfold binaryOp1
 refine wpAny_bind (tyv.at (wpAny_bind (tyR.at (wpAny_bind (fillsL.at ?_)))))
 have neC:(Value.type T==Value.ref C)=false:=y2c.mpr fun z=>by cases beq_iff_eq.mp z
 simp only[neC,ykb,if_false]
 ksp_lk
 refine tl _ ?_
 ksp_lk
 refine wpAny_mono got (fun r s' hr=>?_) fun _ _ z=>z
 obtain⟨v,rfl,hq⟩:=hr
 ksp_lk
 exact hq
end
structure RopO (op:Operator) (ts:List String) (P:Program) (w:World) (K:Fg) (mg:Str→Option Value) (base:Heap) (k:Nat) (C:Str) (F:DF):Prop where
 ex:∃f g,yh K (.ref (He.ga K C)) (y5 op.info.2)=some (some (.ref f))∧yh K (.ref (He.ga K C)) (dunderR op.info.2)=some (some (.ref g))∧yhb K (.ref g)=true∧FnD P w K mg base k g F
 sf:yyb K (He.ga K C)=true
 nf:∀T∈ts,ze2 op K T=true
 si:yrb K (.ref (He.ga K C)) (.type "int")=some false
 sb:yrb K (.ref (He.ga K C)) (.type "bool")=some false
theorem zm6 {op:Operator} {fn rn:Str} {ts:List String} {K:Fg} {P:Program} {w:World} {mg:Str→Option Value} {base:Heap} {k:Nat} {C:Str} {F:DF} (c:fRopO op fn rn ts C K=true) (e1:y5 op.info.2=fn) (e2:dunderR op.info.2=rn) (h:FnD P w K mg base k (He.ma K (He.ga K C) rn) F):RopO op ts P w K mg base k C F:=by
 obtain⟨c1,c⟩:=He.ba c
 obtain⟨c2,c⟩:=He.ba c
 obtain⟨c3,c⟩:=He.ba c
 obtain⟨c4,c⟩:=He.ba c
 obtain⟨c5,c6⟩:=He.ba c
 exact⟨⟨_,_,by rw[e1];exact (z8d c2).1,by rw[e2];exact (z8d c1).1,(z8d c1).2.1,h⟩,c3,yxb.mp c4,of_decide_eq_true c5,of_decide_eq_true c6⟩
theorem z9cb:y5 (Operator.info .Add).2=("__add__" : Str):=by decide +kernel
theorem z8cb:dunderR (Operator.info .Add).2=("__radd__" : Str):=by decide +kernel
theorem zvy {w:W} {m:Mem} {k n:Nat} (h:zot w m=some (k,n)):w = .h k∧∃ws,(heapOf m)[k]?=some (.lst ws)∧ws.length=n:=by
 unfold zot at h
 split at h
 ·split at h
  ·rename_i ws hw
   cases h
   exact⟨rfl,ws,hw,rfl⟩
  ·cases h
 ·cases h
theorem zwq {m:Mem} {k n:Nat} {ws:List HW} (h:liveH k n m=some ws):(heapOf m)[k]?=some (.lst ws)∧ws.length=n:=by
 unfold liveH at h
 split at h
 ·rename_i ws' hw
  split at h
  ·cases h
   exact⟨hw,by assumption⟩
  ·cases h
 ·cases h
section
variable {X:Cx} {Wx:WX}
theorem zvq {K:Fg} {H1 H:Hp} {al:Gh} {m:Mem} {k:Nat} {a:Addr} {ws:List HW} (r:Rel K H1 H al m) (ha:al.al.ha[k]?=some a) (hc:(heapOf m)[k]?=some (.lst ws)):∃vs,SqL K H a vs∧RpHs K H1 al.al.ha vs ws:=by
 obtain⟨c,h1,h2⟩:=r.hat ha
 rw[hc] at h1
 cases h1
 obtain⟨vs,q1,q2⟩:=h2
 exact⟨vs,SqL.of q1,q2⟩
end
structure PNo (X:Cx) (sts:List Stmt) (t:L2.St→Hp→(Hp→Prop)→Prop):Prop where
 run:∀(pins:List (Addr × Obj)) (s:Shared) (σ : L2.St) (H:Hp) (R:Hp→Prop),Inv X pins σ H s→t σ H R→wpAny (model X.prog X.w) X.A (execs sts X.env) (fun fl s'=>fl = .ret .notImplemented∧∃ σ' H',Inv X pins σ' H' s'∧R H') X.xe s
theorem zukb {X:Cx} {c:Expr} {tc:TT} {np rp pos:Pos} {rest:List Stmt} (hc:PT X c tc) (hg:Gl X "NotImplemented") (hm:X.mg "NotImplemented" = none):PNo X (.If c [.Return (some (.Name "NotImplemented" np)) rp] [] pos::rest) (fun σ H R=>tc σ H fun b H'=>b=true∧R H'):=by
 refine⟨fun pins s σ H R I h=>?_⟩
 refine wpAny_execs_cons (wpAny_If (thn (hc.run pins s σ H _ I h) fun d s1 ⟨H1,I1,q1⟩=>?_))
 obtain⟨rfl,q1⟩:=q1
 exact wpAny_execs_cons (wpAny_Return_some (ld_blt I1 hg hm (u:=.notImplemented) (by decide +kernel) ⟨rfl,σ,H1,I1,q1⟩))
section
variable {P:Program} {w:World} {K:Fg} {mg:Str→Option Value} {base:Heap}
/-- .. None where the test holds -/
def noF (n N:Nat) (b:DT):DF:=lenF n fun ws m=>(b (z1k N ws) m).bind fun c m1=>if c=true then .ok (.d .non) m1 else .no
theorem fn_No {x qual:Str} {params:Arguments} {body:List Stmt} {scope:Scope} {dvs:List V} {kws:List (Str × V)} {f:Addr} {fd:FuncData} {N ps:List Str} {k:Nat} {b:DT} (F:FunD K x qual params body scope dvs kws f fd) (S:FnScope N ps scope) (hbd:Binds K fd ps [])
  (hb:∀(cdv:Value) (A:Around) (outer:List PySem.Env) (s:Shared) (H:Hp) (E:XK),RoomG k (A.deeper (envOfC qual scope s.heap.objs.size f cdv)) →
    PNo (cxOf (L2N.CX P w) P w K mg base N qual scope f cdv A outer s H E) body (fun σ H' R=>tT K (fun c d _ H=>E c d H) b σ H' fun c H'=>c=true∧R H')):FnNo P w K mg base (k+1) f (noF ps.length N.length b):=by
 obtain⟨_,_,_,_,_,_,_,cdv,_,_,rfl,look,code,_,_⟩:=F.ex
 intro A outer s H us vs Q E room env vals want
 obtain⟨hl,H1,al,m,ws,rl,hws,p⟩:=z16 want
 have old:∀b o,base.get? b=some o→s.heap.get? b=some o:=fun b o e=>(env.bs b o e).1
 have kin:=env.mod.kin.keeps old
 have hl2:(us++[]).length=ps.length:=by rw[ygb,←vals.length];exact hl
 have bound:=hbd s us kin hl2
 rw[ygb] at bound
 refine codeAny_call_function room.depth (kin _ _ look) rfl S.co S.gen rfl (PySem.W.codeRec_of kin code) (bound _ _ _ _ (wpAny_newFunctionEnv_cells S.kind (zq8 S) ?_))
 rintro _ rfl s1 inside
 have ht:tT K (fun c d _ H=>E c d H) b (L2.start N vs) H fun c H'=>c=true∧Q .non H':=by
  refine⟨H1,al,z1k N.length ws,m,rl,RpE.start hws,?_⟩
  replace p:PostF K H1 al Q E ((b (z1k N.length ws) m).bind fun c m1=>if c=true then Res.ok (W.d D.non) m1 else Res.no):=p
  cases hq:b (z1k N.length ws) m with
  |no=>rw[hq] at p;exact p.elim
  |exc C f pp m1=>
   rw[hq] at p
   exact fun H1' al' H' v dx e l r hv hd=>p H1' al' H' v dx e l r hv hd
  |ok c m1=>
   rw[hq] at p
   cases c with
   |false=>exact p.elim
   |true=>exact fun H1' al' H' e l r=>⟨rfl,p H1' al' H' .non e l r (show Rp K H1' V.non D.non from .non)⟩
 refine⟨(env.mod.nolimit.keeps old).keeps inside.toInCall.keep,codeAny_func (wpAny_mono ((hb cdv A outer s H E (room.deeper _)).run [] s1 _ H _ (inv_start S room.hd env hl vals inside) ht) (fun fl s' h=>?_) fun _ _ z=>z)⟩
 obtain⟨rfl,σ',H',J,q⟩:=h
 exact⟨rfl,zd9 (X:=cxOf (L2N.CX P w) P w K mg base N qual scope f cdv A outer s H E) (Q:=Q) (fl:=.ret .none) ⟨V.non,σ',H',J,rfl,q⟩ rfl⟩
end
section
open PySem.W (Looks)
variable {prog:Program} {w:World} {A:Around} {E:Value→Shared→Prop} {K:Fg}
/-- what the head must say of x op y, x of C and y of C2 -/
structure Two (op:Operator) (K:Fg) (C C2:Addr):Prop where
 ne:C≠C2
 sb:yrb K (.ref C2) (.ref C)=some false
theorem z8fb {op:Operator} {s:Shared} {a b C C2 f f2:Addr} {oa ob:Obj} {od od2:Option Obj} {Q:Value→Shared→Prop} (kin:K.In s.heap) (J:PySem.W.InstAt s.heap a oa C od) (J2:PySem.W.InstAt s.heap b ob C2 od2) (B:BopC K C op) (B2:BopC K C2 op) (T:Two op K C C2)
  (own:yh K (.ref C) (y5 op.info.2)=some (some (.ref f))) (own2:yh K (.ref C2) (y5 op.info.2)=some (some (.ref f2))) (fn:yhb K (.ref f)=true)
  (go:wpAny (model prog w) A (call (.ref f) [.ref a,.ref b]) (ykc Q) E s):wpAny (model prog w) A (binaryOp op (.ref a) (.ref b)) Q E s:=by
 obtain⟨rc,hrc,isP⟩:=B.rc
 obtain⟨rc2,hrc2,isP2⟩:=B2.rc
 obtain⟨cd,rest,isC,first⟩:=y2b B.sf
 obtain⟨cd2,rest2,isC2,first2⟩:=y2b B2.sf
 have got:=ydd kin J own fn go
 rcases hop:op.info with ⟨sg,nm⟩
 rw[hop] at own own2 hrc hrc2 got
 dsimp only at own own2 hrc hrc2 got
 have fillsL:=ylc (M:=model prog w) kin isC first own
 have fillsR:=ylc (M:=model prog w) kin isC2 first2 own2
 have tyL:Looks (model prog w) s.heap (typeOf (.ref a)) (.ref C):=J.type
 have tyR:Looks (model prog w) s.heap (typeOf (.ref b)) (.ref C2):=J2.type
 have pyL:=y8c (M:=model prog w) kin own hrc isP
 have pyR:=y8c (M:=model prog w) kin own2 hrc2 isP2
 have sub:=yoc (M:=model prog w) kin T.sb
 have neC:(Value.ref C==Value.ref C2)=false:=y2c.mpr fun z=>T.ne (by cases beq_iff_eq.mp z;rfl)
 obtain⟨hp0,gs0,dr0,tk0,os0⟩:=s
 simp only[binaryOp,hop]
 refine wpAny_holding (wpAny_bind ?_)
 unfold binaryOp1
 refine wpAny_bind (tyL.at (wpAny_bind (tyR.at (wpAny_bind (fillsL.at ?_)))))
 simp only[neC,ykb,if_false]
 ksp_lk
 refine wpAny_mono got (fun r s' hr=>?_) fun _ _ z=>z
 obtain⟨v,rfl,hq⟩:=hr
 ksp_lk
 exact hq
end
section
open PySem.W (Looks)
variable {prog:Program} {w:World} {A:Around} {E:Value→Shared→Prop} {K:Fg}
theorem zgkb {M:Model} {s:Shared} {x C f:Addr} {ox:Obj} {od:Option Obj} {name:Str} {b:Value} {R:Shared→Prop} (kin:K.In s.heap) (J:PySem.W.InstAt s.heap x ox C od) (hs:yh K (.ref C) name=some (some (.ref f))) (hf:yhb K (.ref f)=true)
  (h:wpAny M A (call (.ref f) [.ref x,b]) (fun v s'=>v = .notImplemented∧R s') E s):wpAny M A (tryMethod (.ref x) name b) (fun r s'=>r=none∧R s') E s:=by
 unfold tryMethod
 refine wpAny_bind (PySem.W.special_fn kin J hs (beq_iff_eq.mp hf) (wpAny_mono h (fun v s' hv=>?_) fun _ _ e=>e))
 obtain⟨rfl,hr⟩:=hv
 exact wpAny_pure ⟨rfl,hr⟩
theorem z4jb {op:Operator} {s:Shared} {a b C C2 f g f2:Addr} {oa ob:Obj} {od od2:Option Obj} {Q:Value→Shared→Prop} {R:Shared→Prop} (kin:K.In s.heap) (J:PySem.W.InstAt s.heap a oa C od) (J2:PySem.W.InstAt s.heap b ob C2 od2) (B:BopC K C op) (B2:BopC K C2 op) (T:Two op K C C2)
  (own:yh K (.ref C) (y5 op.info.2)=some (some (.ref f))) (own2:yh K (.ref C2) (y5 op.info.2)=some (some (.ref f2))) (fn:yhb K (.ref f)=true)
  (rown2:yh K (.ref C2) (dunderR op.info.2)=some (some (.ref g))) (fn2:yhb K (.ref g)=true)
  (no:wpAny (model prog w) A (call (.ref f) [.ref a,.ref b]) (fun v s'=>v = .notImplemented∧R s') E s)
  (next:∀s',R s'→K.In s'.heap∧(∃oa' od',PySem.W.InstAt s'.heap a oa' C od')∧∃ob' od2',PySem.W.InstAt s'.heap b ob' C2 od2'∧wpAny (model prog w) A (call (.ref g) [.ref b,.ref a]) (ykc Q) E s'):wpAny (model prog w) A (binaryOp op (.ref a) (.ref b)) Q E s:=by
 obtain⟨rc,hrc,isP⟩:=B.rc
 obtain⟨rc2,hrc2,isP2⟩:=B2.rc
 obtain⟨cd,rest,isC,first⟩:=y2b B.sf
 obtain⟨cd2,rest2,isC2,first2⟩:=y2b B2.sf
 have got:=zgkb kin J own fn no
 have next2:∀s',R s'→Looks (model prog w) s'.heap (typeOf (.ref a)) (.ref C)∧Looks (model prog w) s'.heap (typeOf (.ref b)) (.ref C2)∧wpAny (model prog w) A (tryMethod (.ref b) (dunderR op.info.2) (.ref a)) (fun r s'=>∃v,r=some v∧Q v s') E s':=fun s' h=>by
  obtain⟨k1,⟨oa',od',j1⟩,ob',od2',j2,c⟩:=next s' h
  exact⟨j1.type,j2.type,ydd k1 j2 rown2 fn2 c⟩
 rcases hop:op.info with ⟨sg,nm⟩
 rw[hop] at own own2 hrc hrc2 got next2
 dsimp only at own own2 hrc hrc2 got next2
 have fillsL:=ylc (M:=model prog w) kin isC first own
 have fillsR:=ylc (M:=model prog w) kin isC2 first2 own2
 have tyL:Looks (model prog w) s.heap (typeOf (.ref a)) (.ref C):=J.type
 have tyR:Looks (model prog w) s.heap (typeOf (.ref b)) (.ref C2):=J2.type
 have pyL:=y8c (M:=model prog w) kin own hrc isP
 have pyR:=y8c (M:=model prog w) kin own2 hrc2 isP2
 have sub:=yoc (M:=model prog w) kin T.sb
 have neC:(Value.ref C==Value.ref C2)=false:=y2c.mpr fun z=>T.ne (by cases beq_iff_eq.mp z;rfl)
 obtain⟨hp0,gs0,dr0,tk0,os0⟩:=s
 simp only[binaryOp,hop]
 refine wpAny_holding (wpAny_bind ?_)
 unfold binaryOp1
 refine wpAny_bind (tyL.at (wpAny_bind (tyR.at (wpAny_bind (fillsL.at ?_)))))
 simp only[neC,ykb,if_false]
 ksp_lk
 refine wpAny_mono got (fun r s' hr=>?_) fun _ _ z=>z
 obtain⟨rfl,hq⟩:=hr
 obtain⟨t1,t2,got2⟩:=next2 s' hq
 obtain⟨hp1,gs1,dr1,tk1,os1⟩:=s'
 ksp_lk
 simp only[neC,ykb,if_false,Bool.not_false,Bool.and_self,if_true]
 ksp_lk
 refine wpAny_mono got2 (fun r s' hr=>?_) fun _ _ z=>z
 obtain⟨v,rfl,hq⟩:=hr
 ksp_lk
 exact hq
end
/-- an object of C takes one of C2 -/
structure BopA (P:Program) (w:World) (K:Fg) (mg:Str→Option Value) (base:Heap) (k:Nat) (op:Operator) (C C2:Str) (F:DF):Prop where
 ex:∃f,yh K (.ref (He.ga K C)) (y5 op.info.2)=some (some (.ref f))∧yhb K (.ref f)=true∧FnD P w K mg base k f F
 o2:∃f2,yh K (.ref (He.ga K C2)) (y5 op.info.2)=some (some (.ref f2))
 bc:BopC K (He.ga K C) op
 b2:BopC K (He.ga K C2) op
 tw:Two op K (He.ga K C) (He.ga K C2)
/-- an object of C declines one of C2, whose own reflected method does it -/
structure BopN (P:Program) (w:World) (K:Fg) (mg:Str→Option Value) (base:Heap) (k:Nat) (op:Operator) (C C2:Str) (F G:DF):Prop where
 ex:∃f,yh K (.ref (He.ga K C)) (y5 op.info.2)=some (some (.ref f))∧yhb K (.ref f)=true∧FnNo P w K mg base k f F
 o2:∃f2,yh K (.ref (He.ga K C2)) (y5 op.info.2)=some (some (.ref f2))
 r2:∃g,yh K (.ref (He.ga K C2)) (dunderR op.info.2)=some (some (.ref g))∧yhb K (.ref g)=true∧FnD P w K mg base k g G
 bc:BopC K (He.ga K C) op
 b2:BopC K (He.ga K C2) op
 tw:Two op K (He.ga K C) (He.ga K C2)
theorem zz6 {α : Type}:∀{t:List ((Str × Str) × α)} {C C2:Str} {a : α},lk2 t C C2=some a→((C,C2),a)∈t
 |[],_,_,_,h=>by cases h
 |p::r,C,C2,a,h=>by
  unfold lk2 at h
  split at h
  ·rename_i e
   cases h
   rw[←e]
   exact yb
  ·exact yd _ (zz6 h)
section
variable {X:Cx} {Wx:WX}
theorem zieb {pins:List (Addr × Obj)} {σ : L2.St} {H H1:Hp} {s:Shared} {al:Gh} {m:Mem} {x y:W} {xv yv:V} {v u:Value} {Q:VK} {op:Operator} {k:Nat} {ts:List String} {t:Tbl} {g:D→D→Option D} (no:NumOp op) (tk:yk X Wx) (ht:∀q∈t,RopO op ts X.prog X.w X.K X.mg X.base k q.1 q.2) (hr:RoomG k X.A) (ho:OpOk X (binaryOp op) g) (I:Inv X pins σ H s) (r:Rel X.K H1 H al m) (hx:RpW X.K H1 al xv x) (hy:RpW X.K H1 al yv y) (rx:RelV xv v) (ry:RelV yv u)
  (p:Post X.K H1 al σ Wx (GV X.K Q) (ropOW ts t g x y m)):wpAny (model X.prog X.w) X.A (binaryOp op v u) (EP X pins σ Q) X.xe s:=by
 unfold ropOW at p
 cases hc:clsOf y m with
 |none=>
  rw[hc] at p
  obtain⟨r2,hr2,hs2⟩:=ho
  exact hr2 pins s σ H xv yv v u Q I rx ry (zpe r hx hy hs2 p)
 |some C=>
  rw[hc] at p
  dsimp only at p
  cases hl:look t C with
  |none=>rw[hl] at p;exact p.elim
  |some F=>
   rw[hl] at p
   dsimp only at p
   split at p
   ·rename_i z
    have M:=ht _ (zwg hl)
    obtain⟨aa,dx,fs,ns,ds,rfl,h1,h3,h4,h5⟩:=zpf r hy hc
    obtain⟨f,g',q1,q2,q3,Fo⟩:=M.ex
    obtain⟨mA,O,_⟩:=ins_get I.hok h1
    obtain⟨od,J,_⟩:=O.look
    have hob:=O.obj
    obtain rfl:u=Value.ref aa:=ry
    have done:∀(p:Post X.K H1 al σ Wx (GV X.K Q) (F [y,.d z] m)),wpAny (model X.prog X.w) X.A (call (.ref g') [.ref aa,v]) (ykc (EP X pins σ Q)) X.xe s:=fun p=>wpAny_mono (zcn (vs:=[.ref aa,xv]) tk Fo hr I I.env0 (.cons rfl (.cons rx .nil)) (zyi r (.cons hy (.cons hx .nil)) p)) (fun _ _ z=>znn z) fun _ _ z=>z
    obtain⟨id,s1,s2',d1,d2⟩:=no.go
    by_cases hn:zrcb z=true
    ·rw[if_pos hn] at p
     have dn:=done p
     cases z with
     |int i=>
      have tyv:=z0k (t:=.bt "int") I r hx rx rfl (fun C e=>nomatch e)
      have hx':Rp X.K H1 xv (.int i):=hx
      cases hx'
      obtain⟨tt,rfl⟩:∃t,v=Value.int i t:=rx
      exact zw1 I.kIn J M.sf (typeIs_int s i tt) q1 q2 q3 no.fi M.si s1 (fun Q' h=>d1 _ _ _ _ _ _ _ _ _ _ Q' hob h) tyv dn
     |bl b=>
      have tyv:=z0k (t:=.bt "bool") I r hx rx rfl (fun C e=>nomatch e)
      have hx':Rp X.K H1 xv (.bl b):=hx
      cases hx'
      obtain rfl:v=Value.bool b:=rx
      exact zw1 I.kIn J M.sf (PySem.typeIs_bool s b) q1 q2 q3 no.fb M.sb s2' (fun Q' h=>d2 _ _ _ _ _ _ _ _ _ Q' hob h) tyv dn
     |_=>cases hn
    ·rw[if_neg hn] at p
     split at p
     ·rename_i T hT
      by_cases hm:T∈ts
      ·rw[if_pos hm] at p
       exact ztab I.kIn J M.sf (z0k (t:=.bt T) I r hx rx hT (fun C e=>nomatch e)) q1 q2 q3 (M.nf T hm) (done p)
      ·rw[if_neg hm] at p
       exact p.elim
     ·exact p.elim
   ·exact p.elim
theorem zr9 {pins:List (Addr × Obj)} {σ : L2.St} {H H1:Hp} {s:Shared} {al:Gh} {m:Mem} {x y:W} {xv yv:V} {v u:Value} {Q:VK} {op:Operator} {k:Nat} {ts:List String} {t:Tbl} {g:D→D→Option D} {C:Str} (tk:yk X Wx) (ht:∀q∈t,BopM X.prog X.w X.K X.mg X.base k op ts q.1 q.2) (hr:RoomG k X.A) (I:Inv X pins σ H s) (r:Rel X.K H1 H al m) (hx:RpW X.K H1 al xv x) (hy:RpW X.K H1 al yv y) (rx:RelV xv v) (ry:RelV yv u)
  (hc:clsOf x m=some C) (p:Post X.K H1 al σ Wx (GV X.K Q) (bopW ts t g x y m)):wpAny (model X.prog X.w) X.A (binaryOp op v u) (EP X pins σ Q) X.xe s:=by
 unfold bopW at p
 rw[hc] at p
 dsimp only at p
 cases hl:look t C with
 |none=>rw[hl] at p;exact p.elim
 |some F=>
  rw[hl] at p
  dsimp only at p
  split at p
  ·rename_i hti
   exact zydb tk (ht _ (zwg hl)) hr I r hx hy rx ry hc hti p
  ·exact p.elim
theorem zm3 {a b:Expr} {pos:Pos} {k:Nat} {op:Operator} {ts rts:List String} {t rt:Tbl} {acc:Acc} {dec:Dcl} {g:D→D→Option D} {fa fb:DE} (no:NumOp op) (tk:yk X Wx) (ht:∀q∈t,BopM X.prog X.w X.K X.mg X.base k op ts q.1 q.2) (hA:∀q∈acc,BopA X.prog X.w X.K X.mg X.base k op q.1.1 q.1.2 q.2) (hD:∀q∈dec,BopN X.prog X.w X.K X.mg X.base k op q.1.1 q.1.2 q.2.1 q.2.2) (hrt:∀q∈rt,RopO op rts X.prog X.w X.K X.mg X.base k q.1 q.2) (hr:RoomG k X.A) (ho:OpOk X (binaryOp op) g) (ha:PE X a (tD X.K Wx fa)) (hb:PE X b (tD X.K Wx fb)):PE X (.BinOp a op b pos) (tD X.K Wx (eBinR ts t acc dec rts rt g fa fb)):=by
 refine⟨fun pins s σ H Q I h=>?_⟩
 have h2:=zbw (R:=fun v w H2 Q=>∃H1 al m x y,Rel X.K H1 H2 al m∧RpW X.K H1 al v x∧RpW X.K H1 al w y∧Post X.K H1 al σ Wx (GV X.K Q) (binRW ts t acc dec rts rt g x y m)) h fun H1 H al m x y v w r hx hy p=>⟨H1,al,m,x,y,r,hx,hy,p⟩
 refine wpAny_BinOp (binT ha hb I h2 fun v u s2 xv yv H2 I2 rx ry q=>?_)
 obtain⟨H1,al,m,x,y,r,hx,hy,p⟩:=q
 unfold binRW at p
 cases hc:clsOf x m with
 |none=>
  rw[hc] at p
  exact zieb no tk hrt hr ho I2 r hx hy rx ry p
 |some C=>
  rw[hc] at p
  dsimp only at p
  cases hc2:clsOf y m with
  |none=>
   rw[hc2] at p
   exact zr9 tk ht hr I2 r hx hy rx ry hc p
  |some C2=>
   rw[hc2] at p
   dsimp only at p
   by_cases hCC:C2=C
   ·rw[if_pos hCC] at p
    exact zr9 tk ht hr I2 r hx hy rx ry hc p
   ·rw[if_neg hCC] at p
    obtain⟨aa,dx,fs,ns,ds,rfl,h1,_,_,_⟩:=zpf r hx hc
    obtain⟨ab,dx2,fs2,ns2,ds2,rfl,h1',_,_,_⟩:=zpf r hy hc2
    obtain⟨ox,od,J⟩:=z0i I2 h1
    obtain⟨ox2,od2,J2⟩:=z0i I2 h1'
    obtain rfl:v=Value.ref aa:=rx
    obtain rfl:u=Value.ref ab:=ry
    cases hl:lk2 acc C C2 with
    |some F=>
     rw[hl] at p
     dsimp only at p
     have M:=hA _ (zz6 hl)
     obtain⟨f,q1,q2,Fo⟩:=M.ex
     obtain⟨f2,q3⟩:=M.o2
     exact z8fb I2.kIn J J2 M.bc M.b2 M.tw q1 q3 q2 (wpAny_mono (zcn (vs:=[.ref aa,.ref ab]) tk Fo hr I2 I2.env0 (.cons rfl (.cons rfl .nil)) (zyi r (.cons hx (.cons hy .nil)) p)) (fun _ _ z=>znn z) fun _ _ z=>z)
    |none=>
     rw[hl] at p
     dsimp only at p
     cases hl2:lk2 dec C C2 with
     |none=>rw[hl2] at p;exact p.elim
     |some q=>
      rw[hl2] at p
      dsimp only at p
      have M:=hD _ (zz6 hl2)
      obtain⟨f,q1,q2,Fo⟩:=M.ex
      obtain⟨f2,q3⟩:=M.o2
      obtain⟨g',q4,q5,Go⟩:=M.r2
      let Q':VK:=fun _ H'=>∃H1' al' m1,Rel X.K H1' H' al' m1∧RpW X.K H1' al' (.ref aa) x∧RpW X.K H1' al' (.ref ab) y∧clsOf x m1=some C∧clsOf y m1=some C2∧Post X.K H1' al' σ Wx (GV X.K Q) (q.2 [y,x] m1)
      have p2:Post X.K H1 al σ Wx (GV X.K Q') (q.1 [x,y] m):=by
       cases hq:q.1 [x,y] m with
       |no=>rw[hq] at p;exact p.elim
       |exc _ _ _ _=>rw[hq] at p;exact p
       |ok w m1=>
        rw[hq] at p
        replace p:Post X.K H1 al σ Wx (GV X.K Q) (if clsOf x m1=some C∧clsOf y m1=some C2 then q.2 [y,x] m1 else .no):=p
        by_cases hcc:clsOf x m1=some C∧clsOf y m1=some C2
        ·rw[if_pos hcc] at p
         exact fun H1' al' H' e l r' vv _=>⟨H1',al',m1,r',hx.mono e l,hy.mono e l,hcc.1,hcc.2,Post.mono e l p⟩
        ·rw[if_neg hcc] at p
         exact p.elim
      refine z4jb (R:=fun s'=>EP X pins σ Q' .none s') I2.kIn J J2 M.bc M.b2 M.tw q1 q3 q2 q4 q5 ?_ fun s' hs'=>?_
      ·refine wpAny_call (codeAny_mono (Fo X.A X.stack s2 H2 _ [.ref aa,.ref ab] Q' _ hr I2.env0 (.cons rfl (.cons rfl .nil)) (zyi r (.cons hx (.cons hy .nil)) p2)) fun rr s' hq=>?_)
       cases rr with
       |error e=>exact yxd tk σ pins H2 s2 e s' I2 hq
       |ok fl=>
        obtain⟨rfl,hce⟩:=hq
        exact⟨rfl,I2.after hce⟩
      ·obtain⟨_,H',I',_,H1',al',m1,r',hx',hy',c1,c2,p'⟩:=hs'
       obtain⟨a1,dx',fs',_,_,e1,k1,_,_,_⟩:=zpf r' hx' c1
       obtain⟨a2,dx2',fs2',_,_,e2,k2,_,_,_⟩:=zpf r' hy' c2
       cases e1
       cases e2
       obtain⟨o1,od1,J1⟩:=z0i I' k1
       obtain⟨o2,od2',J2'⟩:=z0i I' k2
       exact⟨I'.kIn,⟨o1,od1,J1⟩,o2,od2',J2',wpAny_mono (zcn (vs:=[.ref ab,.ref aa]) tk Go hr I' I'.env0 (.cons rfl (.cons rfl .nil)) (zyi r' (.cons hy' (.cons hx' .nil)) p')) (fun _ _ z=>znn z) fun _ _ z=>z⟩
end
theorem zhgb {op:Operator} {K:Fg} {C C2:Str} (h:fTwo C C2 K=true):Two op K (He.ga K C) (He.ga K C2):=⟨of_decide_eq_true (He.ba h).1,of_decide_eq_true (He.ba h).2⟩
theorem z2jb {P:Program} {w:World} {K:Fg} {mg:Str→Option Value} {base:Heap} {k:Nat} {op:Operator} {ts ts2:List String} {C C2:Str} {F F2:DF} (M:BopM P w K mg base k op ts C F) (M2:BopM P w K mg base k op ts2 C2 F2) (h:fTwo C C2 K=true):BopA P w K mg base k op C C2 F:=by
 obtain⟨f2,q,_⟩:=M2.ex
 exact⟨M.ex,⟨f2,q⟩,M.bc,M2.bc,zhgb h⟩
theorem z1jb {P:Program} {w:World} {K:Fg} {mg:Str→Option Value} {base:Heap} {k:Nat} {op:Operator} {m:Str} {ts ts2 rts:List String} {C C2:Str} {F Fn F2 G:DF} (c:fBop C m op ts K=true) (hn:FnNo P w K mg base k (He.ma K (He.ga K C) m) Fn) (M:BopM P w K mg base k op ts C F) (M2:BopM P w K mg base k op ts2 C2 F2) (R2:RopO op rts P w K mg base k C2 G) (h:fTwo C C2 K=true):BopN P w K mg base k op C C2 Fn G:=by
 obtain⟨f2,q,_⟩:=M2.ex
 obtain⟨_,g,_,r2,r3,r4⟩:=R2.ex
 obtain⟨c1,c⟩:=He.ba c
 obtain⟨c2,_⟩:=He.ba c
 have e:m=y5 op.info.2:=of_decide_eq_true c1
 obtain⟨o1,o2,_⟩:=z8d c2
 exact⟨⟨_,by rw[←e];exact o1,o2,hn⟩,⟨f2,q⟩,⟨g,r2,r3,r4⟩,M.bc,M2.bc,zhgb h⟩
section
variable {X:Cx} {pos:Pos}
theorem z4hb {i:Nat} {x:Str} {e:Expr} {te:TE} {op:Operator} {ti:L2.St→TIp} {pos':Pos} (hN:X.N.Nodup) (hi:X.N[i]?=some x) (hx:L2.Loc X.env.scope x) (he:PE X e te)
  (ho:∀(pins:List (Addr × Obj)) (s:Shared) (σ : L2.St) (H:Hp) (x y:V) (v u:Value) (Q:VK),Inv X pins σ H s→RelV x v→RelV y u→ti σ x y H Q→wpAny (model X.prog X.w) X.A (inplaceOp op v u) (EP X pins σ Q) X.xe s)
  (hf:X.fn x=true∨X.env.scope.names.lookup x=some .local:=by first |exact .inl rfl |exact .inr rfl |assumption) :
  PS X (.AugAssign (.Name x pos') op e pos) (fun D σ H=>∃x,σ[i]?=some (some x)∧te σ H fun y H1=>ti σ x y H1 fun z H2=>D.nx (σ.set i (some z)) H2):=by
 refine⟨fun pins s σ H D I h=>?_⟩
 obtain⟨v,e1,h⟩:=h
 obtain⟨m,hn,hl⟩:=I.loc
 have vis:Vis X.env.scope x:=by rcases hx with k |k;exact .inl k;exact .inr (.inl k)
 obtain⟨u,r,l⟩:=hl i x v hi e1 vis
 refine wpAny_AugAssign_Name ?_
 have go:wpAny (model X.prog X.w) X.A (eval e X.env) (fun w s₂=>wpAny (model X.prog X.w) X.A (inplaceOp op u w) (fun r s₃=>wpAny (model X.prog X.w) X.A (storeName X.env x r) (fun _=>SP X pins D .next) X.xe s₃) X.xe s₂) X.xe s:=by
  refine thn (he.run pins s σ H _ I h) fun w s1 ⟨y,H1,I1,r1,q1⟩=>?_
  refine thn (ho pins s1 σ H1 v y u w _ I1 r r1 q1) fun z s2 ⟨zv,H2,I2,r2,q2⟩=>?_
  exact store_ok I2 hN hi hx r2 (fun s3 I3=>⟨_,H2,I3,q2⟩) hf
 rcases l with ⟨hk,hm⟩ |⟨hk,c,hc,hcell⟩
 ·exact wpAny_loadName_local I.ok.kind hk hn hm go
 ·rcases hk with hk |hk
  ·exact wpAny_loadName_cell I.ok.kind hk hc hcell go
  ·rcases hx with k |k
   ·have:X.env.scope.names.lookup x=some .free:=hk
    rw[k] at this;cases this
   ·have:X.env.scope.names.lookup x=some .free:=hk
    rw[k] at this;cases this
end
structure IopM (P:Program) (w:World) (K:Fg) (mg:Str→Option Value) (base:Heap) (k:Nat) (op:Operator) (C:Str) (F:DF):Prop where
 ex:∃f,yh K (.ref (He.ga K C)) (PySem.dunderI op.info.2)=some (some (.ref f))∧yhb K (.ref f)=true∧FnD P w K mg base k f F
 sf:yyb K (He.ga K C)=true
def iopW (t:Tbl) (x y:W) (m:Mem):Res W:=match clsOf x m with
 |some C=>(match look t C with
  |some F=>F [x,y] m
  |none=>.no)
 |none=>.no
def sAugO (i:Nat) (t:Tbl) (e:DE):DS:=fun dl m=>match dl[i]? with
 |some (some x)=>(e dl m).thenS dl fun y m1=>(iopW t x y m1).thenS dl fun z m2=>.nx (dl.set i (some z)) m2
 |_=>.no
section
variable {X:Cx} {Wx:WX}
theorem zfdb {k:Nat} {i:Nat} {x:Str} {e:Expr} {op:Operator} {t:Tbl} {fe:DE} {pos' pos:Pos} (tk:yk X Wx) (ht:∀q∈t,IopM X.prog X.w X.K X.mg X.base k op q.1 q.2) (hr:RoomG k X.A) (hN:X.N.Nodup) (hi:X.N[i]?=some x) (hx:L2.Loc X.env.scope x) (he:PE X e (tD X.K Wx fe)) (hf:X.fn x=true∨X.env.scope.names.lookup x=some .local:=by first |exact .inl rfl |exact .inr rfl |assumption) :
  PS X (.AugAssign (.Name x pos') op e pos) (tS X.K Wx (sAugO i t fe)):=psImp (z4hb (ti:=fun σ xv yv H Q=>∃H1 al m x y,Rel X.K H1 H al m∧RpW X.K H1 al xv x∧RpW X.K H1 al yv y∧Post X.K H1 al σ Wx (GV X.K Q) (iopW t x y m)) hN hi hx he (fun pins s σ H xv yv v u Q I rx ry q=>by
 obtain⟨H1,al,m,x,y,r,hx,hy,p⟩:=q
 unfold iopW at p
 cases hc:clsOf x m with
 |none=>rw[hc] at p;exact p.elim
 |some C=>
  rw[hc] at p
  dsimp only at p
  cases hl:look t C with
  |none=>rw[hl] at p;exact p.elim
  |some F=>
   rw[hl] at p
   dsimp only at p
   have M:=ht _ (zwg hl)
   obtain⟨aa,dx,fs,ns,ds,rfl,h1,_,_,_⟩:=zpf r hx hc
   obtain⟨f,q1,q2,Fo⟩:=M.ex
   obtain⟨ox,od,J⟩:=z0i I h1
   obtain rfl:v=Value.ref aa:=rx
   obtain⟨mF,Fr1⟩:=I.fr
   exact PySem.W.ksp_inplace Fr1 I.ok.mod.kin J M.sf q1 q2 (wpAny_mono (zcn (vs:=[.ref aa,yv]) tk Fo hr I I.env0 (.cons rfl (.cons ry .nil)) (zyi r (.cons hx (.cons hy .nil)) p)) (fun _ _ z=>znn z) fun _ _ z=>z)) hf) fun En σ H ⟨H1,al,dl,m,r,en,p⟩=>by
 unfold sAugO at p
 split at p
 ·rename_i w hw
  obtain⟨v,hv,q⟩:=en.at_ i w hw
  refine⟨v,hv,H1,al,dl,m,r,en,p.of en fun y m1 H1' al' H' e1 l1 r1 p1 yv hy=>?_⟩
  have en1:=en.mono e1 l1
  exact⟨H1',al',m1,w,y,r1,q.mono e1 l1,hy,p1.of en1 fun z m2 H2 al2 H2' e2 l2 r2 p2 zv hz=>p2.nx_ r2 ((en1.mono e2 l2).set i hz)⟩
 ·exact p.elim
theorem zvjb {a b:Expr} {pos:Pos} {fa fb:DE} (ha:PE X a (tD X.K Wx fa)) (hb:PE X b (tD X.K Wx fb)):PE X (.BinOp a .Add b pos) (tD X.K Wx (eAddH fa fb)):=by
 refine⟨fun pins s σ H Q I h=>?_⟩
 have h2:=zbw (R:=fun v w H2 Q=>rCat v w H2 Q) h fun H1 H al m x y v w r hx hy p=>by
  unfold addHW at p
  split at p
  ·rename_i ds es hd he
   split at p
   ·rename_i hz
    obtain⟨a1,vs,rfl,h1,h2⟩:=(hx.rh r hd).lst r.ex
    obtain⟨b1,us,rfl,h3,h4⟩:=(hy.rh r he).lst r.ex
    refine⟨_,_,_,_,rfl,rfl,h1,h3,by rw[h2.length,h4.length];exact hz,fun q hq=>?_⟩
    exact p H1 (al.hpush q) _ (Ex.refl _) (Le.hpush _ _) (r.hnew hq ⟨_,upd_same,(RpHs.ofD (h2.append h4)).mono (Ex.refl _) ⟨[q],rfl⟩⟩) _ ⟨q,ztt r.hlen,rfl⟩
   ·exact p.elim
  ·exact p.elim
 exact wpAny_BinOp (binT ha hb I h2 fun v u s2 xv yv H2 I2 rx ry q=>op_cat pins s2 σ H2 xv yv v u Q I2 rx ry q)
theorem zpjb {es:List Expr} {x1 pos} {f:DA} (h:PA X es (tA X.K Wx f)):PE X (.Tuple es x1 pos) (tD X.K Wx (eTupH f)):=
 peImp (pe_tup h) fun σ H Q hq=>zem (R:=fun vs H Q=>vs.length≤sizeLine∧∀p,H p=none→Q (.ref p) (upd H p (.tup vs))) hq fun H1 H al m xs vs r hvs p=>by
  unfold zm4 at p
  split at p
  ·rename_i ys hy
   have h2:=zyx hvs hy
   split at p
   ·rename_i hl
    refine⟨by rw[h2.length];exact hl,fun q hq=>?_⟩
    exact p H1 (al.hpush q) _ (Ex.refl _) (Le.hpush _ _) (r.hnew hq ⟨vs,upd_same,h2.mono (Ex.refl _) ⟨[q],rfl⟩⟩) _ ⟨q,ztt r.hlen,rfl⟩
   ·exact p.elim
  ·exact p.elim
end
theorem z3gb {P:Program} {w:World} {K:Fg} {mg:Str→Option Value} {base:Heap} {k:Nat} {op:Operator} {m C:Str} {F:DF} (c:fIop op m C K=true) (h:FnD P w K mg base k (He.ma K (He.ga K C) m) F):IopM P w K mg base k op C F:=by
 obtain⟨c1,c⟩:=He.ba c
 obtain⟨c2,c3⟩:=He.ba c
 have e:m=PySem.dunderI op.info.2:=of_decide_eq_true c1
 obtain⟨o1,o2,_⟩:=z8d c2
 exact⟨⟨_,by rw[←e];exact o1,o2,h⟩,c3⟩
section
variable {X:Cx} {Wx:WX}
theorem z5ib {g:DG} {t:DT} {fe f:DE} {is vs:List Nat} (his:∀i∈is,i∈vs) {σ : L2.St} {H:Hp} {Q:VK} (h:tD X.K Wx (eLcLH f g t fe vs) σ H Q):tLc (iList X.K (tD X.K Wx f)) (tG X.K is g) (tT X.K W0 t) (tD X.K W0 fe) vs σ H Q:=by
 obtain⟨H1,al,dl,m,r,en,p⟩:=h
 refine⟨H1,al,dl,m,r,en,p.bind fun w m1 H1' al' H' e pr r' p' v hv=>?_⟩
 unfold lcHW at p'
 split at p'
 ·rename_i k n hw
  obtain⟨rfl,ds0,hm0,hl0⟩:=zvy hw
  obtain⟨a,ha,rfl⟩:=hv
  obtain⟨vs0,q0,_⟩:=zvq r' ha hm0
  refine⟨a,rfl,⟨vs0,q0⟩,fun Dd hD=>?_⟩
  have en1:RpE X.K H1' al' σ dl:=en.mono e pr
  refine lc_it (z63 n) (fun i Hc=>∃Ha aa ma acc vacc,Ex H1' Ha∧AA.le al'.al aa∧Rel X.K Ha Hc ⟨aa,(Dd,.lst vacc)::al'.pn⟩ ma∧RpHs X.K Ha aa.ha vacc acc∧Post X.K Ha ⟨aa,al'.pn⟩ σ Wx (GV X.K Q) ((zxp g t fe (wipeD dl vs) k n (n-i) acc ma).bind fun acc m2=>newH (.lst acc) m2))
   ⟨H1',al'.al,m1,[],[],Ex.refl _,AA.refl _,r'.pinNew hD,.nil,by rw[Nat.sub_zero];exact p'⟩ (fun i Hc hi ⟨Ha,aa,ma,acc,vacc,ea,la,ra,_,pa⟩=>?_) (fun i x Hc Hx hi ⟨Ha,aa,ma,acc,vacc,ea,la,ra,hva,pa⟩ hy=>?_) (fun Hc ⟨Ha,aa,ma,acc,vacc,ea,la,ra,hva,pa⟩=>?_)
  ·have hL:∃ds,liveH k n ma=some ds:=by
    cases hl:liveH k n ma with
    |some ds=>exact⟨ds,rfl⟩
    |none=>
     cases hr:n-i with
     |zero=>rw[hr] at pa;unfold zxp at pa;rw[hl] at pa;exact pa.elim
     |succ r=>rw[hr] at pa;unfold zxp at pa;rw[hl] at pa;exact pa.elim
   obtain⟨ds,hl⟩:=hL
   obtain⟨h1,h2⟩:=zwq hl
   obtain⟨us,q1,q2⟩:=zvq ra (z6o la.hpre ha) h1
   exact⟨us,q1,by rw[q2.length,h2]⟩
  ·obtain⟨rfl,hyx⟩:=hy
   obtain⟨rr,hr⟩:∃r,n-i=r+1:=⟨n-i-1,by omega⟩
   have hr2:n-(i+1)=rr:=by omega
   have hr3:n-(rr+1)=i:=by omega
   rw[hr] at pa
   unfold zxp at pa
   cases hl:liveH k n ma with
   |none=>rw[hl] at pa;exact pa.elim
   |some ds=>
    rw[hl] at pa
    dsimp only at pa
    rw[hr3] at pa
    obtain⟨h1,h2⟩:=zwq hl
    obtain⟨us,q1,q2⟩:=zvq ra (z6o la.hpre ha) h1
    have hi2:i<ds.length:=by omega
    have hd:ds[i]?=some ds[i]:=yt hi2
    obtain⟨v2,hv2,hx2⟩:=q2.get hd
    have hx:RpH X.K Ha aa.ha x ds[i]:=by
     have:=hyx us q1
     rw[hv2] at this
     cases this
     exact hx2
    rw[hd] at pa
    dsimp only at pa
    have pb:=pa
    cases h1:g ds[i].toW (wipeD dl vs) with
    |none=>rw[h1] at pb;exact pb.elim
    |some dl1=>
     rw[h1] at pb
     dsimp only at pb
     refine⟨Ha,⟨aa,(Dd,.lst vacc)::al'.pn⟩,wipeD dl vs,ma,ds[i].toW,dl1,ra,(en1.wipe vs).monoP ea la,hx.w (al:=⟨aa,(Dd,.lst vacc)::al'.pn⟩),h1,fun σ' en' b'=>⟨z01 his b',Ha,_,dl1,ma,ra,en',?_⟩⟩
     rw[hr2]
     cases h2:t dl1 ma with
     |exc _ _ _ _=>rw[h2] at pb;exact pb.elim
     |no=>rw[h2] at pb;exact pb.elim
     |ok b m2=>
      rw[h2] at pb
      dsimp only at pb
      intro H2 a2 Hz e2 l2 r2
      have g2:a2=⟨a2.al,(Dd,.lst vacc)::al'.pn⟩:=by
       have:=l2.pn
       cases a2
       simp only at this
       rw[this]
      have lp:Le ⟨aa,al'.pn⟩ ⟨a2.al,al'.pn⟩:=⟨l2.pre,rfl⟩
      have pb2:=Post.mono e2 lp pb
      cases b with
      |false=>
       unfold GT
       dsimp only
       try rw[if_neg y4]
       refine⟨H2,a2.al,m2,acc,vacc,ea.trans e2,la.trans l2.pre,by rw[←g2];exact r2,hva.mono e2 l2.pre.hpre,pb2⟩
      |true=>
       unfold GT
       dsimp only
       try rw[if_pos rfl]
       refine⟨H2,a2,dl1,m2,r2,en'.mono e2 l2,?_⟩
       dsimp only at pb2
       cases h3:fe dl1 m2 with
       |exc _ _ _ _=>rw[h3] at pb2;exact pb2.elim
       |no=>rw[h3] at pb2;exact pb2.elim
       |ok w m3=>
        rw[h3] at pb2
        dsimp only at pb2
        cases hy:w.hw with
        |none=>rw[hy] at pb2;exact pb2.elim
        |some y=>
         rw[hy] at pb2
         dsimp only at pb2
         intro H3 a3 Hw e3 l3 r3 v hv
         have g3:a3=⟨a3.al,(Dd,.lst vacc)::al'.pn⟩:=by
          have h5:=l3.pn
          rw[g2] at h5
          cases a3
          simp only at h5
          rw[h5]
         rw[g3] at r3
         have pn1:=(r3.b.pin (Dd,.lst vacc) yb).1
         have hva3:=(hva.mono e2 l2.pre.hpre).mono e3 l3.pre.hpre
         by_cases hz:acc.length<sizeLine
         ·rw[if_pos hz] at pb2
          refine⟨vacc,pn1,by rw[hva.length];exact hz,H3,a3.al,m3,acc++[y],vacc++[v],(ea.trans e2).trans e3,(la.trans l2.pre).trans l3.pre,r3.pinPut,hva3.append (.cons (hw_ok hv hy) .nil),Post.mono e3 (show Le ⟨a2.al,al'.pn⟩ ⟨a3.al,al'.pn⟩ from ⟨l3.pre,rfl⟩) pb2⟩
         ·rw[if_neg hz] at pb2
          exact pb2.elim
  ·rw[yib] at pa
   unfold zxp at pa
   cases hl:liveH k n ma with
   |none=>rw[hl] at pa;exact pa.elim
   |some ds=>
    rw[hl] at pa
    have r1:=ra.pinHeap hva
    refine pa Ha ⟨aa.hpush Dd,al'.pn⟩ _ (Ex.refl _) (Le.hpush ⟨aa,al'.pn⟩ Dd) r1 _ ⟨Dd,?_,rfl⟩
    show (aa.ha++[Dd])[(heapOf ma).length]?=some Dd
    have hlen:aa.ha.length=(heapOf ma).length:=ra.hlen
    rw[←hlen,yf (yp _),yib] <;> rfl
 ·exact p'.elim
theorem zsjb {e tg iter:Expr} {ifs:List Expr} {scope:Scope} {own:List (Str × Nat)} {is:List Nat} {pos:Pos} {f fe:DE} {g:DG} {t:DT} (hc:X.calm=true) (hN:X.N.Nodup) (hi:PE X iter (tD X.K Wx f)) (ok:BlkOk X.N X.env.scope scope own)
  (hg:∀(s:Shared) (H:Hp) (C:Addr) (cl:List (Str × Addr)) (fp:List Addr),PG (X.blk s H scope (compEnvC scope cl C X.env) fp) tg (tG X.K is g)) (ht:∀(s:Shared) (H:Hp) (C:Addr) (cl:List (Str × Addr)) (fp:List Addr),PTs (X.blk s H scope (compEnvC scope cl C X.env) fp) ifs (tT X.K W0 t))
  (he:∀(s:Shared) (H:Hp) (C:Addr) (cl:List (Str × Addr)) (fp:List Addr),PE (X.blk s H scope (compEnvC scope cl C X.env) fp) e (tD X.K W0 fe)) (his:∀i∈is,i∈own.map (·.2)) (hs:∀x,foldedSetIterable iter X.env x=pure x:=by intro _;rfl) :
  PE X (.ListComp e [⟨tg,iter,ifs,0⟩] scope pos) (tD X.K Wx (eLcLH f g t fe (own.map (·.2)))):=peImp (pe_lc hc hN (pi_list hi) ok hg ht he hs) fun σ H Q h=>z5ib his h
end
def itD (en:Bool) (i:Nat) (d:D):D:=if en=true then .tup [.int (i:Int),d] else d
def compX (en:Bool) (g:DG) (t:DT) (e:DE) (wd:Env) (k n:Nat):Nat→List D→Mem→Res (List D)
 | 0,acc,m=>(match liveH k n m with
   |some _=>.ok acc m
   |none=>.no)
 |r+1,acc,m=>(match liveH k n m with
  |none=>.no
  |some ds=>(match ds[n-(r+1)]? with
   |some (.d d)=>(match g (.d (itD en (n-(r+1)) d)) wd with
    |none=>.no
    |some dl1=>(match t dl1 m with
     |.ok b m1=>(match b with
      |true=>(match e dl1 m1 with
       |.ok (.d y) m2=>if acc.length<sizeLine then compX en g t e wd k n r (acc++[y]) m2 else .no
       |_=>.no)
      |false=>compX en g t e wd k n r acc m1)
     |_=>.no))
   |_=>.no))
end DL
namespace DL
open PySem PySem.Spec L2
open PyProof.Rows hiding St
theorem dgn {X:Cx} (i:Nat) {x:Str} {pos:Pos} (hN:X.N.Nodup) (hi:X.N[i]?=some x:=by rfl) (hx:L2.Loc X.env.scope x:=by exact Or.inl rfl) (hf:X.fn x=true∨X.env.scope.names.lookup x=some .local:=by first |exact .inl rfl |exact .inr rfl |assumption):PG X (.Name x pos) (tG X.K [i] (gNm i)):=zq7 (pg_name hN hi hx hf)
theorem rmo {j k:Nat} {A:Around} (h:RoomG k A) (l:j≤k:=by decide):RoomG j A:=h.mono l
end DL
namespace DL
open PySem PySem.Spec L2
open PyProof.Rows hiding St
open Evl (Ex)
abbrev DGsH:=List HW→Env→Option Env
def tGM (K:Fg) (vs:List Nat) (g:DGM):TG:=fun v σ H Q=>∃H1 al dl m w dl',Rel K H1 H al m∧RpE K H1 al σ dl∧RpW K H1 al v w∧g w dl m=some dl'∧∀ σ',RpE K H1 al σ' dl'→But vs σ σ'→Q σ' H
def tGsH (K:Fg) (is:List Nat) (g:DGsH):TGs:=fun vs σ H Q=>∃H1 al dl m ws dl',Rel K H1 H al m∧RpE K H1 al σ dl∧RpHs K H1 al.al.ha vs ws∧g ws dl=some dl'∧∀ σ',RpE K H1 al σ' dl'→But is σ σ'→Q σ' H
def gNilH:DGsH:=fun ws dl=>match ws with
 |[]=>some dl
 |_=>none
def zyt (g:DG) (gs:DGsH):DGsH:=fun ws dl=>match ws with
 |d::r=>(match g d.toW dl with
  |some dl1=>gs r dl1
  |none=>none)
 |[]=>none
def gTpH (n:Nat) (gs:DGsH):DGM:=fun w dl m=>match w with
 |.h k=>(match (heapOf m)[k]? with
  |some (.tup ws)=>if ws.length=n then gs ws dl else none
  |_=>none)
 |_=>none
section
variable {X:Cx} {Wx:WX}
theorem zwfb:PGs X [] (tGsH X.K [] gNilH):=zp8 pgs_nil fun v σ H Q ⟨H1,al,dl,m,ds,dl',r,en,hv,e,k⟩=>by
 cases hv with
 |nil=>
  cases e
  exact⟨rfl,k _ en (But.refl _ _)⟩
 |cons _ _=>cases e
theorem zv5 {e:Expr} {es:List Expr} {is js:List Nat} {g1:DG} {gs:DGsH} (h1:PG X e (tG X.K is g1)) (h2:PGs X es (tGsH X.K js gs)) (hs:(assignEach (e::es) X.env).map (·.2)=assign e X.env::(assignEach es X.env).map (·.2):=by rfl):PGs X (e::es) (tGsH X.K (is++js) (zyt g1 gs)):=
 zp8 (pgs_cons h1 h2 hs) fun v σ H Q ⟨H1,al,dl,m,ds,dl',r,en,hv,e,k⟩=>by
  cases hv with
  |nil=>cases e
  | @cons v1 vs d ds hv1 hvs=>
    have e':(match g1 d.toW dl with
     |some dl1=>gs ds dl1
     |none=>none)=some dl':=e
    cases h:g1 d.toW dl with
    |none=>rw[h] at e';cases e'
    |some dl1=>
     rw[h] at e'
     exact⟨v1,vs,rfl,H1,al,dl,m,d.toW,dl1,r,en,hv1.w,h,fun σ' en' b'=>⟨H1,al,dl1,m,ds,dl',r,en',hvs,e',fun σ2 en2 b2=>k σ2 en2 (b'.trans b2)⟩⟩
theorem znjb {es:List Expr} {k n:Nat} {is:List Nat} {gs:DGsH} (hc:X.calm=true) (h:PGs X es (tGsH X.K is gs)) (hn:(assignEach es X.env).length=n:=by rfl) (hst:(assignEach es X.env).findIdx? (·.1)=none:=by rfl):PG X (.Tuple es k pos) (tGM X.K is (gTpH n gs)):=
 pgImp (pg_tup (k:=k) hc h hn hst) fun v σ H Q ⟨H1,al,dl,m,w,dl',r,en,hv,e,k⟩=>by
  unfold gTpH at e
  split at e
  ·rename_i j
   split at e
   ·rename_i ws hw
    split at e
    ·rename_i hl
     obtain⟨a,ha,rfl⟩:=hv
     obtain⟨c,h1,h2⟩:=r.hat ha
     rw[hw] at h1
     cases h1
     obtain⟨vs,q1,q2⟩:=h2
     exact⟨_,_,rfl,SqT.of q1,by rw[q2.length];exact hl,H1,al,dl,m,ws,dl',r,en,q2,e,k⟩
    ·cases e
   ·cases e
  ·cases e
theorem ztfb {tg l:Expr} {body:List Stmt} {pos:Pos} {f:DE} {is:List Nat} {g:DGM} {fb:DS} (hp:PassesOwn (model X.prog X.w) X.A X.env X.xe) (hc:X.calm=true) (h:PE X l (tD X.K Wx f)) (hg:PG X tg (tGM X.K is g)) (hb:PSs X body (tS X.K Wx fb))
  (hs:∀x,foldedSetIterable l X.env x=pure x:=by intro _;rfl):PS X (.For tg l body [] pos) (tS X.K Wx (zk8 f g fb)):=psImp (ps_for hp hc (pi_list h) hg hb hs) fun En σ H ⟨H1,al,dl,m,r,en,p⟩=>by
 refine⟨H1,al,dl,m,r,en,p.of en fun w m1 H1' al' H' e pr r' p' v hv=>?_⟩
 split at p'
 ·rename_i k n hw
  obtain⟨rfl,ds0,hm0,hl0⟩:=zvy hw
  obtain⟨a,ha,rfl⟩:=hv
  obtain⟨vs0,q0,_⟩:=zvq r' ha hm0
  refine⟨a,rfl,⟨vs0,q0⟩,?_⟩
  have haw:∀{aa:Gh},Le al' aa→aa.al.ha[k]?=some a:=fun la=>z6o la.pre.hpre ha
  refine for_it (z63 n) (fun i σ H=>∃Ha aa dla ma,Ex H1' Ha∧Le al' aa∧Rel X.K Ha H aa ma∧RpE X.K Ha aa σ dla∧PostS X.K Ha aa Wx En (z9o g fb k n (n-i) dla ma)) ⟨H1',al',dl,m1,Ex.refl _,z2b _,r',en.mono e pr,by rw[Nat.sub_zero];exact p'⟩
   (fun i σ H hi ⟨Ha,aa,dla,ma,ea,la,ra,ena,pa⟩=>?_) (fun i x σ H Hx hi ⟨Ha,aa,dla,ma,ea,la,ra,ena,pa⟩ hy=>?_) (fun σ H ⟨Ha,aa,dla,ma,ea,la,ra,ena,pa⟩=>?_)
  ·have hL:∃ds,liveH k n ma=some ds:=by
    cases hl:liveH k n ma with
    |some ds=>exact⟨ds,rfl⟩
    |none=>
     cases hr:n-i with
     |zero=>rw[hr] at pa;unfold z9o at pa;rw[hl] at pa;exact pa.elim
     |succ r=>rw[hr] at pa;unfold z9o at pa;rw[hl] at pa;exact pa.elim
   obtain⟨ds,hl⟩:=hL
   obtain⟨h1,h2⟩:=zwq hl
   obtain⟨vs,q1,q2⟩:=zvq ra (haw la) h1
   exact⟨vs,q1,by rw[q2.length,h2]⟩
  ·obtain⟨rfl,hyx⟩:=hy
   obtain⟨r,hr⟩:∃r,n-i=r+1:=⟨n-i-1,by omega⟩
   have hr2:n-(i+1)=r:=by omega
   have hr3:n-(r+1)=i:=by omega
   rw[hr] at pa
   unfold z9o at pa
   cases hl:liveH k n ma with
   |none=>rw[hl] at pa;exact pa.elim
   |some ds=>
    rw[hl] at pa
    dsimp only at pa
    rw[hr3] at pa
    obtain⟨h1,h2⟩:=zwq hl
    obtain⟨vs,q1,q2⟩:=zvq ra (haw la) h1
    have hi2:i<ds.length:=by omega
    have hd:ds[i]?=some ds[i]:=yt hi2
    obtain⟨v2,hv2,hx2⟩:=q2.get hd
    have hx:RpH X.K Ha aa.al.ha x ds[i]:=by
     have:=hyx vs q1
     rw[hv2] at this
     cases this
     exact hx2
    rw[hd] at pa
    dsimp only at pa
    cases h3:g ds[i].toW dla ma with
    |none=>rw[h3] at pa;exact pa.elim
    |some dl1=>
     rw[h3] at pa
     dsimp only at pa
     refine⟨Ha,aa,dla,ma,ds[i].toW,dl1,ra,ena,hx.w,h3,fun σ' en' _=>⟨Ha,aa,dl1,ma,ra,en',?_⟩⟩
     rw[hr2]
     cases h2:fb dl1 ma with
     |nx dl2 m2=>rw[h2] at pa;exact fun H2 a2 Hz σ2 e2 l2 r2 en2=>⟨H2,a2,dl2,m2,ea.trans e2,la.trans l2,r2,en2,PostS.mono e2 l2 pa⟩
     |ct dl2 m2=>rw[h2] at pa;exact fun H2 a2 Hz σ2 e2 l2 r2 en2=>⟨H2,a2,dl2,m2,ea.trans e2,la.trans l2,r2,en2,PostS.mono e2 l2 pa⟩
     |bk dl2 m2=>rw[h2] at pa;exact fun H2 a2 Hz σ2 e2 l2 r2 en2=>pa H2 a2 Hz σ2 e2 l2 r2 en2
     |rt w m2=>rw[h2] at pa;exact pa
     |exc _ _ _ _ _=>rw[h2] at pa;exact pa
     |no=>rw[h2] at pa;exact pa.elim
  ·rw[yib] at pa
   unfold z9o at pa
   cases hl:liveH k n ma with
   |none=>rw[hl] at pa;exact pa.elim
   |some ds=>rw[hl] at pa;exact pa.nx_ ra ena
 ·exact p'.elim
end
end DL
namespace TM
open PySem PySem.Spec PySem.Builtin PySem.Builtin.Str SX
theorem mul_S (l:List Nat) (n:Int):Txt.mul (S l) n=S (yn n.toNat l).flatten:=by
 have key:∀(k:Nat) (acc:Array Nat),((yn k (S l).cps).foldl (· ++ ·) acc).toList=acc.toList++(yn k l).flatten:=by
  intro k
  induction k with
  |zero=>intro acc;simp
  |succ k ih=>intro acc;rw[y5b,List.foldl_cons,ih,y5b,y1c];simp
 unfold Txt.mul
 split
 ·rename_i h
  have:n.toNat=0:=by omega
  rw[this]
  rfl
 ·split
  ·rename_i h h2
   simp only[Bool.or_eq_true,beq_iff_eq] at h2
   rcases h2 with h2 |h2
   ·subst h2
    simp
   ·have e:l=[]:=by
     rw[S_len] at h2
     exact List.length_eq_zero_iff.mp h2
    subst e
    simp
  ·refine TL.ext_tl ?_
   exact (key n.toNat #[]).trans (ymc _)
theorem zpib {l:List Nat} {n:Int} (h0:n<2 ^ 24) (h1 : -(2 ^ 24)<n) (h:l.length*n.toNat≤2 ^ 24):MulOk (S l) n:=by
 have hl:(S l).length=l.length:=S_len l
 refine⟨?_,?_,?_⟩
 ·have e1:decide (n < -(2 ^ 63:Int))=false:=decide_eq_false (by omega)
  have e2:decide (n ≥ 2 ^ 63)=false:=decide_eq_false (by omega)
  rw[e1,e2];rfl
 ·intro hn _
  rw[hl]
  have hm:(l.length:Int)*n≤2 ^ 24:=by
   have:(n.toNat:Int)=n:=Int.toNat_of_nonneg (by omega)
   rw[←this]
   exact_mod_cast h
  have:(l.length:Int)≤(2 ^ 63-1) / n:=by
   refine (Int.le_ediv_iff_mul_le (by omega)).mpr ?_
   omega
  omega
 ·intro _ _
  rw[hl]
  unfold Builtin.Str.tooLong sizeLine
  exact decide_eq_false (by omega)
theorem nl_S (a:List Nat):(!(Builtin.Str.occurrences (S a) (S [10]) 0 (S a).length 1).isEmpty)=decide (10∈a):=StrLaws.found_one (S a) 10
abbrev sp (c:Nat):Bool:=c==32
def ldw (a:List Nat):List Nat:=a.dropWhile sp
def rdw (a:List Nat):List Nat:=(a.reverse.dropWhile sp).reverse
theorem z86:(fun c=>(S [32]).cps.contains c)=sp:=by
 funext c
 simp[S,sp,eq_comm]
 rw[Bool.eq_iff_iff]
 simp
theorem ziz {p:Nat→Bool}:∀l:List Nat,l.drop (l.takeWhile p).length=l.dropWhile p
 |[]=>rfl
 |c::l=>by
  rw[List.takeWhile_cons,y6b]
  split
  ·exact ziz l
  ·rfl
theorem zg8 {p:Nat→Bool} (l:List Nat):l.take (l.length-(l.reverse.takeWhile p).length)=(l.reverse.dropWhile p).reverse:=by
 rw[←ziz,List.drop_reverse,y5c]
theorem zafb (a:List Nat):Txt.lstripChars (S a) (S [32])=S (ldw a):=by
 unfold Txt.lstripChars
 have e:(S [32]).cps.contains=sp:=z86
 rw[e,yed]
 refine TL.ext_tl ?_
 rw[TL.tl_strSub]
 unfold stripLo stripHi
 simp only[if_true,ykb,if_false]
 show ((a.drop (a.takeWhile sp).length).take _)=a.dropWhile sp
 rw[ziz]
 refine ytb ?_
 rw[S_len,←ziz,ytd]
 exact yp _
theorem zgeb (a:List Nat):Txt.rstripChars (S a) (S [32])=S (rdw a):=by
 unfold Txt.rstripChars
 have e:(S [32]).cps.contains=sp:=z86
 rw[e,yed]
 refine TL.ext_tl ?_
 rw[TL.tl_strSub]
 unfold stripLo stripHi
 simp only[if_true,ykb,if_false]
 rw[S_len]
 show ((a.drop 0).take (a.length-((a.drop 0).reverse.takeWhile sp).length-0))=rdw a
 rw[List.drop_zero,Nat.sub_zero,zg8]
 rfl
theorem zshb (a:List Nat):Txt.stripChars (S a) (S [32])=S (rdw (ldw a)):=by
 unfold Txt.stripChars
 have e:(S [32]).cps.contains=sp:=z86
 rw[e,yed]
 refine TL.ext_tl ?_
 rw[TL.tl_strSub]
 unfold stripLo stripHi
 simp only[if_true]
 rw[S_len]
 show ((a.drop (a.takeWhile sp).length).take (a.length-((a.drop (a.takeWhile sp).length).reverse.takeWhile sp).length-(a.takeWhile sp).length))=rdw (ldw a)
 have h:=zg8 (p:=sp) (ldw a)
 unfold rdw
 rw[←h]
 unfold ldw
 rw[←ziz]
 congr 1
 rw[ytd]
 omega
end TM
namespace DL
open PySem PySem.Spec L2 SX TM
section
variable {α β : Type}
theorem zxdb {g:DG} {e:DE} {wd:Env} {m:Mem} {enc : α → D} {dec : α → D}:∀(xs:List α) (acc:List D),(∀x∈xs,∃dl1,g (.d (enc x)) wd=some dl1∧e dl1 m = .ok (.d (dec x)) m)→acc.length+xs.length≤sizeLine →
  compD g bYes e wd (xs.map enc) acc m = .ok (acc++xs.map dec) m
 |[],acc,_,_=>by simp[compD]
 |x::xs,acc,h,hz=>by
  obtain⟨dl1,e1,e2⟩:=h x yb
  have hl:acc.length+(xs.length+1)≤sizeLine:=hz
  rw[yr]
  unfold compD
  rw[e1]
  simp only[bYes]
  rw[e2]
  show (if acc.length<sizeLine then compD g bYes e wd (xs.map enc) (acc++[dec x]) m else .no)=_
  rw[if_pos (by omega),zxdb xs _ (fun y hy=>h y (yd _ hy)) (by rw[yg];show acc.length+1+xs.length≤_;omega)]
  simp
theorem zpk {g:DG} {e:DE} {wd:Env} {m:Mem} {enc : α → D} {dec : α → D} (xs:List α) (h:∀x∈xs,∃dl1,g (.d (enc x)) wd=some dl1∧e dl1 m = .ok (.d (dec x)) m) (hz:xs.length≤sizeLine) :
  compD g bYes e wd (xs.map enc) [] m = .ok (xs.map dec) m:=by
 rw[zxdb xs [] h (by simpa using hz),ymc]
theorem z57 {g:DG} {t:DT} {e:DE} {wd:Env} {m:Mem} {enc : α → D} {dec : α → D} (c : α → Bool):∀(xs:List α) (acc:List D),(∀x∈xs,∃dl1,g (.d (enc x)) wd=some dl1∧t dl1 m = .ok (c x) m∧(c x=true→e dl1 m = .ok (.d (dec x)) m))→acc.length+xs.length≤sizeLine →
  compD g t e wd (xs.map enc) acc m = .ok (acc++(xs.filter c).map dec) m
 |[],acc,_,_=>by simp[compD]
 |x::xs,acc,h,hz=>by
  obtain⟨dl1,e1,e2,e3⟩:=h x yb
  have hl:acc.length+(xs.length+1)≤sizeLine:=hz
  rw[yr]
  unfold compD
  rw[e1]
  simp only[]
  rw[e2]
  cases hc:c x with
  |true=>
   simp only[]
   rw[e3 hc]
   show (if acc.length<sizeLine then compD g t e wd (xs.map enc) (acc++[dec x]) m else .no)=_
   rw[if_pos (by omega),z57 c xs _ (fun y hy=>h y (yd _ hy)) (by rw[yg];show acc.length+1+xs.length≤_;omega)]
   simp[hc]
  |false=>
   simp only[]
   rw[z57 c xs _ (fun y hy=>h y (yd _ hy)) (by omega)]
   simp[hc]
theorem z7n {g:DG} {t:DT} {e:DE} {wd:Env} {m:Mem} {enc : α → D} {dec : α → D} (c : α → Bool) (xs:List α) (h:∀x∈xs,∃dl1,g (.d (enc x)) wd=some dl1∧t dl1 m = .ok (c x) m∧(c x=true→e dl1 m = .ok (.d (dec x)) m)) (hz:xs.length≤sizeLine) :
  compD g t e wd (xs.map enc) [] m = .ok ((xs.filter c).map dec) m:=by
 rw[z57 c xs [] h (by simpa using hz),ymc]
/-- a loop that keeps the memory and looks for the first x with p x -/
theorem zty {g:DG} {b:DS} {m:Mem} {enc : α → D} (p : α → Bool) (J:Env→Prop) (R : α → W→Prop):∀(xs:List α) (dl:Env),J dl →
  (∀x∈xs,∀dl,J dl→∃dl1,g (.d (enc x)) dl=some dl1∧(p x=true→∃w,b dl1 m = .rt w m∧R x w)∧(p x=false→∃dl2,b dl1 m = .nx dl2 m∧J dl2)) →
  match xs.find? p with
  |some x=>∃w,loopD g b (xs.map enc) dl m = .rt w m∧R x w
  |none=>∃dl2,loopD g b (xs.map enc) dl m = .nx dl2 m∧J dl2
 |[],dl,h,_=>⟨dl,rfl,h⟩
 |x::xs,dl,h,st=>by
  obtain⟨dl1,e1,y,n⟩:=st x yb dl h
  rw[yr]
  unfold loopD
  rw[e1]
  cases hp:p x with
  |true=>
   rw[List.find?_cons_of_pos hp]
   obtain⟨w,e2,hr⟩:=y hp
   exact⟨w,by simp only[];rw[e2],hr⟩
  |false=>
   rw[List.find?_cons_of_neg (by rw[hp];exact y4)]
   obtain⟨dl2,e2,j2⟩:=n hp
   have ih:=zty p J R xs dl2 j2 fun y hy=>st y (yd _ hy)
   simp only[]
   rw[e2]
   exact ih
end
abbrev Src:=Int × Int × Int
def sc (s:Src):Cell:=.lst [.int s.1,.int s.2.1,.int s.2.2]
structure Good (n:Nat) (s:Src):Prop where
 a:0≤s.1
 b:0≤s.2.1
 c:0≤s.2.2
 d:s.2.2+n≤2 ^ 62
theorem Good.mono {n k:Nat} {s:Src} (h:Good n s) (hk:k≤n):Good k s:=⟨h.a,h.b,h.c,by have:=h.d;omega⟩
/-- m is m0 but for the source at k, which may be asked n times more -/
structure At (k n:Nat) (m0 m:Mem):Prop where
 ln:m.length=m0.length
 ot:∀j,j≠k→m[j]?=m0[j]?
 sr:∃s,m[k]?=some (sc s)∧Good n s
theorem At.mono {k n j:Nat} {m0 m:Mem} (h:At k n m0 m) (hj:j≤n):At k j m0 m:=⟨h.ln,h.ot,let ⟨s,a,b⟩:=h.sr;⟨s,a,b.mono hj⟩⟩
theorem At.tk {k n:Nat} {m0 m:Mem} (h:At k n m0 m):m.take m0.length=m:=ytb (by rw[h.ln];exact yp _)
theorem At.self {k n n':Nat} {m0 m:Mem} (h:At k n m0 m):At k n m m:=⟨rfl,fun _ _=>rfl,h.sr⟩
theorem At.trans {k n n':Nat} {m0 m m':Mem} (h:At k n m0 m) (h':At k n' m m'):At k n' m0 m':=⟨h'.ln.trans h.ln,fun j hj=>(h'.ot j hj).trans (h.ot j hj),h'.sr⟩
theorem At.set {k n n':Nat} {m0 m:Mem} {s:Src} (h:At k n m0 m) (g:Good n' s):At k n' m0 (m.set k (sc s)):=by
 obtain⟨s0,h1,_⟩:=h.sr
 refine⟨by rw[yeb];exact h.ln,fun j hj=>by rw[yq (Ne.symm hj)];exact h.ot j hj,s,?_,g⟩
 rw[yu (yc.mp h1).1]
@[simp] theorem take_all (m:Mem):m.take m.length=m:=List.take_length
@[simp] theorem take_set (m:Mem) (k:Nat) (x:Cell):(m.set k x).take m.length=m.set k x:=ytb (by rw[yeb];exact yp _)
theorem z4o (n:Nat):(rngD 0 n).length=n:=by unfold rngD;simp
theorem e_sp:Str.ofString " " = S [32]:=by decide
theorem e_nl:Str.ofString "\n" = S [10]:=by decide
theorem e_em:Str.ofString "" = S []:=by decide
theorem ix_str {a:List Nat} {i:Int} {c:Nat} (h0:0≤i) (h:a[i.toNat]?=some c) (hz:a.length≤sizeLine):ixD (.str (S a)) (.int i)=some (.str (S [c])):=by
 show (match atI (S a).cps.toList i with |some c=>chk ((S a).length≤sizeLine) (D.str ⟨#[c]⟩) |none=>none)=_
 have e:atI (S a).cps.toList i=some c:=(z6jb _ h0).trans h
 rw[e]
 simp only[]
 rw[zdc (by rw[S_len];exact hz)]
theorem mul_str {l:List Nat} {n:Int} (h0:n<2 ^ 24) (h1 : -(2 ^ 24)<n) (h:l.length*n.toNat≤2 ^ 24):mulD (.str (S l)) (.int n)=some (.str (S (yn n.toNat l).flatten)):=by
 show chk _ _=_
 rw[zdc (zpib h0 h1 h),mul_S]
theorem zsgb {n:Int} (h0:n<2 ^ 24) (h1 : -(2 ^ 24)<n):mulD (.str (S [32])) (.int n)=some (.str (S (yn n.toNat 32))):=by
 rw[mul_str h0 h1 (by simp;omega)]
 simp
theorem zoib {a:List D} {i:Int} (j:Nat) (hi:i=(j:Int)) (h:a.length*j≤sizeLine) (hj:j<2 ^ 62):mulD (.lst a) (.int i)=some (.lst (yn j a).flatten):=by
 subst hi
 show chk _ _=_
 rw[zdc ⟨by omega,by omega,by rw[ysb];exact h⟩,ysb]
theorem zbmb (xs:List D) {i:Int} (h:0≤i):cutD xs none (some i)=xs.take i.toNat:=by
 have h1:HT.sIx xs.length 0 none=0:=rfl
 have h2:HT.sIx xs.length xs.length (some i)=min i.toNat xs.length:=by
  show (if i<0 then (i+(xs.length:Int)).toNat else min i.toNat xs.length)=_
  rw[if_neg (by omega)]
 unfold cutD
 rw[h1,h2,List.drop_zero,Nat.sub_zero,←List.take_eq_take_min]
def Txt8 (a:List Nat):Prop:=(∀c∈a,c<128)∧a.length≤100000
theorem Txt8.ok {a:List Nat} (h:Txt8 a):PyData.strOk (S a)=true:=z7ab fun c hc=>yvc (h.1 c hc) (by decide)
theorem Txt8.sz {a:List Nat} (h:Txt8 a):a.length≤sizeLine:=by have:=h.2;unfold sizeLine;omega
theorem Txt8.nil:Txt8 []:=⟨fun _ h=>(by cases h),by simp⟩
theorem zwib {a:List Nat} {c:Nat} (h:c∈ldw a):c∈a:=yqb _ |>.mem h
theorem zvib {a:List Nat} {c:Nat} (h:c∈rdw a):c∈a:=by
 unfold rdw at h
 have:=(yqb _).mem (List.mem_reverse.mp h)
 exact List.mem_reverse.mp this
theorem z4ib (a:List Nat):(ldw a).length≤a.length:=(yqb _).length_le
theorem z2hb (a:List Nat):(rdw a).length≤a.length:=by
 unfold rdw
 rw[List.length_reverse]
 exact yy (yqb _).length_le (by rw[List.length_reverse];exact yp _)
theorem Txt8.ldw {a:List Nat} (h:Txt8 a):Txt8 (ldw a):=⟨fun c hc=>h.1 c (zwib hc),yy (z4ib a) h.2⟩
theorem Txt8.rdw {a:List Nat} (h:Txt8 a):Txt8 (rdw a):=⟨fun c hc=>h.1 c (zvib hc),yy (z2hb a) h.2⟩
theorem z11 {a:List Nat} (h:a.length≤sizeLine):z9x (.str (S a)) [.str (S [32])]=some (.str (S (TM.rdw (TM.ldw a)))):=by
 show chk _ _=_
 rw[zdc (by rw[S_len];exact h),zshb]
theorem zi2 {a:List Nat} (h:a.length≤sizeLine):z8u (.str (S a)) [.str (S [32])]=some (.str (S (TM.ldw a))):=by
 show chk _ _=_
 rw[zdc (by rw[S_len];exact h),zafb]
theorem z81 {a:List Nat} (h:a.length≤sizeLine):z2u (.str (S a)) [.str (S [32])]=some (.str (S (TM.rdw a))):=by
 show chk _ _=_
 rw[zdc (by rw[S_len];exact h),zgeb]
theorem S_eq (a b:List Nat):(S a=S b)=(a=b):=propext ⟨S_inj,fun h=>by rw[h]⟩
theorem eq_str (a b:List Nat):eqD (.str (S a)) (.str (S b))=some (.bl (decide (a=b))):=by rw[zk];simp only[S_eq]
/-- the lines of a text, as data -/
def lnD (ls:List (List Nat)):List D:=ls.map fun l=>.str (S l)
theorem zuy (ls:List (List Nat)):lnD ls=(ls.map S).map D.str:=by unfold lnD;rw[y6];rfl
@[simp] theorem zy6 (ls:List (List Nat)):(lnD ls).length=ls.length:=by unfold lnD;rw[ye]
theorem zzkb {ls:List (List Nat)} (h:∀l∈ls,Txt8 l):∀x∈ls.map S,PyData.strOk x=true:=fun x hx=>by
 obtain⟨l,hl,rfl⟩:=yfb.mp hx
 exact (h l hl).ok
theorem ne_nil {ls:List (List Nat)} (h:∀l∈ls,Txt8 l):neD (.lst (lnD ls)) (.lst [])=some (.bl (!decide (ls=[]))):=by
 rw[zuy,z5eb (zzkb h)]
 cases ls <;> rfl
@[simp] theorem take_snoc (m:Mem) (x:Cell):(m++[x]).take (m.length+1)=m++[x]:=ytb (by simp)
theorem zmlb {ys:List (List Nat)} {s:Nat} (h:∀y∈ys,y.length≤5000) (hn:ys.length≤3000):joinD (.str (S [s])) [.lst (lnD ys)]=some (.str (S (ybb [s] ys))):=by
 have e1:zon (lnD ys)=some (ys.map S):=by
  rw[zuy]
  clear h hn
  induction ys with
  |nil=>rfl
  |cons y ys ih=>rw[yr,yr,zon,ih];rfl
 have e2:seqD (.lst (lnD ys))=some (lnD ys):=rfl
 have e3:((ys.map S).map (·.length)).sum≤ys.length*5000:=by
  clear e1 e2 hn
  induction ys with
  |nil=>simp
  |cons y ys ih=>
   have h1:=h y yb
   have h2:=ih fun z hz=>h z (yd _ hz)
   simp only[yr,yfc,yw,S_len] at h2 ⊢
   omega
 unfold joinD
 simp only[e2,e1]
 rw[zdc (by rw[S_len,ye];simp only[yec];omega),join_S]
theorem zpcb {ls:List (List Nat)} {s:Nat} (h:∀y∈ls,y.length≤5000):(ybb [s] ls).length≤ls.length*5001:=by
 induction ls with
 |nil=>exact y7b _
 |cons y ys ih=>
  have h1:=h y yb
  have h2:=ih fun z hz=>h z (yd _ hz)
  cases ys with
  |nil=>show y.length≤1*5001;omega
  |cons z ys=>
   show (y++([s]++ybb [s] (z::ys))).length≤_
   rw[yg,yg]
   simp only[yw,yzb] at h2 ⊢
   omega
theorem zi6 {ls:List (List Nat)} {s:Nat} (hne:ls≠[]) (h:∀l∈ls,s ∉ l) (h5:∀y∈ls,y.length≤5000) (hn:ls.length≤3000) (hs:s<128):z90 (.str (S (ybb [s] ls))) [.str (S [s])]=some (.lst (lnD ls)):=by
 show chk _ _=_
 have hl:=zpcb (s:=s) h5
 rw[zdc ⟨rfl,by rw[S_len];unfold sizeLine;omega⟩,split_S (by simp) (by simp;omega),SX.spl_join hne h,zuy]
end DL
namespace DL
open PySem PySem.Spec L2 TM
@[simp] theorem z7pb (a:DE) (f:DA) (dl:Env) (m:Mem):eApp a f dl m=(a dl m).bind fun x m1=>if isTy "list" x m1=true then (f dl m1).bind fun ws m2=>appW x ws m2 else .no:=nr rfl
theorem zr2 (m:Mem) (c:Cell):(m++[c])[m.length]?=some c:=by simp
theorem zi8 (m:Mem) (c c':Cell):(m++[c]).set m.length c'=m++[c']:=by simp
@[simp] theorem zolb (m:Mem) (acc:List D):isTy "list" (.c m.length) (m++[.lst acc])=true:=by
 unfold isTy
 show (match W.rd (.c m.length) (m++[.lst acc]) with |some d=>tyD "list" d |none=>false)=true
 have:W.rd (.c m.length) (m++[.lst acc])=some (.lst acc):=by
  show ((m++[Cell.lst acc])[m.length]?).map Cell.toD=_
  rw[zr2]
  rfl
 rw[this]
 rfl
@[simp] theorem zqmb (m:Mem) (acc:List D) (d:D):appW (.c m.length) [.d d] (m++[.lst acc])=if acc.length<sizeLine then .ok (.d .non) (m++[.lst (acc++[d])]) else .no:=by
 show (match (m++[Cell.lst acc])[m.length]? with |some (.lst ds)=>if ds.length<sizeLine then Res.ok (W.d .non) ((m++[Cell.lst acc]).set m.length (.lst (ds++[d]))) else .no |_=>.no)=_
 rw[zr2]
 simp only[]
 rw[zi8]
@[simp] theorem zhnb (m:Mem) (c:Cell):frz m.length (.c m.length) (m++[c]) = .ok (.d c.fz) m:=by
 unfold frz
 simp
@[simp] theorem zgob (ds:List D):Cell.toD (.lst ds) = .lst ds:=nr rfl
@[simp] theorem zsqb (ds:List D):Cell.fz (.lst ds) = .lst ds:=nr rfl
@[simp] theorem zrqb (C:Str) (ns:List Str) (ds:List D):Cell.fz (.obj C ns ds) = .obj C ns ds:=nr rfl
@[simp] theorem zblb (m:Mem):mkCel [] m = .ok (.c m.length) (m++[.lst []]):=by unfold mkCel;simp[z5g]
end DL
namespace NT
open TM
def z7d (c:Nat):Bool:=decide (97≤c)&&decide (c≤122)
def isTag (w:List Nat):Bool:=decide (1≤w.length)&&decide (w.length≤8)&&w.all z7d
abbrev Segs:=List (List Nat × Nat)
def txt:Segs→List Nat→List Nat
 |[],l=>l
 |(t,j)::ts,l=>t++58::(yn (j+1) 32++txt ts l)
def wrd:Segs→List Nat→List Nat
 |[],l=>l
 |(t,j)::ts,l=>t++58::(if wrd ts l=[] then [] else yn (j+1) 32++wrd ts l)
/-- what stands ahead of the first colon, and behind it -/
def cutC (w:List Nat):Option (List Nat × List Nat):=match w with
 |[]=>none
 |c::w=>if c=58 then some ([],w) else (cutC w).map fun p=>(c::p.1,p.2)
/-- begins with no tag -/
def NoTag (l:List Nat):Prop:=match cutC l with
 |none=>True
 |some (h,t)=>isTag h=false∨(t≠[]∧t.head? ≠ some 32)
theorem z75:∀{w:List Nat},cutC w=none↔58 ∉ w
 |[]=>by simp[cutC]
 |c::w=>by
  unfold cutC
  by_cases h:c=58
  ·simp[h]
  ·rw[if_neg h,Option.map_eq_none_iff,z75]
   simp[Ne.symm h]
theorem ztz:∀{w h t:List Nat},cutC w=some (h,t)↔w=h++58::t∧58 ∉ h
 |[],h,t=>by simp[cutC]
 |c::w,h,t=>by
  unfold cutC
  by_cases e:c=58
  ·rw[if_pos e]
   subst e
   cases h with
   |nil=>simp[eq_comm]
   |cons a h=>simp;intro h1 h2;omega
  ·rw[if_neg e]
   cases h with
   |nil=>simp[e]
   |cons a h=>
    rw[y8b]
    constructor
    ·rintro ⟨p,h1,h2⟩
     obtain⟨h3,h4⟩:=ztz.mp (show cutC w=some (p.1,p.2) from h1)
     simp only[Prod.mk.injEq,List.cons.injEq] at h2
     obtain⟨⟨rfl,rfl⟩,rfl⟩:=h2
     refine⟨by rw[h3];rfl,?_⟩
     simp[h4,Ne.symm e]
    ·rintro ⟨h1,h2⟩
     simp only[List.cons_append,List.cons.injEq] at h1
     obtain⟨rfl,h1⟩:=h1
     refine⟨(h,t),ztz.mpr ⟨h1,fun z=>h2 (yd _ z)⟩,rfl⟩
theorem zjy (x y:List Nat):rdw (x++y)=if rdw y=[] then rdw x else x++rdw y:=by
 unfold rdw
 rw[yad]
 have key:∀a b:List Nat,(a++b).dropWhile sp=if a.dropWhile sp=[] then b.dropWhile sp else a.dropWhile sp++b:=by
  intro a b
  induction a with
  |nil=>rfl
  |cons c a ih=>
   rw[List.cons_append,y6b,y6b]
   by_cases h:sp c=true
   ·rw[if_pos h,if_pos h];exact ih
   ·rw[if_neg h,if_neg h,if_neg (by simp)];rfl
 rw[key]
 by_cases h:y.reverse.dropWhile sp=[]
 ·rw[if_pos h,if_pos (by rw[h];rfl)]
 ·rw[if_neg h,if_neg (by simpa using h),yad,y5c]
theorem zibb (n:Nat):rdw (yn n 32)=[]:=by
 unfold rdw
 rw[List.reverse_replicate]
 have:∀n:Nat,(yn n 32).dropWhile sp=[]:=fun n=>by
  induction n with
  |zero=>rfl
  |succ n ih=>rw[y5b,y6b,if_pos (show sp 32=true from rfl),ih]
 rw[this];rfl
theorem zjeb {t:List Nat} {c:Nat} (h:c≠32):rdw (t++[c])=t++[c]:=by
 rw[zjy]
 have:rdw [c]=[c]:=by
  unfold rdw
  simp[sp,h]
 rw[this,if_neg (by simp)]
theorem zleb {c:Nat} (h:c≠32) (y:List Nat):rdw (c::y)=c::rdw y:=by
 have e:=zjy [c] y
 have e1:rdw [c]=[c]:=by
  unfold rdw
  simp[sp,h]
 rw[List.singleton_append,e1] at e
 rw[e]
 split
 ·rename_i h0;rw[h0]
 ·rfl
/-- the letters of tags -/
structure TagW (w:List Nat):Prop where
 l1:1≤w.length
 l8:w.length≤8
 al:∀c∈w,97≤c∧c≤122
/-- no blank at either end -/
structure Trim (l:List Nat):Prop where
 hd:∃c t,l=c::t∧c≠32
 la:∃t c,l=t++[c]∧c≠32
theorem Trim.ne {l:List Nat} (h:Trim l):l≠[]:=by obtain⟨c,t,rfl,_⟩:=h.hd;simp
theorem Trim.rdw {l:List Nat} (h:Trim l):TM.rdw l=l:=by obtain⟨t,c,rfl,hc⟩:=h.la;exact zjeb hc
theorem Trim.ldw {l:List Nat} (h:Trim l):TM.ldw l=l:=by
 obtain⟨c,t,rfl,hc⟩:=h.hd
 unfold TM.ldw
 rw[y6b,if_neg (by simp[sp,hc])]
theorem zkbb {t y:List Nat}:rdw (t++58::y)=t++58::rdw y:=by
 rw[zjy,zleb (by decide),if_neg (by simp)]
theorem zhbb {l:List Nat} (hl:l=[]∨Trim l):∀{ts:Segs},rdw (txt ts l)=wrd ts l
 |[]=>by
  show rdw l=l
  rcases hl with rfl |hl
  ·rfl
  ·exact hl.rdw
 |(t,j)::ts=>by
  show rdw (t++58::(yn (j+1) 32++txt ts l))=t++58::(if wrd ts l=[] then [] else yn (j+1) 32++wrd ts l)
  rw[zkbb,zjy,zhbb hl,zibb]
theorem zb8 {l:List Nat} (hl:l=[]∨Trim l):∀{ts:Segs},(∀p∈ts,TagW p.1)→(wrd ts l=[]∧ts=[]∧l=[])∨Trim (wrd ts l)
 |[],_=>by
  rcases hl with rfl |hl
  ·exact .inl ⟨rfl,rfl,rfl⟩
  ·exact .inr hl
 |(t,j)::ts,h=>by
  refine .inr ?_
  have ht:=h (t,j) yb
  have ih:=zb8 hl (ts:=ts) fun p hp=>h p (yd _ hp)
  obtain⟨c,t',rfl⟩:∃c t',t=c::t':=by
   cases t with
   |nil=>exact absurd ht.l1 (by simp)
   |cons c t=>exact⟨c,t,rfl⟩
  have hc:=ht.al c yb
  refine⟨⟨c,t'++58::(if wrd ts l=[] then [] else yn (j+1) 32++wrd ts l),rfl,by omega⟩,?_⟩
  show ∃t c_1,(c::t')++58::(if wrd ts l=[] then [] else yn (j+1) 32++wrd ts l)=t++[c_1]∧c_1≠32
  rcases ih with ⟨e,_,_⟩ |ih
  ·rw[if_pos e]
   exact⟨c::t',58,rfl,by decide⟩
  ·rw[if_neg ih.ne]
   obtain⟨t2,c2,e2,hc2⟩:=ih.la
   refine⟨(c::t')++58::(yn (j+1) 32++t2),c2,?_,hc2⟩
   rw[e2]
   simp
theorem za2 {m:Nat} {ts:Segs} {l:List Nat} (hl:l=[]∨Trim l):rdw (yn m 32++txt ts l)=if wrd ts l=[] then [] else yn m 32++wrd ts l:=by
 rw[zjy,zhbb hl,zibb]
theorem zwab {l:List Nat}:∀(ts:Segs),(wrd ts l).length≤(txt ts l).length
 |[]=>yp _
 |(t,j)::ts=>by
  have:=zwab (l:=l) ts
  unfold wrd txt
  split <;> simp <;> omega
end NT
namespace LV
/-- the last k below i with p k -/
def lastOf (p:Nat→Bool) (i:Nat):Option Nat:=((List.range i).filter p).getLast?
section
variable (c:Nat→Int)
def par (i:Nat):Option Nat:=lastOf (fun k=>decide (c k<c i)) i
/-- no node behind k, ahead of i, is at most as deep -/
def opn (i k:Nat):Bool:=decide (∀j,j<i→k<j→c k<c j)
def stk (i:Nat):List Nat:=(List.range i).filter (opn c i)
def keeps (i:Nat):List Nat:=(stk c i).filter fun k=>decide (c k<c i)
/-- the last one ahead with the same parent -/
def sib (i:Nat):Option Nat:=lastOf (fun k=>decide (par c k=par c i)) i
def off (i:Nat):Bool:=match sib c i with
 |some a=>decide (c a≠c i)
 |none=>false
end
end LV
namespace DL
open PySem PySem.Spec L2 TM SX
theorem zq6 {h t:List Nat} (hh:58 ∉ h) (hz:(h++58::t).length≤sizeLine):zfn (.str (S (h++58::t))) [.str (S [58])]=some (.tup [.str (S h),.str (S [58]),.str (S t)]):=by
 show chk _ _=_
 rw[zdc ⟨by rw[S_len];rfl,by rw[S_len];exact hz⟩]
 have e:Txt.partition (S (h++58::t)) (S [58])=(S h,S [58],S t):=partition_some (by simp) (par_head (sep:=[]) t hh)
 rw[e]
theorem zbib {a:List Nat} (hh:58 ∉ a) (hz:a.length≤sizeLine):zfn (.str (S a)) [.str (S [58])]=some (.tup [.str (S a),.str (S []),.str (S [])]):=by
 show chk _ _=_
 rw[zdc ⟨by rw[S_len];rfl,by rw[S_len];exact hz⟩]
 have e:Txt.partition (S a) (S [58])=(S a,S [],S []):=partition_none (by simp) (par_head_none hh)
 rw[e]
theorem z70 (a:List Nat) (c:Nat):z21 (.str (S a)) [.str (S [c])]=some (.bl (decide (a.head?=some c))):=by
 show some (D.bl (Txt.startswith (S a) (S [c])))=_
 congr 2
 rw[Bool.eq_iff_iff,decide_eq_true_eq]
 unfold Txt.startswith
 rw[yab,decide_eq_true_eq]
 have h:=StrLaws.subAt_one (S a) c 0
 have e:(S a).cps.toList[0]?=a.head?:=by show a[0]?=_;cases a <;> rfl
 rw[e] at h
 exact h
@[simp] theorem z1mb (ds:List D):truD (.lst ds)=some (!ds.isEmpty):=rfl
@[simp] theorem z0mb (ds:List D):truD (.tup ds)=some (!ds.isEmpty):=rfl
@[simp] theorem zknb (ts:List String) (t:Tbl) (neg:Bool) (xs:List D) (y:W) (m:Mem):eqoW ts t neg (.d (.lst xs)) y m=lift2 (if neg=true then neD else eqD) (.d (.lst xs)) y m:=nr rfl
def oN:Option Nat→D
 |none=>.non
 |some k=>.int (k:Int)
@[simp] theorem zlob:oN none = .non:=rfl
@[simp] theorem zkob (k:Nat):oN (some k) = .int (k:Int):=rfl
theorem At.lt {k n:Nat} {m0 m:Mem} (h:At k n m0 m):k<m.length:=by
 obtain⟨s,h1,_⟩:=h.sr
 exact (yc.mp h1).1
theorem At.ext {k n:Nat} {m0 m:Mem} (h:At k n m0 m) (t:Mem):At k n (m0++t) (m++t):=by
 have hk:=h.lt
 obtain⟨s,h1,g⟩:=h.sr
 refine⟨by simp[h.ln],fun j hj=>?_,s,by rw[yl hk];exact h1,g⟩
 by_cases hl:j<m.length
 ·rw[yl hl,yl (by rw[←h.ln];exact hl)]
  exact h.ot j hj
 ·rw[yf (by omega),yf (by rw[←h.ln];omega),h.ln]
theorem At.unext {k n:Nat} {m0 t M:Mem} (h:At k n (m0++t) M) (hk:k<m0.length):∃m,M=m++t∧At k n m0 m:=by
 have hl:=h.ln
 rw[yg] at hl
 have e:M.drop m0.length=t:=by
  refine List.ext_getElem? fun i=>?_
  rw[List.getElem?_drop,h.ot _ (by omega),yf (by omega)]
  congr 1
  omega
 refine⟨M.take m0.length,?_,?_,fun j hj=>?_,?_⟩
 ·rw[←e,List.take_append_drop]
 ·rw[y6c];omega
 ·by_cases hj2:j<m0.length
  ·rw[y1b hj2,h.ot j hj,yl hj2]
  ·rw[ycc (by rw[y6c];omega),ycc (by omega)]
 ·obtain⟨s,h1,g⟩:=h.sr
  exact⟨s,by rw[y1b hk];exact h1,g⟩
/-- a reading that asks the source, with cells behind it -/
theorem At.tail {k n n':Nat} {m0 m t:Mem} {β : Type} {f:Mem→Res W} {P : β → Prop} {v : β → W} (h:At k n m0 m) (hf:∀m1,At k n m1 m1→∃b m',f m1 = .ok (v b) m'∧P b∧At k n' m1 m'):∃b m',f (m++t) = .ok (v b) (m'++t)∧P b∧At k n' m0 m':=by
 obtain⟨b,M,e,p,a⟩:=hf (m++t) ((h.self (n':=0)).ext t)
 obtain⟨m',rfl,a'⟩:=a.unext h.lt
 exact⟨b,m',e,p,(h.trans (n':=n') a')⟩
/-- one turn of a while -/
theorem z19 {n:Nat} {t:DT} {b:DS} {dl:Env} {m m1:Mem} (h:t dl m = .ok false m1):zch t b (n+1) dl m = .nx dl m1:=by
 unfold zch
 rw[h]
 rfl
theorem z29 {n:Nat} {t:DT} {b:DS} {dl dl2:Env} {m m1 m2:Mem} (h:t dl m = .ok true m1) (h2:b dl m1 = .nx dl2 m2):zch t b (n+1) dl m=zch t b n dl2 m2:=by
 conv=>lhs;unfold zch
 rw[h]
 show (match b dl m1 with
   |.nx dl2 m2=>zch t b n dl2 m2
   |.ct dl2 m2=>zch t b n dl2 m2
   |.bk dl2 m2=>.nx dl2 m2
   |.rt w m2=>.rt w m2
   |.exc dl2 C f p m2=>.exc dl2 C f p m2
   |.no=>.no)=_
 rw[h2]
theorem z53 {n:Nat} {t:DT} {b:DS} {dl:Env} {m m1 m2:Mem} {w:W} (h:t dl m = .ok true m1) (h2:b dl m1 = .rt w m2):zch t b (n+1) dl m = .rt w m2:=by
 conv=>lhs;unfold zch
 rw[h]
 show (match b dl m1 with
   |.nx dl2 m2=>zch t b n dl2 m2
   |.ct dl2 m2=>zch t b n dl2 m2
   |.bk dl2 m2=>.nx dl2 m2
   |.rt w m2=>.rt w m2
   |.exc dl2 C f p m2=>.exc dl2 C f p m2
   |.no=>.no)=_
 rw[h2]
theorem za8 (n:Nat) (t:DT) (b:DS) (dl:Env) (m:Mem):zcbb n t b dl m=zch t b n dl m:=nr rfl
/-- data that may be compared: no deeper than k -/
def Lay (k:Nat) (d:D):Prop:=∃p,toP d=some p∧PyData.canLay0 p=true∧p.depth≤k
theorem Lay.mono {k j:Nat} {d:D} (h:Lay k d) (hk:k≤j):Lay j d:=let ⟨p,a,b,c⟩:=h;⟨p,a,b,by omega⟩
theorem Lay.int (k:Nat) (i:Int):Lay k (.int i):=⟨.int i,rfl,rfl,y7b _⟩
theorem Lay.non (k:Nat):Lay k .non:=⟨_,rfl,rfl,y7b _⟩
theorem Lay.bl (k:Nat) (b:Bool):Lay k (.bl b):=⟨_,rfl,rfl,y7b _⟩
theorem Lay.oN (k:Nat) (o:Option Nat):Lay k (oN o):=by
 cases o with
 |none=>exact Lay.non k
 |some i=>exact Lay.int k _
theorem Lay.str (k:Nat) {a:List Nat} (h:∀c∈a,c<128):Lay k (.str (S a)):=⟨.str (S a),rfl,z7ab fun c hc=>yvc (h c hc) (by decide),y7b _⟩
theorem lays {k:Nat}:∀{ds:List D},(∀d∈ds,Lay k d)→∃ps,toPs ds=some ps∧PyData.canLayAll0 ps=true∧PyData.depthAll ps≤k
 |[],_=>⟨[],rfl,rfl,y7b _⟩
 |d::ds,h=>by
  obtain⟨p,h1,h2,h3⟩:=h d yb
  obtain⟨ps,h4,h5,h6⟩:=lays fun x hx=>h x (yd _ hx)
  refine⟨p::ps,by simp only[toPs,h1,h4],?_,?_⟩
  ·rw[PyData.canLayAll0,h2,h5];rfl
  ·rw[PyData.depthAll];omega
theorem Lay.tup {k:Nat} {ds:List D} (h:∀d∈ds,Lay k d):Lay (k+1) (.tup ds):=by
 obtain⟨ps,h1,h2,h3⟩:=lays h
 exact⟨.tuple ps,by simp only[toP,h1],h2,by show PyData.depthAll ps+1≤k+1;omega⟩
theorem Lay.lst {k:Nat} {ds:List D} (h:∀d∈ds,Lay k d):Lay (k+1) (.lst ds):=by
 obtain⟨ps,h1,h2,h3⟩:=lays h
 exact⟨.list ps,by simp only[toP,h1],h2,by show PyData.depthAll ps+1≤k+1;omega⟩
theorem Lay.ok {k:Nat} {d:D} (h:Lay k d) (hk:k≤64):okD d=true:=by
 obtain⟨p,h1,h2,h3⟩:=h
 unfold okD
 rw[h1]
 simp only[]
 unfold SeqAt.shaped
 rw[yab]
 exact⟨h2,decide_eq_true (by omega)⟩
theorem zlib {k:Nat} {d:D} (h:Lay k d) (hk:k≤64):neD d d=some (.bl false):=z4eb (h.ok hk)
@[simp] theorem zyqb (a b:Bool):eqD (.bl a) (.bl b)=some (.bl (a==b)):=by cases a <;> cases b <;> rfl
@[simp] theorem ziqb (a b:Bool):neD (.bl a) (.bl b)=some (.bl (!(a==b))):=by cases a <;> cases b <;> rfl
@[simp] theorem sz4:(4:Nat)≤sizeLine:=by decide
@[simp] theorem sz5:(5:Nat)≤sizeLine:=by decide
@[simp] theorem sz6:(6:Nat)≤sizeLine:=by decide
@[simp] theorem sz7:(7:Nat)≤sizeLine:=by decide
@[simp] theorem sz8:(8:Nat)≤sizeLine:=by decide
@[simp] theorem sz9:(9:Nat)≤sizeLine:=by decide
@[simp] theorem sz10:(10:Nat)≤sizeLine:=by decide
@[simp] theorem sz11:(11:Nat)≤sizeLine:=by decide
@[simp] theorem sz12:(12:Nat)≤sizeLine:=by decide
@[simp] theorem sz13:(13:Nat)≤sizeLine:=by decide
@[simp] theorem sz14:(14:Nat)≤sizeLine:=by decide
@[simp] theorem sz15:(15:Nat)≤sizeLine:=by decide
@[simp] theorem sz16:(16:Nat)≤sizeLine:=by decide
@[simp] theorem sz17:(17:Nat)≤sizeLine:=by decide
@[simp] theorem sz18:(18:Nat)≤sizeLine:=by decide
@[simp] theorem sz19:(19:Nat)≤sizeLine:=by decide
@[simp] theorem sz20:(20:Nat)≤sizeLine:=by decide
@[simp] theorem sz21:(21:Nat)≤sizeLine:=by decide
@[simp] theorem sz22:(22:Nat)≤sizeLine:=by decide
@[simp] theorem sz23:(23:Nat)≤sizeLine:=by decide
@[simp] theorem sz24:(24:Nat)≤sizeLine:=by decide
@[simp] theorem sz25:(25:Nat)≤sizeLine:=by decide
@[simp] theorem sz26:(26:Nat)≤sizeLine:=by decide
@[simp] theorem sz27:(27:Nat)≤sizeLine:=by decide
@[simp] theorem sz28:(28:Nat)≤sizeLine:=by decide
@[simp] theorem sz29:(29:Nat)≤sizeLine:=by decide
@[simp] theorem sz30:(30:Nat)≤sizeLine:=by decide
structure Cmp {α : Type} [DecidableEq α] (enc : α → D) (ok : α → Prop) (k:Nat):Prop where
 h:∀a,ok a→Lay k (enc a)
 e:∀a b p q,ok a→ok b→toP (enc a)=some p→toP (enc b)=some q→PyData.eqv p q=decide (a=b)
theorem zsu {a b:List Nat} (h:S a=S b):a=b:=by
 have:(S a).cps.toList=(S b).cps.toList:=by rw[h]
 simpa [S] using this
theorem Cmp.str (k:Nat):Cmp (fun w:List Nat=>.str (S w)) (fun w=>∀c∈w,c<128) k:=by
 refine⟨fun a h=>Lay.str k h,fun a b p q _ _ hp hq=>?_⟩
 cases hp
 cases hq
 show decide _=_
 by_cases h:a=b
 ·subst h;simp
 ·rw[decide_eq_false h,decide_eq_false (fun z=>h (zsu z))]
theorem Cmp.oN (k:Nat):Cmp oN (fun _=>True) k:=by
 refine⟨fun a _=>Lay.oN k a,fun a b p q _ _ hp hq=>?_⟩
 cases a with
 |none=>
  cases hp
  cases b with
  |none=>cases hq;rfl
  |some j=>cases hq;rfl
 |some i=>
  cases hp
  cases b with
  |none=>cases hq;rfl
  |some j=>
   cases hq
   show decide ((i:Int)=(j:Int))=decide (some i=some j)
   by_cases h:i=j
   ·subst h;simp
   ·rw[decide_eq_false (by omega),decide_eq_false (by simpa using h)]
theorem Cmp.all {α : Type} [DecidableEq α] {enc : α → D} {ok : α → Prop} {k:Nat} (c:Cmp enc ok k):∀(as bs:List α) (ps qs:List PyData),(∀a∈as,ok a)→(∀b∈bs,ok b)→toPs (as.map enc)=some ps→toPs (bs.map enc)=some qs→PyData.eqvAll ps qs=decide (as=bs)
 |[],[],ps,qs,_,_,hp,hq=>by cases hp;cases hq;rfl
 |[],b::bs,ps,qs,_,hb,hp,hq=>by
  cases hp
  obtain⟨p,h1,_⟩:=c.h b (hb b yb)
  rw[yr] at hq
  simp only[toPs,h1] at hq
  split at hq
  ·cases hq;rfl
  ·cases hq
 |a::as,[],ps,qs,ha,_,hp,hq=>by
  cases hq
  obtain⟨p,h1,_⟩:=c.h a (ha a yb)
  rw[yr] at hp
  simp only[toPs,h1] at hp
  split at hp
  ·cases hp;rfl
  ·cases hp
 |a::as,b::bs,ps,qs,ha,hb,hp,hq=>by
  obtain⟨p,h1,_⟩:=c.h a (ha a yb)
  obtain⟨q,h2,_⟩:=c.h b (hb b yb)
  rw[yr] at hp hq
  simp only[toPs,h1] at hp
  simp only[toPs,h2] at hq
  split at hp
  ·rename_i ps' hp'
   cases hp
   split at hq
   ·rename_i qs' hq'
    cases hq
    rw[PyData.eqvAll,c.e a b p q (ha a yb) (hb b yb) h1 h2,Cmp.all c as bs ps' qs' (fun x hx=>ha x (yd _ hx)) (fun x hx=>hb x (yd _ hx)) hp' hq']
    by_cases e1:a=b <;> by_cases e2:as=bs <;> simp[e1,e2]
   ·cases hq
  ·cases hp
theorem Cmp.eqL {α : Type} [DecidableEq α] {enc : α → D} {ok : α → Prop} {k:Nat} (c:Cmp enc ok k) (hk:k≤60) {as bs:List α} (ha:∀a∈as,ok a) (hb:∀b∈bs,ok b):eqD (.lst (as.map enc)) (.lst (bs.map enc))=some (.bl (decide (as=bs))):=by
 obtain⟨ps,h1,h2,h3⟩:=lays (k:=k) (ds:=as.map enc) (fun d hd=>by obtain⟨a,hx,rfl⟩:=yfb.mp hd;exact c.h a (ha a hx))
 obtain⟨qs,h4,h5,h6⟩:=lays (k:=k) (ds:=bs.map enc) (fun d hd=>by obtain⟨a,hx,rfl⟩:=yfb.mp hd;exact c.h a (hb a hx))
 show eqP _ _=_
 unfold eqP
 simp only[toP,h1,h4]
 rw[zdc ⟨zyu h2 (by omega),zyu h5 (by omega)⟩,PyData.eqv,c.all as bs ps qs ha hb h1 h4]
end DL
namespace DL
open PySem PySem.Spec L2
theorem putL_new {f:Str} {d:D}:∀{ns:List Str} {ds:List D},f ∉ ns→ns.length=ds.length→putL f d ns ds=(ns++[f],ds++[d])
 |[],[],_,_=>rfl
 |[],_::_,_,h=>by simp at h
 |_::_,[],_,h=>by simp at h
 |n::ns,x::xs,h,hl=>by
  unfold putL
  have h1:¬n=f:=fun e=>h (by rw[e];exact yb)
  have h2:=putL_new (f:=f) (d:=d) (ns:=ns) (ds:=xs) (fun z=>h (yd _ z)) (by simpa using hl)
  rw[if_neg h1,h2]
  rfl
/-- a field more of an object under construction -/
theorem z6h {Cs:List Str} {C f:Str} {ns:List Str} {ds:List D} (m:Mem) (d:D) (hC:C∈Cs) (hf:f ∉ ns) (hl:ns.length=ds.length) (hz:ns.length<1000) :
  sFldW Cs f (.d d) (.c m.length) (m++[.obj C ns ds])=some (m++[.obj C (ns++[f]) (ds++[d])]):=by
 have hg:(m++[Cell.obj C ns ds])[m.length]?=some (.obj C ns ds):=by simp
 unfold sFldW
 simp only[hg]
 rw[if_pos ⟨hC,hz⟩,putL_new hf hl]
 simp
theorem z8x (ns:List Int):sumD [.lst (ns.map D.int)]=some (.int ns.sum):=by
 unfold sumD lstD
 simp only[]
 rw[zx1]
theorem zb4 (ss:List Str) (h:ss.length<64):zcy [.lst (ss.map D.str)]=some (.lst ((sortS ss).map D.str)):=by
 unfold zcy lstD
 simp only[]
 rw[zuab]
 simp only[]
 rw[if_pos h]
theorem za5 (ss:List Str):zlm (ss.map D.str)=some (ss.map V.str):=by
 induction ss with
 |nil=>rfl
 |cons s ss ih=>
  show (match flatD (.str s) with
   |some v=>(match zlm (ss.map D.str) with
    |some vs=>some (v::vs)
    |none=>none)
   |none=>none)=_
  rw[ih]
  rfl
theorem zffb (s:Str) (ss:List Str):inV (.str s) (ss.map V.str)=decide (s∈ss):=by
 unfold inV
 rw[List.any_map]
 induction ss with
 |nil=>simp
 |cons a ss ih=>
  rw[List.any_cons,ih]
  show (a==s ||decide (s∈ss))=_
  by_cases h:a=s
  ·subst h;simp
  ·have:¬s=a:=fun e=>h e.symm
   simp[h,this]
theorem znb (s:Str) (ss:List Str):inTD (.str s) (.tup (ss.map D.str))=some (.bl (decide (s∈ss))):=by
 unfold inTD flatD seqD
 simp only[]
 rw[za5]
 simp only[]
 rw[zffb]
end DL
namespace PG
open PySem PySem.Spec DL TM SX NT
inductive Sh where
 |in_ |out |first |rest
inductive Lab where
 |fixed (ls:List (List Nat))
 |hole (c:Nat)
 |each (c:Nat)
 |sum
 |sh (w:Sh) (n:Nat)
 |ded
 |flu
 |tg (hang:Bool) (t:List Nat)
inductive Pg where
 |node (l:Lab) (ms:List Pg)
def Sh.w:Sh→Str
 |.in_=>"in"
 |.out=>"out"
 |.first=>"first"
 |.rest=>"rest"
def Lab.w:Lab→Str
 |.fixed _=>"fixed"
 |.hole _=>"hole"
 |.each _=>"each"
 |.sum=>"sum"
 |.sh w _=>w.w
 |.ded=>"dedent"
 |.flu=>"flush"
 |.tg true _=>"tag"
 |.tg false _=>"raw"
/-- the nodes of a word: column and word -/
def lnF:Nat→Nat→List Nat→List (Nat × List Nat)
 | 0,_,_=>[]
 |n+1,c,w=>if w=[] then [] else (match cutC w with
  |none=>[(c,w)]
  |some (h,t)=>if isTag h=true∧(t=[]∨t.head?=some 32) then (c,h++[58])::lnF n (c+h.length+1+(t.length-(ldw t).length)) (ldw t) else [(c,w)])
def zoo (w:List Nat):List (Nat × List Nat):=lnF (w.length+1) 0 w
def word (l:List Nat):List Nat:=rdw (ldw l)
def ndP (p:Nat × List Nat):D:=.tup [.int (p.1:Int),.str (S p.2)]
def cutL (l:List Nat):D:=if word l=[] then .non else .tup [.int (((l.length-(ldw l).length:Nat)):Int),.tup ((zoo (word l)).map ndP)]
def cutLs (ls:List (List Nat)):List D:=ls.map cutL
def spL (l:List Nat):Nat:=if word l=[] then 0 else (zoo (word l)).length
def blkD (ls:List (List Nat)):D:=.obj "Block" ["rows"] [.lst (lnD ls)]
def nmD:Lab→D
 |.hole c=>.str (S [c])
 |.each c=>.str (S [c])
 |_=>.non
def amD:Lab→D
 |.sh _ n=>.int (n:Int)
 |_=>.non
def tgD:Lab→D
 |.tg _ t=>.str (S t)
 |_=>.non
def bkD:Lab→D
 |.fixed ls=>blkD ls
 |_=>.non
def ctD:Lab→D
 |.fixed ls=>.lst (cutLs ls)
 |_=>.non
/-- places of its own -/
def Lab.sp:Lab→Nat
 |.fixed ls=>(ls.map spL).sum
 |.hole _=>1
 |.tg _ _=>1
 |_=>0
mutual
def size:Pg→Nat
 |.node _ ms=>1+sizes ms
def sizes:List Pg→Nat
 |[]=>0
 |p::ps=>size p+sizes ps
end
mutual
def spots:Pg→Nat
 |.node l ms=>l.sp+zyo ms
def zyo:List Pg→Nat
 |[]=>0
 |p::ps=>spots p+zyo ps
end
def fns:List Str:=["word", "members", "name", "amount", "tag", "block", "cut", "size", "spots"]
def obD (l:Lab) (ms:List D) (sz sp:Nat):D:=.obj "Program" fns [.str l.w,.tup ms,nmD l,amD l,tgD l,bkD l,ctD l,.int (sz:Int),.int (sp:Int)]
mutual
def pgD:Pg→D
 |.node l ms=>obD l (pgDs ms) (1+sizes ms) (l.sp+zyo ms)
def pgDs:List Pg→List D
 |[]=>[]
 |p::ps=>pgD p::pgDs ps
end
theorem zc2:∀ps:List Pg,pgDs ps=ps.map pgD
 |[]=>by unfold pgDs;rfl
 |p::ps=>by unfold pgDs;rw[zc2 ps];rfl
theorem zc4:∀ps:List Pg,sizes ps=(ps.map size).sum
 |[]=>by unfold sizes;rfl
 |p::ps=>by unfold sizes;rw[zc4 ps];rfl
theorem z80:∀ps:List Pg,zyo ps=(ps.map spots).sum
 |[]=>by unfold zyo;rfl
 |p::ps=>by unfold zyo;rw[z80 ps];rfl
def Pg.lab:Pg→Lab
 |.node l _=>l
def Pg.ms:Pg→List Pg
 |.node _ ms=>ms
theorem z7h (p:Pg):pgD p=obD p.lab (p.ms.map pgD) (size p) (spots p):=by
 cases p with
 |node l ms=>
  unfold pgD size spots
  rw[zc2]
  rfl
theorem size_pos (p:Pg):1≤size p:=by
 cases p
 unfold size
 omega
theorem zeeb {p:Pg} {ps:List Pg} (h:p∈ps):size p≤sizes ps:=by
 induction ps with
 |nil=>cases h
 |cons q ps ih=>
  unfold sizes
  rcases yo.mp h with rfl |h
  ·omega
  ·have:=ih h
   omega
theorem z0r {p q:Pg} (h:q∈p.ms):size q<size p:=by
 cases p with
 |node l ms=>
  have:=zeeb (show q∈ms from h)
  have e:size (.node l ms)=1+sizes ms:=by conv=>lhs;unfold size
  rw[e]
  omega
mutual
def parts:Pg→List Pg
 |.node l ms=>.node l ms::zhw ms
def zhw:List Pg→List Pg
 |[]=>[]
 |p::ps=>parts p++zhw ps
end
theorem zky:∀ps:List Pg,zhw ps=ps.flatMap parts
 |[]=>by unfold zhw;rfl
 |p::ps=>by unfold zhw;rw[zky ps,yvb]
theorem z8h (p:Pg):parts p=p::p.ms.flatMap parts:=by
 cases p with
 |node l ms=>
  unfold parts
  rw[zky]
  rfl
mutual
theorem zeg:∀p:Pg,(parts p).length=size p
 |.node l ms=>by
  unfold parts size
  rw[yw,zf1 ms]
  omega
theorem zf1:∀ps:List Pg,(zhw ps).length=sizes ps
 |[]=>by unfold zhw sizes;rfl
 |p::ps=>by unfold zhw sizes;rw[yg,zeg p,zf1 ps]
end
def hol:Lab→Option Nat
 |.hole c=>some c
 |_=>none
/-- the names of the holes -/
def nms (p:Pg):List Nat:=(parts p).filterMap fun q=>hol q.lab
def wei:Lab→Bool
 |.hole _=>true
 |.each _=>true
 |_=>false
def weight (p:Pg):Nat:=((parts p).filter fun q=>wei q.lab).length
end PG
namespace DL
open PySem PySem.Spec L2
section
variable {hs:List HC} {r:Mem} {j:Nat} {ws:List HW}
theorem rdH (h:hs[j]?=some (.lst ws)):W.rd (.h j) (.hp hs::r)=some (.lst (ws.map HW.toD)):=by
 rw[rd_h]
 show (hs[j]?).map HC.toD=_
 rw[h]
 rfl
theorem z1y {t:Tbl} {k:Nat} {w:HW} (h:hs[j]?=some (.lst ws)) (hk:ws[k]?=some w):ixHW t (.h j) (.d (.int (k:Int))) (.hp hs::r) = .ok w.toW (.hp hs::r):=by
 unfold ixHW
 show (match hs[j]? with
  |some (.lst ws)=>atHW ws (.d (.int (k:Int))) (.hp hs::r)
  |some (.tup ws)=>atHW ws (.d (.int (k:Int))) (.hp hs::r)
  |some (.obj C _ _)=>(match look t C with
   |some F=>F [.h j,.d (.int (k:Int))] (.hp hs::r)
   |none=>.no)
  |_=>.no)=_
 rw[h]
 show (match atI ws (k:Int) with
  |some w=>Res.ok w.toW (.hp hs::r)
  |none=>.no)=_
 rw[DL.atI_nat,hk]
theorem zajb {k:Nat} {w:HW} (h:hs[j]?=some (.lst ws)) (hk:ws[k]?=some w):getLW (.h j) (.d (.int (k:Int))) (.hp hs::r) = .ok w.toW (.hp hs::r):=by
 have e1:Loc.get (.h j) (.hp hs::r)=some ws:=by
  unfold Loc.get
  show (match hs[j]? with
   |some (.lst ws)=>some ws
   |_=>none)=_
  rw[h]
 show (if 0≤(k:Int) then (match Loc.get (.h j) (.hp hs::r) with
  |some us=>(match us[(k:Int).toNat]? with
   |some h=>Res.ok h.toW (.hp hs::r)
   |none=>.no)
  |none=>.no) else .no)=_
 rw[if_pos (by omega),e1]
 simp only[]
 rw[ysb,hk]
theorem zk6 {k:Nat} {w:W} {x:HW} (h:hs[j]?=some (.lst ws)) (hk:k<ws.length) (hw:w.hw=some x):setLW w (.h j) (.d (.int (k:Int))) (.hp hs::r)=some (.hp (hs.set j (.lst (ws.set k x)))::r):=by
 have e1:Loc.get (.h j) (.hp hs::r)=some ws:=by
  unfold Loc.get
  show (match hs[j]? with
   |some (.lst ws)=>some ws
   |_=>none)=_
  rw[h]
 have e2:ixN ws.length (k:Int)=some k:=by
  unfold ixN
  rw[if_pos (by omega),if_pos (by omega),ysb]
 unfold setLW
 show (match W.loc (.h j),w.hw,W.d (.int (k:Int)) with
  |some l,some h,.d (.int j)=>(match l.get (.hp hs::r) with
   |some ws=>(match ixN ws.length j with
    |some n=>l.put (ws.set n h) (.hp hs::r)
    |none=>none)
   |none=>none)
  |_,_,_=>none)=_
 rw[hw]
 show (match Loc.get (.h j) (.hp hs::r) with
  |some ws=>(match ixN ws.length (k:Int) with
   |some n=>Loc.put (.h j) (ws.set n x) (.hp hs::r)
   |none=>none)
  |none=>none)=_
 rw[e1]
 simp only[]
 rw[e2]
 rfl
theorem z7hb {w:HW} {i:Nat} (h:hs[j]?=some (.lst ws)) (hi:ws[i]?=some w) (hz:ws.length<1000000):zh4 (.h j) [.d (.int (i:Int))] (.hp hs::r) = .ok w.toW (.hp (hs.set j (.lst (ws.eraseIdx i)))::r):=by
 have hl:=(yc.mp hi).1
 have e1:Loc.get (.h j) (.hp hs::r)=some ws:=by
  unfold Loc.get
  show (match hs[j]? with
   |some (.lst ws)=>some ws
   |_=>none)=_
  rw[h]
 have e2:seqIndex? (i:Int) ws.length=some i:=by
  unfold seqIndex?
  rw[if_neg (show ¬(i:Int)<0 by omega)]
  simp only[yab,decide_eq_true_eq]
  rw[if_pos ⟨by omega,by omega⟩,ysb]
 show (match Loc.get (.h j) (.hp hs::r) with
  |some us=>if -(2 ^ 63)≤(i:Int)∧(i:Int)<2 ^ 63 then (match seqIndex? (i:Int) us.length with
   |some k'=>(match us[k']? with
    |some h=>(match Loc.put (.h j) (us.eraseIdx k') (.hp hs::r) with
     |some m'=>Res.ok h.toW m'
     |none=>.no)
    |none=>.no)
   |none=>.no) else .no
  |none=>.no)=_
 rw[e1]
 simp only[]
 rw[if_pos ⟨by omega,by omega⟩,e2]
 simp only[]
 rw[hi]
 rfl
theorem ztkb {w:HW} {us:List HW} (h:hs[j]?=some (.lst (us++[w]))):popLW (.h j) (.hp hs::r) = .ok w.toW (.hp (hs.set j (.lst us))::r):=by
 have e1:Loc.get (.h j) (.hp hs::r)=some (us++[w]):=by
  unfold Loc.get
  show (match hs[j]? with
   |some (.lst ws)=>some ws
   |_=>none)=_
  rw[h]
 unfold popLW
 show (match W.loc (.h j) with
  |some l=>(match l.get (.hp hs::r) with
   |some us=>(match us[us.length-1]? with
    |some h=>(match l.put us.dropLast (.hp hs::r) with
     |some m'=>Res.ok h.toW m'
     |none=>.no)
    |none=>.no)
   |none=>.no)
  |none=>.no)=_
 show (match Loc.get (.h j) (.hp hs::r) with
  |some us=>(match us[us.length-1]? with
   |some h=>(match Loc.put (.h j) us.dropLast (.hp hs::r) with
    |some m'=>Res.ok h.toW m'
    |none=>.no)
   |none=>.no)
  |none=>.no)=_
 rw[e1]
 simp only[]
 rw[yg,yec,Nat.add_sub_cancel,yf (yp _),yib]
 simp only[List.getElem?_cons_zero,List.dropLast_concat]
 rfl
theorem zicb (t:Tbl) (h:hs[j]?=some (.lst ws)):lnW t (.h j) (.hp hs::r) = .ok (.d (.int (ws.length:Int))) (.hp hs::r):=by
 have e:=rdH (r:=r) h
 unfold lnW clsOf
 simp[-rd_h,e,lenD,seqD]
theorem z1gb (h:hs[j]?=some (.lst ws)):isTy "list" (.h j) (.hp hs::r)=true:=by
 have e:=rdH (r:=r) h
 unfold isTy
 rw[e]
 rfl
theorem zqcb (t:Tbl) {k:Nat} {d:D} (h:hs[j]?=some (.lst ws)) (hk:(ws.map HW.toD)[k]?=some d):ixW t (.h j) (.d (.int (k:Int))) (.hp hs::r) = .ok (.d d) (.hp hs::r):=by
 have e:=rdH (r:=r) h
 have e2:ixD (.lst (ws.map HW.toD)) (.int (k:Int))=some d:=by
  show atI (ws.map HW.toD) (k:Int)=some d
  rw[DL.atI_nat,hk]
 unfold ixW clsOf
 simp only[e,zcfb,zgib,rd_d,e2,zzeb]
theorem tru_h (h:hs[j]?=some (.lst ws)):tru (.h j) (.hp hs::r) = .ok (!ws.isEmpty) (.hp hs::r):=by
 have e:=rdH (r:=r) h
 rw[zct,e]
 cases ws <;> rfl
@[simp] theorem zeqb (b:Bool) (m:Mem):tru (.d (.bl b)) m = .ok b m:=by rw[zct];rfl
@[simp] theorem zhob (hs hs':List HC) (r:Mem):(Cell.hp hs::r).take ((Cell.hp hs'::r).length) = .hp hs::r:=by simp
/-- what stays of the heap -/
structure Kp (X:List Nat) (hs hs':List HC):Prop where
 l:hs.length≤hs'.length
 k:∀i,i<hs.length→i ∉ X→hs'[i]?=hs[i]?
theorem Kp.refl (X:List Nat) (hs:List HC):Kp X hs hs:=⟨yp _,fun _ _ _=>rfl⟩
theorem Kp.trans {X:List Nat} {h1 h2 h3:List HC} (a:Kp X h1 h2) (b:Kp X h2 h3):Kp X h1 h3:=⟨yy a.l b.l,fun i hi hx=>(b.k i (yvc hi a.l) hx).trans (a.k i hi hx)⟩
theorem Kp.mono {X Y:List Nat} {h1 h2:List HC} (a:Kp X h1 h2) (h:∀i∈X,i∈Y):Kp Y h1 h2:=⟨a.l,fun i hi hx=>a.k i hi fun z=>hx (h i z)⟩
theorem Kp.set {X:List Nat} {hs:List HC} {i:Nat} (h:i∈X) (c:HC):Kp X hs (hs.set i c):=⟨by rw[yeb];exact yp _,fun k hk hx=>yq (fun e:i=k=>hx (by rw[←e];exact h))⟩
theorem Kp.push (X:List Nat) (hs:List HC) (c:HC):Kp X hs (hs++[c]):=⟨by simp,fun k hk _=>yl hk⟩
theorem Kp.at_ {X:List Nat} {h1 h2:List HC} (a:Kp X h1 h2) {i:Nat} {c:HC} (h:h1[i]?=some c) (hx:i ∉ X):h2[i]?=some c:=(a.k i (yc.mp h).1 hx).trans h
end
/-- a comprehension into the heap whose items are data -/
theorem zv3 {g:DG} {t:DT} {e:DE} {wd:DL.Env}:∀(ds:List D) (acc acc':List D) (m m':Mem),compD g t e wd ds acc m = .ok acc' m'→compH g t e wd ds (acc.map HW.d) m = .ok (acc'.map HW.d) m'
 |[],acc,acc',m,m',h=>by
  cases h
  rfl
 |d::ds,acc,acc',m,m',h=>by
  unfold compD at h
  unfold compH
  cases h1:g (.d d) wd with
  |none=>rw[h1] at h;cases h
  |some dl1=>
   rw[h1] at h
   dsimp only at h ⊢
   cases h2:t dl1 m with
   |no=>rw[h2] at h;cases h
   |exc _ _ _ _=>rw[h2] at h;cases h
   |ok b m1=>
    rw[h2] at h
    dsimp only at h ⊢
    cases b with
    |false=>exact zv3 ds acc acc' m1 m' h
    |true=>
     dsimp only at h ⊢
     cases h3:e dl1 m1 with
     |no=>rw[h3] at h;cases h
     |exc _ _ _ _=>rw[h3] at h;cases h
     |ok w m2=>
      rw[h3] at h
      cases w with
      |c k=>cases h
      |ex _ _ _ _ _=>cases h
      |h i=>cases h
      |d x=>
       have h:(if acc.length<sizeLine then compD g t e wd ds (acc++[x]) m2 else .no) = .ok acc' m':=h
       by_cases hl:acc.length<sizeLine
       ·rw[if_pos hl] at h
        have ih:=zv3 ds (acc++[x]) acc' m2 m' h
        rw[yob] at ih
        show (if (acc.map HW.d).length<sizeLine then compH g t e wd ds (acc.map HW.d++[.d x]) m2 else .no)=_
        rw[if_pos (by rw[ye];exact hl)]
        exact ih
       ·rw[if_neg hl] at h
        cases h
@[simp] theorem zmob (c:HC) (hs:List HC) (r:Mem):newH c (.hp hs::r) = .ok (.h hs.length) (.hp (hs++[c])::r):=nr rfl
end DL
namespace LK
open PySem PySem.Spec L2 DL
open PyProof.Rows hiding St
open Evl (Ex)
structure Tx (K:Fg) (mg:Str→Option Value):Prop where
 zyn:mg "BadAmount" = some (.ref (He.ga K "BadAmount"))
 zycb:mg "BadEach" = some (.ref (He.ga K "BadEach"))
 zbl:mg "BadLine" = some (.ref (He.ga K "BadLine"))
 z74:mg "BadName" = some (.ref (He.ga K "BadName"))
 zlfb:mg "BadTag" = some (.ref (He.ga K "BadTag"))
 zth:mg "Block" = some (.ref (He.ga K "Block"))
 z98:mg "NoLine" = some (.ref (He.ga K "NoLine"))
 zkfb:mg "NoPart" = some (.ref (He.ga K "NoPart"))
 zfh:mg "Program" = some (.ref (He.ga K "Program"))
 zxcb:mg "Shallow" = some (.ref (He.ga K "Shallow"))
 zwlb:mg "TAGS" = some (.ref (He.ga K "TAGS"))
 z44:mg "TooMany" = some (.ref (He.ga K "TooMany"))
 zbjb:mg "Twice" = some (.ref (He.ga K "Twice"))
 z9c:mg "_law_draw" = some (.ref (He.ga K "_law_draw"))
 zep:mg "_law_fixed" = some (.ref (He.ga K "_law_fixed"))
 z8y:mg "_law_leaf" = some (.ref (He.ga K "_law_leaf"))
 zkm:mg "_law_letters" = some (.ref (He.ga K "_law_letters"))
 zt2:mg "_law_member" = some (.ref (He.ga K "_law_member"))
 zwt:mg "_law_of" = some (.ref (He.ga K "_law_of"))
 zow:mg "_law_parts" = some (.ref (He.ga K "_law_parts"))
 z4e:mg "_law_program" = some (.ref (He.ga K "_law_program"))
 zdp:mg "_law_right" = some (.ref (He.ga K "_law_right"))
 z34:mg "_law_start" = some (.ref (He.ga K "_law_start"))
 zgab:mg "_law_sum" = some (.ref (He.ga K "_law_sum"))
 z24:mg "_law_thing" = some (.ref (He.ga K "_law_thing"))
 z7y:mg "_law_word" = some (.ref (He.ga K "_law_word"))
 zal:mg "all_parts" = some (.ref (He.ga K "all_parts"))
 zhn:mg "checked" = some (.ref (He.ga K "checked"))
 zvlb:mg "each" = some (.ref (He.ga K "each"))
 zwcb:mg "fixed" = some (.ref (He.ga K "fixed"))
 zb7:mg "flat_rows" = some (.ref (He.ga K "flat_rows"))
 zulb:mg "hole" = some (.ref (He.ga K "hole"))
 zxn:mg "is_amount" = some (.ref (He.ga K "is_amount"))
 zgv:mg "is_index" = some (.ref (He.ga K "is_index"))
 z6y:mg "is_line" = some (.ref (He.ga K "is_line"))
 z14:mg "is_name" = some (.ref (He.ga K "is_name"))
 za7:mg "is_number" = some (.ref (He.ga K "is_number"))
 z88:mg "is_tag" = some (.ref (He.ga K "is_tag"))
 g_law:mg "law" = some (.ref (He.ga K "law"))
 zk0:mg "least_margin" = some (.ref (He.ga K "least_margin"))
 z04:mg "line_nodes" = some (.ref (He.ga K "line_nodes"))
 zgs:mg "margin_of" = some (.ref (He.ga K "margin_of"))
 zgj:mg "moved_blocks" = some (.ref (He.ga K "moved_blocks"))
 z5y:mg "name_list" = some (.ref (He.ga K "name_list"))
 zor:mg "program_from" = some (.ref (He.ga K "program_from"))
 zs2:mg "raised_rows" = some (.ref (He.ga K "raised_rows"))
 zfs:mg "rows_from" = some (.ref (He.ga K "rows_from"))
 z4y:mg "shallow_place" = some (.ref (He.ga K "shallow_place"))
 zvt:mg "shifted" = some (.ref (He.ga K "shifted"))
 zz4:mg "split_text" = some (.ref (He.ga K "split_text"))
 zut:mg "sum_members" = some (.ref (He.ga K "sum_members"))
 z78:mg "summed" = some (.ref (He.ga K "summed"))
 z96:mg "weight_of" = some (.ref (He.ga K "weight_of"))
 zu2:∃t,mg "MOST_AMOUNT" = some (.int 20 t)
 z64:∃t,mg "MOST_LINES" = some (.int 6 t)
 zpw:∃t,mg "MOST_PARTS" = some (.int 16 t)
 zhab:∃t,mg "MOST_TAG" = some (.int 8 t)
 zxt:∃t,mg "MOST_WEIGHT" = some (.int 3 t)
 z54:∃t,mg "MOST_WIDTH" = some (.int 60 t)
 zjkb:∀H,SqT K H (He.ga K "TAGS") ((["tag", "raw"]:List Str).map V.str)
 zpu:mg "LookupError" = none
 zpx:mg "NotImplemented" = none
 zzz:mg "OverflowError" = none
 zkg:mg "ValueError" = none
 b_abs:mg "abs" = none
 b_all:mg "all" = none
 zghb:mg "bool" = none
 zyz:mg "enumerate" = none
 b_int:mg "int" = none
 zlb:mg "isinstance" = none
 b_len:mg "len" = none
 z95:mg "list" = none
 b_max:mg "max" = none
 b_min:mg "min" = none
 z87:mg "range" = none
 z9fb:mg "sorted" = none
 b_str:mg "str" = none
 b_sum:mg "sum" = none
 zy3:mg "tuple" = none
 b_zip:mg "zip" = none
 z8c:ym K (.ref (He.ga K "_law_draw"))=true
 zbp:ym K (.ref (He.ga K "_law_fixed"))=true
 z0y:ym K (.ref (He.ga K "_law_leaf"))=true
 zjm:ym K (.ref (He.ga K "_law_letters"))=true
 zm2:ym K (.ref (He.ga K "_law_member"))=true
 zrt:ym K (.ref (He.ga K "_law_of"))=true
 zkw:ym K (.ref (He.ga K "_law_parts"))=true
 z3e:ym K (.ref (He.ga K "_law_program"))=true
 zap:ym K (.ref (He.ga K "_law_right"))=true
 zv4:ym K (.ref (He.ga K "_law_start"))=true
 zeab:ym K (.ref (He.ga K "_law_sum"))=true
 zu4:ym K (.ref (He.ga K "_law_thing"))=true
 zzy:ym K (.ref (He.ga K "_law_word"))=true
 z9k:ym K (.ref (He.ga K "all_parts"))=true
 zgn:ym K (.ref (He.ga K "checked"))=true
 zllb:ym K (.ref (He.ga K "each"))=true
 zocb:ym K (.ref (He.ga K "fixed"))=true
 z46:ym K (.ref (He.ga K "flat_rows"))=true
 zklb:ym K (.ref (He.ga K "hole"))=true
 zvn:ym K (.ref (He.ga K "is_amount"))=true
 zav:ym K (.ref (He.ga K "is_index"))=true
 zyy:ym K (.ref (He.ga K "is_line"))=true
 zt4:ym K (.ref (He.ga K "is_name"))=true
 z36:ym K (.ref (He.ga K "is_number"))=true
 z38:ym K (.ref (He.ga K "is_tag"))=true
 zj0:ym K (.ref (He.ga K "least_margin"))=true
 zs4:ym K (.ref (He.ga K "line_nodes"))=true
 zcs:ym K (.ref (He.ga K "margin_of"))=true
 zfj:ym K (.ref (He.ga K "moved_blocks"))=true
 zxy:ym K (.ref (He.ga K "name_list"))=true
 zmr:ym K (.ref (He.ga K "program_from"))=true
 zl2:ym K (.ref (He.ga K "raised_rows"))=true
 zbs:ym K (.ref (He.ga K "rows_from"))=true
 zwy:ym K (.ref (He.ga K "shallow_place"))=true
 zqt:ym K (.ref (He.ga K "shifted"))=true
 zr4:ym K (.ref (He.ga K "split_text"))=true
 zpt:ym K (.ref (He.ga K "sum_members"))=true
 z28:ym K (.ref (He.ga K "summed"))=true
 z26:ym K (.ref (He.ga K "weight_of"))=true
 z77:Cls K (He.ga K "Block")
 zrj:Cls K (He.ga K "Program")
 ztx:ClX.CRead K (He.ga K "Block") (.type "type")
 zas:Mk K (He.ga K "Block") (He.ma K (He.ga K "Block") "__init__")
 zoj:Mk K (He.ga K "Program") (He.ma K (He.ga K "Program") "__init__")
 zvr:y4b K (.type "LookupError") (.type "type") "__init__" = some (.val (.builtin "LookupError.__init__"))
 zox:y4b K (.type "OverflowError") (.type "type") "__init__" = some (.val (.builtin "OverflowError.__init__"))
 zmh:fBop "Block" "__add__" .Add bopTs K=true
 zys:fBop "Block" "__lshift__" .LShift bopTs K=true
 zxs:fBop "Block" "__rshift__" .RShift bopTs K=true
 zki:fBop "Program" "__add__" .Add bopTs K=true
 zzp:fBop "Program" "__lshift__" .LShift bopTs K=true
 zyp:fBop "Program" "__rshift__" .RShift bopTs K=true
 zqk:ClX.CMet K (He.ga K "Block") (.type "type") "read" (He.ma K (He.ga K "Block") "read") (He5.wf K (He.ga K "Block") "classmethod" "read")
 zd3:fEq "Block" bopTs K=true
 zpv:fEq "Program" bopTs K=true
 zuh:ErrC K "BadAmount" "value" (He.ma K (He.ga K "BadAmount") "__init__")
 zau:ErrC K "BadEach" "name" (He.ma K (He.ga K "BadEach") "__init__")
 zgh:ErrC K "BadLine" "value" (He.ma K (He.ga K "BadLine") "__init__")
 zpp:ErrC K "BadName" "value" (He.ma K (He.ga K "BadName") "__init__")
 z0x:ErrC K "BadTag" "value" (He.ma K (He.ga K "BadTag") "__init__")
 z8t:ErrC K "Shallow" "line" (He.ma K (He.ga K "Shallow") "__init__")
 zf3:ErrC K "Twice" "name" (He.ma K (He.ga K "Twice") "__init__")
 z9t:ErrB K "LookupError.__new__" zn4 "NoLine" "value" (He.ma K (He.ga K "NoLine") "__init__")
 zzx:ErrB K "LookupError.__new__" zn4 "NoPart" "value" (He.ma K (He.ga K "NoPart") "__init__")
 zop:ErrB K "OverflowError.__new__" zybb "TooMany" "limit" (He.ma K (He.ga K "TooMany") "__init__")
 zev:fIop .Add "__iadd__" "Block" K=true
 z9q:fIop .RShift "__irshift__" "Block" K=true
 z0eb:yvd K (He.ga K "Block")=true
 znf:fOwn "Block" "__getitem__" K=true
 zbi:fOwn "Block" "__len__" K=true
 zai:fOwn "Block" "__neg__" K=true
 zmf:fOwn "Block" "__setitem__" K=true
 z9h:fOwn "Block" "__str__" K=true
 zvg:fOwn "Program" "__neg__" K=true
 zk4:fOwn "Program" "at" K=true
 zry:fOwn "Program" "first" K=true
 zqy:fOwn "Program" "flush" K=true
 zh0:fOwn "Program" "rest" K=true
 z2w:fOwn "Program" "tagged" K=true
 zsn:PropOf K (He.ga K "Block") "lines" (He.ma K (He.ga K "Block") "lines") (He5.wf K (He.ga K "Block") "property" "lines")
 z7o:PropOf K (He.ga K "Program") "parts" (He.ma K (He.ga K "Program") "parts") (He5.wf K (He.ga K "Program") "property" "parts")
 zd2:PropOf K (He.ga K "Program") "row" (He.ma K (He.ga K "Program") "row") (He5.wf K (He.ga K "Program") "property" "row")
 rO_Block___radd__:fRopO .Add "__add__" "__radd__" ropTs "Block" K=true
 rO_Program___radd__:fRopO .Add "__add__" "__radd__" ropTs "Program" K=true
 zww:fTwo "Block" "Program" K=true
 zvw:fTwo "Program" "Block" K=true
 ve:y4b K (.type "ValueError") (.type "type") "__init__" = some (.val (.builtin "ValueError.__init__"))
 zc3:∀C∈(["Program"]:List Str),Cls K (He.ga K C)∧NoAttr K (He.ga K C) "amount"
 zh7:∀C∈(["Program"]:List Str),Cls K (He.ga K C)∧NoAttr K (He.ga K C) "block"
 f_cut:∀C∈(["Program"]:List Str),Cls K (He.ga K C)∧NoAttr K (He.ga K C) "cut"
 zfl:∀C∈(["Program"]:List Str),Cls K (He.ga K C)∧NoAttr K (He.ga K C) "members"
 zq5:∀C∈(["Program"]:List Str),Cls K (He.ga K C)∧NoAttr K (He.ga K C) "name"
 z4g:∀C∈(["Block"]:List Str),Cls K (He.ga K C)∧NoAttr K (He.ga K C) "rows"
 zi9:∀C∈(["Program"]:List Str),Cls K (He.ga K C)∧NoAttr K (He.ga K C) "size"
 z6cb:∀C∈(["Program"]:List Str),Cls K (He.ga K C)∧NoAttr K (He.ga K C) "spots"
 f_tag:∀C∈(["Program"]:List Str),Cls K (He.ga K C)∧NoAttr K (He.ga K C) "tag"
 z5t:∀C∈(["Program"]:List Str),Cls K (He.ga K C)∧NoAttr K (He.ga K C) "word"
 zue:IsiT K (isfT zue) (([CRef.own "Block"]:List CRef).map (CRef.v K))
 znd:IsiT K (isfT znd) (([CRef.own "Block",CRef.bt "str"]:List CRef).map (CRef.v K))
 zwd:IsiT K (isfT zwd) (([CRef.own "Program"]:List CRef).map (CRef.v K))
 zkk:IsiT K (isfT zkk) (([CRef.bt "bool"]:List CRef).map (CRef.v K))
 zwn:IsiT K (isfT zwn) (([CRef.bt "int"]:List CRef).map (CRef.v K))
 zde:IsiT K (isfT zde) (([CRef.bt "str"]:List CRef).map (CRef.v K))
 zsz:∃fd,FunD K "__len__" "Block.__len__" (defArgs zcc) (defBody zcc) (defScope zcc) [] [] (He.ma K (He.ga K "Block") "__len__") fd
 z15:∃fd,FunD K "_law_start" "_law_start" (defArgs zhc) (defBody zhc) (defScope zhc) [] [] (He.ga K "_law_start") fd
 zy7:∃fd,FunD K "is_number" "is_number" (defArgs z2d) (defBody z2d) (defScope z2d) [] [] (He.ga K "is_number") fd
 znab:∃fd,FunD K "is_index" "is_index" (defArgs zje) (defBody zje) (defScope zje) [] [] (He.ga K "is_index") fd
 zws:∃fd,FunD K "__getitem__" "Block.__getitem__" (defArgs z6) (defBody z6) (defScope z6) [] [] (He.ma K (He.ga K "Block") "__getitem__") fd
 z47:∃fd,FunD K "_law_draw" "_law_draw" (defArgs z6d) (defBody z6d) (defScope z6d) [] [] (He.ga K "_law_draw") fd
 ztdb:∃fd,FunD K "_law_of" "_law_of" (defArgs zcf) (defBody zcf) (defScope zcf) [] [] (He.ga K "_law_of") fd
 zz0:∃fd,FunD K "_law_letters" "_law_letters" (defArgs z6b) (defBody z6b) (defScope z6b) [] [] (He.ga K "_law_letters") fd
 z27:∃fd,FunD K "_law_word" "_law_word" (defArgs z4d) (defBody z4d) (defScope z4d) [] [] (He.ga K "_law_word") fd
 z45:∃fd,FunD K "_law_fixed" "_law_fixed" (defArgs zhd) (defBody zhd) (defScope zhd) [] [] (He.ga K "_law_fixed") fd
 zoab:∃fd,FunD K "_law_sum" "_law_sum" (defArgs zke) (defBody zke) (defScope zke) [] [] (He.ga K "_law_sum") fd
 z37:∃fd,FunD K "_law_leaf" "_law_leaf" (defArgs zrd) (defBody zrd) (defScope zrd) [] [] (He.ga K "_law_leaf") fd
 zrdb:∃fd,FunD K "is_line" "is_line" (defArgs zbf) (defBody zbf) (defScope zbf) [] [] (He.ga K "is_line") fd
 zmx:∃fd,FunD K "__init__" "Block.__init__" (defArgs zhb) (defBody zhb) (defScope zhb) [] [] (He.ma K (He.ga K "Block") "__init__") fd
 z65:∃fd,FunD K "read" "Block.read" (defArgs zld) (defBody zld) (defScope zld) [] [] (He5.wf K (He.ga K "Block") "classmethod" "read") fd
 zqz:∃fd,FunD K "__str__" "Block.__str__" (defArgs zac) (defBody zac) (defScope zac) [] [] (He.ma K (He.ga K "Block") "__str__") fd
 zs3:∃fd,FunD K "lines" "Block.lines" (defArgs z2c) (defBody z2c) (defScope z2c) [] [] (He5.wf K (He.ga K "Block") "property" "lines") fd
 zx7:∃fd,FunD K "margin_of" "margin_of" (defArgs z1d) (defBody z1d) (defScope z1d) [] [] (He.ga K "margin_of") fd
 z2fb:∃fd,FunD K "is_tag" "is_tag" (defArgs zuf) (defBody zuf) (defScope zuf) [] [] (He.ga K "is_tag") fd
 zz5:∃fd,FunD K "line_nodes" "line_nodes" (defArgs zed) (defBody zed) (defScope zed) [] [] (He.ga K "line_nodes") fd
 zy5:∃fd,FunD K "split_text" "split_text" (defArgs zdd) (defBody zdd) (defScope zdd) [] [] (He.ga K "split_text") fd
 zju:∃fd,FunD K "__init__" "Program.__init__" (defArgs zr) (defBody zr) (defScope zr) [.non,.non,.non,.non] [] (He.ma K (He.ga K "Program") "__init__") fd
 zwjb:∃fd,FunD K "fixed" "fixed" (defArgs zlh) (defBody zlh) (defScope zlh) [] [] (He.ga K "fixed") fd
 zqdb:∃fd,FunD K "is_name" "is_name" (defArgs zaf) (defBody zaf) (defScope zaf) [] [] (He.ga K "is_name") fd
 z9lb:∃fd,FunD K "hole" "hole" (defArgs z2k) (defBody z2k) (defScope z2k) [] [] (He.ga K "hole") fd
 zv7:∃fd,FunD K "rows_from" "rows_from" (defArgs z0d) (defBody z0d) (defScope z0d) [] [] (He.ga K "rows_from") fd
 zwp:∃fd,FunD K "__add__" "Block.__add__" (defArgs zrb) (defBody zrb) (defScope zrb) [] [] (He.ma K (He.ga K "Block") "__add__") fd
 z17:∃fd,FunD K "all_parts" "all_parts" (defArgs zgf) (defBody zgf) (defScope zgf) [] [] (He.ga K "all_parts") fd
 zw7:∃fd,FunD K "name_list" "name_list" (defArgs zpd) (defBody zpd) (defScope zpd) [] [] (He.ga K "name_list") fd
 zu7:∃fd,FunD K "weight_of" "weight_of" (defArgs zod) (defBody zod) (defScope zod) [] [] (He.ga K "weight_of") fd
 zsdb:∃fd,FunD K "checked" "checked" (defArgs zoe) (defBody zoe) (defScope zoe) [] [] (He.ga K "checked") fd
 zn3:∃fd,FunD K "sum_members" "sum_members" (defArgs zzc) (defBody zzc) (defScope zzc) [] [] (He.ga K "sum_members") fd
 z1fb:∃fd,FunD K "summed" "summed" (defArgs zdg) (defBody zdg) (defScope zdg) [] [] (He.ga K "summed") fd
 zv0:∃fd,FunD K "program_from" "program_from" (defArgs zic) (defBody zic) (defScope zic) [] [] (He.ga K "program_from") fd
 zxv:∃fd,FunD K "__add__" "Program.__add__" (defArgs zkb) (defBody zkb) (defScope zkb) [] [] (He.ma K (He.ga K "Program") "__add__") fd
 zz7:∃fd,FunD K "is_amount" "is_amount" (defArgs z3d) (defBody z3d) (defScope z3d) [] [] (He.ga K "is_amount") fd
 zw0:∃fd,FunD K "moved" "moved" (defArgs zjc) (defBody zjc) (defScope zjc) [] [] (He.ga K "moved_blocks") fd
 zku:∃fd,FunD K "__rshift__" "Block.__rshift__" (defArgs zz) (defBody zz) (defScope zz) [] [] (He.ma K (He.ga K "Block") "__rshift__") fd
 zpdb:∃fd,FunD K "shifted" "shifted" (defArgs z9e) (defBody z9e) (defScope z9e) [] [] (He.ga K "shifted") fd
 zgr:∃fd,FunD K "__rshift__" "Program.__rshift__" (defArgs zx) (defBody zx) (defScope zx) [] [] (He.ma K (He.ga K "Program") "__rshift__") fd
 zmz:∃fd,FunD K "shallow_place" "shallow_place" (defArgs z4b) (defBody z4b) (defScope z4b) [] [] (He.ga K "shallow_place") fd
 zo3:∃fd,FunD K "raised_rows" "raised_rows" (defArgs zqc) (defBody zqc) (defScope zqc) [] [] (He.ga K "raised_rows") fd
 zlu:∃fd,FunD K "__lshift__" "Block.__lshift__" (defArgs zdb) (defBody zdb) (defScope zdb) [] [] (He.ma K (He.ga K "Block") "__lshift__") fd
 zhr:∃fd,FunD K "__lshift__" "Program.__lshift__" (defArgs zy) (defBody zy) (defScope zy) [] [] (He.ma K (He.ga K "Program") "__lshift__") fd
 zoz:∃fd,FunD K "flush" "Program.flush" (defArgs z8b) (defBody z8b) (defScope z8b) [] [] (He.ma K (He.ga K "Program") "flush") fd
 zpz:∃fd,FunD K "first" "Program.first" (defArgs z9b) (defBody z9b) (defScope z9b) [] [] (He.ma K (He.ga K "Program") "first") fd
 z00:∃fd,FunD K "rest" "Program.rest" (defArgs zkc) (defBody zkc) (defScope zkc) [] [] (He.ma K (He.ga K "Program") "rest") fd
 zjx:∃fd,FunD K "tagged" "Program.tagged" (defArgs ztb) (defBody ztb) (defScope ztb) [] [("hang",.bl true)] (He.ma K (He.ga K "Program") "tagged") fd
 zx0:∃fd,FunD K "least_margin" "least_margin" (defArgs z5b) (defBody z5b) (defScope z5b) [] [] (He.ga K "least_margin") fd
 z07:∃fd,FunD K "flat_rows" "flat_rows" (defArgs zqd) (defBody zqd) (defScope zqd) [] [] (He.ga K "flat_rows") fd
 zrz:∃fd,FunD K "__neg__" "Block.__neg__" (defArgs zbc) (defBody zbc) (defScope zbc) [] [] (He.ma K (He.ga K "Block") "__neg__") fd
 zwv:∃fd,FunD K "__neg__" "Program.__neg__" (defArgs zjb) (defBody zjb) (defScope zjb) [] [] (He.ma K (He.ga K "Program") "__neg__") fd
 zq3:∃fd,FunD K "row" "Program.row" (defArgs zrc) (defBody zrc) (defScope zrc) [] [] (He5.wf K (He.ga K "Program") "property" "row") fd
 zamb:∃fd,FunD K "each" "each" (defArgs z3k) (defBody z3k) (defScope z3k) [] [] (He.ga K "each") fd
 zy0:∃fd,FunD K "_law_program" "_law_program" (defArgs z5d) (defBody z5d) (defScope z5d) [] [] (He.ga K "_law_program") fd
 zp3:∃fd,FunD K "_law_member" "_law_member" (defArgs z0c) (defBody z0c) (defScope z0c) [] [] (He.ga K "_law_member") fd
 z0v:∃fd,FunD K "__init__" "Block.__init__" (defArgs zab) (defBody zab) (defScope zab) [] [] (He.ma K (He.ga K "Block") "__init__") fd
 zr3:∃fd,FunD K "read" "Block.read" (defArgs z1c) (defBody z1c) (defScope z1c) [] [] (He5.wf K (He.ga K "Block") "classmethod" "read") fd
 z05:∃fd,FunD K "_law_thing" "_law_thing" (defArgs zfd) (defBody zfd) (defScope zfd) [] [] (He.ga K "_law_thing") fd
 z10:∃fd,FunD K "__eq__" "Block.__eq__" (defArgs zlc) (defBody zlc) (defScope zlc) [] [] (He.ma K (He.ga K "Block") "__eq__") fd
 zkx:∃fd,FunD K "__eq__" "Program.__eq__" (defArgs ztc) (defBody ztc) (defScope ztc) [] [] (He.ma K (He.ga K "Program") "__eq__") fd
 znz:∃fd,FunD K "parts" "Program.parts" (defArgs z7b) (defBody z7b) (defScope z7b) [] [] (He5.wf K (He.ga K "Program") "property" "parts") fd
 z55:∃fd,FunD K "at" "Program.at" (defArgs zid) (defBody zid) (defScope zid) [] [] (He.ma K (He.ga K "Program") "at") fd
 z35:∃fd,FunD K "_law_parts" "_law_parts" (defArgs zre) (defBody zre) (defScope zre) [] [] (He.ga K "_law_parts") fd
 z25:∃fd,FunD K "_law_right" "_law_right" (defArgs zgd) (defBody zgd) (defScope zgd) [] [] (He.ga K "_law_right") fd
 zus:∃fd,FunD K "__setitem__" "Block.__setitem__" (defArgs z4) (defBody z4) (defScope z4) [] [] (He.ma K (He.ga K "Block") "__setitem__") fd
 zvs:∃fd,FunD K "__irshift__" "Block.__irshift__" (defArgs zu) (defBody zu) (defScope zu) [] [] (He.ma K (He.ga K "Block") "__irshift__") fd
 znx:∃fd,FunD K "__iadd__" "Block.__iadd__" (defArgs zvb) (defBody zvb) (defScope zvb) [] [] (He.ma K (He.ga K "Block") "__iadd__") fd
 zlx:∃fd,FunD K "__radd__" "Block.__radd__" (defArgs zub) (defBody zub) (defScope zub) [] [] (He.ma K (He.ga K "Block") "__radd__") fd
 ziu:∃fd,FunD K "__radd__" "Program.__radd__" (defArgs zcb) (defBody zcb) (defScope zcb) [] [] (He.ma K (He.ga K "Program") "__radd__") fd
 d_law:∃fd,FunD K "law" "law" (defArgs st_law) (defBody st_law) (defScope st_law) [] [] (He.ga K "law") fd
 zir:∃fd,FunD K "__init__" "BadAmount.__init__" (defArgs zmc) (defBody zmc) (defScope zmc) [] [] (He.ma K (He.ga K "BadAmount") "__init__") fd
 zou:∃fd,FunD K "__init__" "BadEach.__init__" (defArgs z7c) (defBody z7c) (defScope z7c) [] [] (He.ma K (He.ga K "BadEach") "__init__") fd
 znu:∃fd,FunD K "__init__" "BadLine.__init__" (defArgs z6c) (defBody z6c) (defScope z6c) [] [] (He.ma K (He.ga K "BadLine") "__init__") fd
 zmu:∃fd,FunD K "__init__" "BadName.__init__" (defArgs z5c) (defBody z5c) (defScope z5c) [] [] (He.ma K (He.ga K "BadName") "__init__") fd
 z1v:∃fd,FunD K "__init__" "BadTag.__init__" (defArgs zmd) (defBody zmd) (defScope zmd) [] [] (He.ma K (He.ga K "BadTag") "__init__") fd
 zzv:∃fd,FunD K "__init__" "NoLine.__init__" (defArgs zkd) (defBody zkd) (defScope zkd) [] [] (He.ma K (He.ga K "NoLine") "__init__") fd
 zyv:∃fd,FunD K "__init__" "NoPart.__init__" (defArgs zjd) (defBody zjd) (defScope zjd) [] [] (He.ma K (He.ga K "NoPart") "__init__") fd
 zhu:∃fd,FunD K "__init__" "Shallow.__init__" (defArgs z4c) (defBody z4c) (defScope z4c) [] [] (He.ma K (He.ga K "Shallow") "__init__") fd
 zgu:∃fd,FunD K "__init__" "TooMany.__init__" (defArgs z3c) (defBody z3c) (defScope z3c) [] [] (He.ma K (He.ga K "TooMany") "__init__") fd
 zix:∃fd,FunD K "__init__" "Twice.__init__" (defArgs zvd) (defBody zvd) (defScope zvd) [] [] (He.ma K (He.ga K "Twice") "__init__") fd
theorem zsy {K:Fg} {C m:Str} (h:fOwn C m K=true):Meth K (He.ga K C) m (He.ma K (He.ga K C) m):=⟨(z8d h).1,(z8d h).2.1,(z8d h).2.2.2⟩
section
variable {P:Program} {w:World} {K:Fg} {mg:Str→Option Value} {base:Heap}
theorem z3o:FnScope ["self", "value"] ["self", "value"] (defScope zmc):=⟨rfl,rfl,rfl,by decide +kernel,rfl,by decide +kernel,by decide +kernel⟩
theorem zhf (T:Tx K mg):∃fd,FnG P w K mg base 1 (He.ma K (He.ga K "BadAmount") "__init__") fd ["self", "value"] (spErr K "BadAmount" "value" 15)∧ywd K fd ["self", "value"] []:=by
 obtain⟨fd,Fn⟩:=T.zir
 exact⟨fd,zhj (k:=0) Fn z3o (fun cdv A outer s H E hr=>⟨_,pss_cons (ps_expr (pe_veinit (by rfl) T.zkg T.ve (pa_cons (pv 0) (pa_cons (pe_joined (PJ.cons pe_str (PJ.cons (zhm hr.gd hr.units (pv 1)) PJ.nil))) pa_nil)))) (pss_one (ps_ost (pv 0) (pv 1))),
  fun a v p Q ha hd ok want=>⟨.ref a,rfl,_,rfl,by decide +kernel,v,rfl,p,hd,zdh ok,_,rfl,znr ok (by decide +kernel),a,_,[_],rfl,(by show 1≤1000;decide),T.zuh.ox,ha,v,rfl,.ref a,rfl,a,_,rfl,T.zuh.ox,T.zuh.noF,.inl ⟨ha,want⟩⟩⟩),
  Fn.bindsN fun _ _ _ _ _ _ us hl=>match us,hl with |[_,_],_=>rfl⟩
theorem z6r:FnScope ["self", "name"] ["self", "name"] (defScope z7c):=⟨rfl,rfl,rfl,by decide +kernel,rfl,by decide +kernel,by decide +kernel⟩
theorem zp1 (T:Tx K mg):∃fd,FnG P w K mg base 1 (He.ma K (He.ga K "BadEach") "__init__") fd ["self", "name"] (spErr K "BadEach" "name" 31)∧ywd K fd ["self", "name"] []:=by
 obtain⟨fd,Fn⟩:=T.zou
 exact⟨fd,zhj (k:=0) Fn z6r (fun cdv A outer s H E hr=>⟨_,pss_cons (ps_expr (pe_veinit (by rfl) T.zkg T.ve (pa_cons (pv 0) (pa_cons (pe_joined (PJ.cons pe_str (PJ.cons (zhm hr.gd hr.units (pv 1)) PJ.nil))) pa_nil)))) (pss_one (ps_ost (pv 0) (pv 1))),
  fun a v p Q ha hd ok want=>⟨.ref a,rfl,_,rfl,by decide +kernel,v,rfl,p,hd,zdh ok,_,rfl,znr ok (by decide +kernel),a,_,[_],rfl,(by show 1≤1000;decide),T.zau.ox,ha,v,rfl,.ref a,rfl,a,_,rfl,T.zau.ox,T.zau.noF,.inl ⟨ha,want⟩⟩⟩),
  Fn.bindsN fun _ _ _ _ _ _ us hl=>match us,hl with |[_,_],_=>rfl⟩
theorem z5r:FnScope ["self", "value"] ["self", "value"] (defScope z6c):=⟨rfl,rfl,rfl,by decide +kernel,rfl,by decide +kernel,by decide +kernel⟩
theorem z9d (T:Tx K mg):∃fd,FnG P w K mg base 1 (He.ma K (He.ga K "BadLine") "__init__") fd ["self", "value"] (spErr K "BadLine" "value" 41)∧ywd K fd ["self", "value"] []:=by
 obtain⟨fd,Fn⟩:=T.znu
 exact⟨fd,zhj (k:=0) Fn z5r (fun cdv A outer s H E hr=>⟨_,pss_cons (ps_expr (pe_veinit (by rfl) T.zkg T.ve (pa_cons (pv 0) (pa_cons (pe_joined (PJ.cons pe_str (PJ.cons (zhm hr.gd hr.units (pv 1)) PJ.nil))) pa_nil)))) (pss_one (ps_ost (pv 0) (pv 1))),
  fun a v p Q ha hd ok want=>⟨.ref a,rfl,_,rfl,by decide +kernel,v,rfl,p,hd,zdh ok,_,rfl,znr ok (by decide +kernel),a,_,[_],rfl,(by show 1≤1000;decide),T.zgh.ox,ha,v,rfl,.ref a,rfl,a,_,rfl,T.zgh.ox,T.zgh.noF,.inl ⟨ha,want⟩⟩⟩),
  Fn.bindsN fun _ _ _ _ _ _ us hl=>match us,hl with |[_,_],_=>rfl⟩
theorem z4r:FnScope ["self", "value"] ["self", "value"] (defScope z5c):=⟨rfl,rfl,rfl,by decide +kernel,rfl,by decide +kernel,by decide +kernel⟩
theorem z5q (T:Tx K mg):∃fd,FnG P w K mg base 1 (He.ma K (He.ga K "BadName") "__init__") fd ["self", "value"] (spErr K "BadName" "value" 12)∧ywd K fd ["self", "value"] []:=by
 obtain⟨fd,Fn⟩:=T.zmu
 exact⟨fd,zhj (k:=0) Fn z4r (fun cdv A outer s H E hr=>⟨_,pss_cons (ps_expr (pe_veinit (by rfl) T.zkg T.ve (pa_cons (pv 0) (pa_cons (pe_joined (PJ.cons pe_str (PJ.cons (zhm hr.gd hr.units (pv 1)) PJ.nil))) pa_nil)))) (pss_one (ps_ost (pv 0) (pv 1))),
  fun a v p Q ha hd ok want=>⟨.ref a,rfl,_,rfl,by decide +kernel,v,rfl,p,hd,zdh ok,_,rfl,znr ok (by decide +kernel),a,_,[_],rfl,(by show 1≤1000;decide),T.zpp.ox,ha,v,rfl,.ref a,rfl,a,_,rfl,T.zpp.ox,T.zpp.noF,.inl ⟨ha,want⟩⟩⟩),
  Fn.bindsN fun _ _ _ _ _ _ us hl=>match us,hl with |[_,_],_=>rfl⟩
theorem zjt:FnScope ["self", "value"] ["self", "value"] (defScope zmd):=⟨rfl,rfl,rfl,by decide +kernel,rfl,by decide +kernel,by decide +kernel⟩
theorem zs5 (T:Tx K mg):∃fd,FnG P w K mg base 1 (He.ma K (He.ga K "BadTag") "__init__") fd ["self", "value"] (spErr K "BadTag" "value" 11)∧ywd K fd ["self", "value"] []:=by
 obtain⟨fd,Fn⟩:=T.z1v
 exact⟨fd,zhj (k:=0) Fn zjt (fun cdv A outer s H E hr=>⟨_,pss_cons (ps_expr (pe_veinit (by rfl) T.zkg T.ve (pa_cons (pv 0) (pa_cons (pe_joined (PJ.cons pe_str (PJ.cons (zhm hr.gd hr.units (pv 1)) PJ.nil))) pa_nil)))) (pss_one (ps_ost (pv 0) (pv 1))),
  fun a v p Q ha hd ok want=>⟨.ref a,rfl,_,rfl,by decide +kernel,v,rfl,p,hd,zdh ok,_,rfl,znr ok (by decide +kernel),a,_,[_],rfl,(by show 1≤1000;decide),T.z0x.ox,ha,v,rfl,.ref a,rfl,a,_,rfl,T.z0x.ox,T.z0x.noF,.inl ⟨ha,want⟩⟩⟩),
  Fn.bindsN fun _ _ _ _ _ _ us hl=>match us,hl with |[_,_],_=>rfl⟩
theorem zht:FnScope ["self", "value"] ["self", "value"] (defScope zkd):=⟨rfl,rfl,rfl,by decide +kernel,rfl,by decide +kernel,by decide +kernel⟩
theorem z7t (T:Tx K mg):∃fd,FnG P w K mg base 1 (He.ma K (He.ga K "NoLine") "__init__") fd ["self", "value"] (spErr K "NoLine" "value" 25)∧ywd K fd ["self", "value"] []:=by
 obtain⟨fd,Fn⟩:=T.zzv
 exact⟨fd,zhj (k:=0) Fn zht (fun cdv A outer s H E hr=>⟨_,pss_cons (ps_expr (zwbb zgl (by rfl) T.zpu T.zvr (pa_cons (pv 0) (pa_cons (pe_joined (PJ.cons pe_str (PJ.cons (zhm hr.gd hr.units (pv 1)) PJ.nil))) pa_nil)))) (pss_one (znbb zgl (pv 0) (pv 1))),
  fun a v p Q ha hd ok want=>⟨.ref a,rfl,_,rfl,by decide +kernel,v,rfl,p,hd,zdh ok,_,rfl,znr ok (by decide +kernel),a,_,[_],rfl,(by show 1≤1000;decide),T.z9t.ox,ha,v,rfl,.ref a,rfl,a,_,rfl,T.z9t.ox,T.z9t.noF,⟨ha,want⟩⟩⟩),
  Fn.bindsN fun _ _ _ _ _ _ us hl=>match us,hl with |[_,_],_=>rfl⟩
theorem zgt:FnScope ["self", "value"] ["self", "value"] (defScope zjd):=⟨rfl,rfl,rfl,by decide +kernel,rfl,by decide +kernel,by decide +kernel⟩
theorem zr5 (T:Tx K mg):∃fd,FnG P w K mg base 1 (He.ma K (He.ga K "NoPart") "__init__") fd ["self", "value"] (spErr K "NoPart" "value" 25)∧ywd K fd ["self", "value"] []:=by
 obtain⟨fd,Fn⟩:=T.zyv
 exact⟨fd,zhj (k:=0) Fn zgt (fun cdv A outer s H E hr=>⟨_,pss_cons (ps_expr (zwbb zgl (by rfl) T.zpu T.zvr (pa_cons (pv 0) (pa_cons (pe_joined (PJ.cons pe_str (PJ.cons (zhm hr.gd hr.units (pv 1)) PJ.nil))) pa_nil)))) (pss_one (znbb zgl (pv 0) (pv 1))),
  fun a v p Q ha hd ok want=>⟨.ref a,rfl,_,rfl,by decide +kernel,v,rfl,p,hd,zdh ok,_,rfl,znr ok (by decide +kernel),a,_,[_],rfl,(by show 1≤1000;decide),T.zzx.ox,ha,v,rfl,.ref a,rfl,a,_,rfl,T.zzx.ox,T.zzx.noF,⟨ha,want⟩⟩⟩),
  Fn.bindsN fun _ _ _ _ _ _ us hl=>match us,hl with |[_,_],_=>rfl⟩
theorem z2r:FnScope ["self", "line"] ["self", "line"] (defScope z4c):=⟨rfl,rfl,rfl,by decide +kernel,rfl,by decide +kernel,by decide +kernel⟩
theorem zo1 (T:Tx K mg):∃fd,FnG P w K mg base 1 (He.ma K (He.ga K "Shallow") "__init__") fd ["self", "line"] (spErr K "Shallow" "line" 32)∧ywd K fd ["self", "line"] []:=by
 obtain⟨fd,Fn⟩:=T.zhu
 exact⟨fd,zhj (k:=0) Fn z2r (fun cdv A outer s H E hr=>⟨_,pss_cons (ps_expr (pe_veinit (by rfl) T.zkg T.ve (pa_cons (pv 0) (pa_cons (pe_joined (PJ.cons pe_str (PJ.cons (zhm hr.gd hr.units (pv 1)) PJ.nil))) pa_nil)))) (pss_one (ps_ost (pv 0) (pv 1))),
  fun a v p Q ha hd ok want=>⟨.ref a,rfl,_,rfl,by decide +kernel,v,rfl,p,hd,zdh ok,_,rfl,znr ok (by decide +kernel),a,_,[_],rfl,(by show 1≤1000;decide),T.z8t.ox,ha,v,rfl,.ref a,rfl,a,_,rfl,T.z8t.ox,T.z8t.noF,.inl ⟨ha,want⟩⟩⟩),
  Fn.bindsN fun _ _ _ _ _ _ us hl=>match us,hl with |[_,_],_=>rfl⟩
theorem z1r:FnScope ["self", "limit"] ["self", "limit"] (defScope z3c):=⟨rfl,rfl,rfl,by decide +kernel,rfl,by decide +kernel,by decide +kernel⟩
theorem z4q (T:Tx K mg):∃fd,FnG P w K mg base 1 (He.ma K (He.ga K "TooMany") "__init__") fd ["self", "limit"] (spErr K "TooMany" "limit" 19)∧ywd K fd ["self", "limit"] []:=by
 obtain⟨fd,Fn⟩:=T.zgu
 exact⟨fd,zhj (k:=0) Fn z1r (fun cdv A outer s H E hr=>⟨_,pss_cons (ps_expr (zwbb ze3 (by rfl) T.zzz T.zox (pa_cons (pv 0) (pa_cons (pe_joined (PJ.cons pe_str (PJ.cons (zhm hr.gd hr.units (pv 1)) PJ.nil))) pa_nil)))) (pss_one (znbb ze3 (pv 0) (pv 1))),
  fun a v p Q ha hd ok want=>⟨.ref a,rfl,_,rfl,by decide +kernel,v,rfl,p,hd,zdh ok,_,rfl,znr ok (by decide +kernel),a,_,[_],rfl,(by show 1≤1000;decide),T.zop.ox,ha,v,rfl,.ref a,rfl,a,_,rfl,T.zop.ox,T.zop.noF,⟨ha,want⟩⟩⟩),
  Fn.bindsN fun _ _ _ _ _ _ us hl=>match us,hl with |[_,_],_=>rfl⟩
theorem zzu:FnScope ["self", "name"] ["self", "name"] (defScope zvd):=⟨rfl,rfl,rfl,by decide +kernel,rfl,by decide +kernel,by decide +kernel⟩
theorem zj9 (T:Tx K mg):∃fd,FnG P w K mg base 1 (He.ma K (He.ga K "Twice") "__init__") fd ["self", "name"] (spErr K "Twice" "name" 26)∧ywd K fd ["self", "name"] []:=by
 obtain⟨fd,Fn⟩:=T.zix
 exact⟨fd,zhj (k:=0) Fn zzu (fun cdv A outer s H E hr=>⟨_,pss_cons (ps_expr (pe_veinit (by rfl) T.zkg T.ve (pa_cons (pv 0) (pa_cons (pe_joined (PJ.cons pe_str (PJ.cons (zhm hr.gd hr.units (pv 1)) PJ.nil))) pa_nil)))) (pss_one (ps_ost (pv 0) (pv 1))),
  fun a v p Q ha hd ok want=>⟨.ref a,rfl,_,rfl,by decide +kernel,v,rfl,p,hd,zdh ok,_,rfl,znr ok (by decide +kernel),a,_,[_],rfl,(by show 1≤1000;decide),T.zf3.ox,ha,v,rfl,.ref a,rfl,a,_,rfl,T.zf3.ox,T.zf3.noF,.inl ⟨ha,want⟩⟩⟩),
  Fn.bindsN fun _ _ _ _ _ _ us hl=>match us,hl with |[_,_],_=>rfl⟩
abbrev zul:List Str:=["self"]
theorem z1w:FnScope zul ["self"] (defScope zcc):=⟨rfl,rfl,rfl,by decide +kernel,rfl,by decide +kernel,by decide +kernel⟩
def zln:DS:=
    (sRet (eLen [] (aCons (eFld ["Block"] "rows" (eVar 0)) aNil)))
def z9p:DF:=runF 1 zln
def zn:DF:=lenF 1 z9p
theorem zax (T:Tx K mg):∃fd,FunD K "__len__" "Block.__len__" (defArgs zcc) (defBody zcc) (defScope zcc) [] [] (He.ma K (He.ga K "Block") "__len__") fd∧FnG P w K mg base 2 (He.ma K (He.ga K "Block") "__len__") fd ["self"] (spD K 1 z9p):=by
 obtain⟨fd,Fn⟩:=T.zsz
 exact⟨fd,Fn,fn_D (N:=zul) (ps:=["self"]) (k:=1) (g:=zln) Fn z1w (fun cdv A outer s H E hr=>by
  have tk:yk (cxOf (L2N.CX P w) P w K mg base zul "Block.__len__" (defScope zcc) (He.ma K (He.ga K "Block") "__len__") cdv A outer s H E) (fun c d _ H=>E c d H):=yi rfl rfl rfl rfl
  exact (zj (zq (zag (k:=0) (t:=[]) tk (fun _ z=>nomatch z) (rmo hr) (by rfl) T.b_len (zb (zbd (Cs:=["Block"]) T.z4g (ze (pv 0))) zg)))))⟩
theorem zhx (T:Tx K mg):FnD P w K mg base 2 (He.ma K (He.ga K "Block") "__len__") zn:=by
 obtain⟨fd,Fn,Fg⟩:=zax (P:=P) (w:=w) (base:=base) T
 exact z7 Fg (Fn.bindsN fun _ _ _ _ _ _ us hl=>match us,hl with |[_],_=>rfl)
theorem zlf (T:Tx K mg) {k:Nat} (hk:2≤k):∀q∈([("Block",zn)]:Tbl),OwnM P w K mg base k "__len__" q.1 q.2:=
 (zcd ⟨_,(z8d T.zbi).1,(z8d T.zbi).2.1,(z8d T.zbi).2.2.1,(z8d T.zbi).2.2.2,(zhx T).mono (yy (by decide) hk)⟩ zrh)
abbrev z3h:List Str:=["_law_script", "_law_cells", "_law_small", "_law_cell"]
theorem zkf:FnScope z3h ["_law_script"] (defScope zhc):=⟨rfl,rfl,rfl,by decide +kernel,rfl,by decide +kernel,by decide +kernel⟩
def zxl:DE:=(eB intD (aCons (eVar 3) aNil))
def zui:DT:=(bT (eOp ltD (eB absD (aCons (eVar 3) aNil)) (eOp powD (eC (.int 10)) (eC (.int 18)))))
def zwi:DE:=(eOp addD (eOp modD (eB intD (aCons (eVar 3) aNil)) (eC (.int 2147483629))) (eC (.int 1)))
def zti:DT:=(bT (eOp geD (eB absD (aCons (eVar 3) aNil)) (eOp powD (eC (.int 10)) (eC (.int 18)))))
def zvi:DE:=(eB absD (aCons (eVar 3) aNil))
def zpm:DS:=
    (sSeq (sAsg (eLc (iSeq (eSl (eVar 0) (oNone) (oSome (eC (.int 63))))) (gNm 3) bYes zxl [3]) (gNm 1))
    (sSeq (sAsg (eLcH (iSeq (eVar 1)) (gNm 3) zui zwi [3]) (gNm 2))
    (sRet (eLstH (aCons (eLcH (iSeq (eVar 1)) (gNm 3) zti zvi [3]) (aCons (eVar 2) (aCons (eC (.int 0)) (aCons (eOp addD (eC (.int 5)) (eLen [("Block",zn)] (aCons (eVar 1) aNil))) aNil))))))))
def z3p:DF:=runF 4 zpm
def zvj:DF:=lenF 1 z3p
theorem z12 (T:Tx K mg):∃fd,FunD K "_law_start" "_law_start" (defArgs zhc) (defBody zhc) (defScope zhc) [] [] (He.ga K "_law_start") fd∧FnG P w K mg base 4 (He.ga K "_law_start") fd ["_law_script"] (spD K 1 z3p):=by
 obtain⟨fd,Fn⟩:=T.z15
 exact⟨fd,Fn,fn_D (N:=z3h) (ps:=["_law_script"]) (k:=3) (g:=zpm) Fn zkf (fun cdv A outer s H E hr=>by
  have tk:yk (cxOf (L2N.CX P w) P w K mg base z3h "_law_start" (defScope zhc) (He.ga K "_law_start") cdv A outer s H E) (fun c d _ H=>E c d H):=yi rfl rfl rfl rfl
  exact (zi (zbu (i:=1) (own:=[("_law_cell",3)]) rfl zkf.nd rfl rfl (sw_true rfl rfl rfl (by decide +kernel)) (z6f (de_sl (ze (pv 0)) (zp7) (zo7 (zo)))) (blkOk_by (N:=z3h) (sc:=defScope zhc) (own:=[("_law_cell",3)]) (by decide +kernel)) (fun _ _ _ _ _=>(dgn 3 zkf.nd)) (fun _ _ _ _ _=>zei) (fun _ _ _ _ _=>(zee z4i (by rfl) T.b_int (by decide +kernel) (zb (ze (pv 3)) zg))) (by decide))
  (zi (zu5 (i:=2) (own:=[("_law_cell",3)]) rfl zkf.nd rfl rfl (sw_true rfl rfl rfl (by decide +kernel)) (z6f (ze (pv 1))) (blkOk_by (N:=z3h) (sc:=defScope zhc) (own:=[("_law_cell",3)]) (by decide +kernel)) (fun _ _ _ _ _=>(dgn 3 zkf.nd)) (fun _ _ _ _ _=>zrp (zfb z3u (zjj z3v (by rfl) T.b_abs (by decide +kernel) (zb (ze (pv 3)) zg)) (de_op zs8 (zo) (zo)) (nomark _) bl_lt)) (fun _ _ _ _ _=>(de_op z0 (de_op ztq (zee z4i (by rfl) T.b_int (by decide +kernel) (zb (ze (pv 3)) zg)) (zo)) (zo))) (by decide))
  (zj (zq (zk3 (zb (z8lb (own:=[("_law_cell",3)]) rfl zkf.nd (z6f (ze (pv 1))) (blkOk_by (N:=z3h) (sc:=defScope zhc) (own:=[("_law_cell",3)]) (by decide +kernel)) (fun _ _ _ _ _=>(dgn 3 zkf.nd)) (fun _ _ _ _ _=>zrp (zfb z2bb (zjj z3v (by rfl) T.b_abs (by decide +kernel) (zb (ze (pv 3)) zg)) (de_op zs8 (zo) (zo)) (nomark _) bl_ge)) (fun _ _ _ _ _=>(zjj z3v (by rfl) T.b_abs (by decide +kernel) (zb (ze (pv 3)) zg))) (by decide)) (zb (ze (pv 2)) (zb (zo) (zb (de_op z0 (zo) (zag (k:=2) (t:=[("Block",zn)]) tk (zlf T (by decide)) (rmo hr) (by rfl) T.b_len (zb (ze (pv 1)) zg))) zg))))))))))⟩
theorem z92 (T:Tx K mg):FnD P w K mg base 4 (He.ga K "_law_start") zvj:=by
 obtain⟨fd,Fn,Fg⟩:=z12 (P:=P) (w:=w) (base:=base) T
 exact z7 Fg (Fn.bindsN fun _ _ _ _ _ _ us hl=>match us,hl with |[_],_=>rfl)
abbrev z5s:List Str:=["thing"]
theorem ze4:FnScope z5s ["thing"] (defScope z2d):=⟨rfl,rfl,rfl,by decide +kernel,rfl,by decide +kernel,by decide +kernel⟩
def z5n:DS:=
    (sRet ((eAnd (eIsi (isfT zwn) (eVar 0)) (eNot (eIsi (isfT zkk) (eVar 0))))))
def z2s:DF:=runF 1 z5n
def zmo:DF:=lenF 1 z2s
theorem zf5 (T:Tx K mg):∃fd,FunD K "is_number" "is_number" (defArgs z2d) (defBody z2d) (defScope z2d) [] [] (He.ga K "is_number") fd∧FnG P w K mg base 1 (He.ga K "is_number") fd ["thing"] (spD K 1 z2s):=by
 obtain⟨fd,Fn⟩:=T.zy7
 exact⟨fd,Fn,fn_D (N:=z5s) (ps:=["thing"]) (k:=0) (g:=z5n) Fn ze4 (fun cdv A outer s H E hr=>by
  have tk:yk (cxOf (L2N.CX P w) P w K mg base z5s "is_number" (defScope z2d) (He.ga K "is_number") cdv A outer s H E) (fun c d _ H=>E c d H):=yi rfl rfl rfl rfl
  exact (zj (zq ((zlz (zek (by rfl) T.zlb (ze (pv 0)) (pe_bltn (v:=.ty "int") (by rfl) T.b_int (by decide +kernel) rfl) (.ty "int") T.zwn) (zs1 (z6lb (zek (by rfl) T.zlb (ze (pv 0)) (pe_bltn (v:=.ty "bool") (by rfl) T.zghb (by decide +kernel) rfl) (.ty "bool") T.zkk))))))))⟩
theorem zo5 (T:Tx K mg):FnD P w K mg base 1 (He.ga K "is_number") zmo:=by
 obtain⟨fd,Fn,Fg⟩:=zf5 (P:=P) (w:=w) (base:=base) T
 exact z7 Fg (Fn.bindsN fun _ _ _ _ _ _ us hl=>match us,hl with |[_],_=>rfl)
abbrev z4v:List Str:=["thing", "many"]
theorem zl6:FnScope z4v ["thing", "many"] (defScope zje):=⟨rfl,rfl,rfl,by decide +kernel,rfl,by decide +kernel,by decide +kernel⟩
def z5l:DS:=
    (sRet ((eAnd (eFn zmo (aCons (eVar 0) aNil)) (zqp leD ltD (eC (.int 0)) (eVar 0) (eVar 1)))))
def z6q:DF:=runF 2 z5l
def zaj:DF:=lenF 2 z6q
theorem ze7 (T:Tx K mg):∃fd,FunD K "is_index" "is_index" (defArgs zje) (defBody zje) (defScope zje) [] [] (He.ga K "is_index") fd∧FnG P w K mg base 2 (He.ga K "is_index") fd ["thing", "many"] (spD K 2 z6q):=by
 obtain⟨fd,Fn⟩:=T.znab
 exact⟨fd,Fn,fn_D (N:=z4v) (ps:=["thing", "many"]) (k:=1) (g:=z5l) Fn zl6 (fun cdv A outer s H E hr=>by
  have tk:yk (cxOf (L2N.CX P w) P w K mg base z4v "is_index" (defScope zje) (He.ga K "is_index") cdv A outer s H E) (fun c d _ H=>E c d H):=yi rfl rfl rfl rfl
  exact (zj (zq ((zlz (de_fn tk (zo5 T) (rmo hr) (by rfl) T.za7 T.z36 (zb (ze (pv 0)) zg)) (zs1 (zl3 z8o z3u bl_le (zo) (ze (pv 0)) (ze (pv 1)))))))))⟩
theorem zls (T:Tx K mg):FnD P w K mg base 2 (He.ga K "is_index") zaj:=by
 obtain⟨fd,Fn,Fg⟩:=ze7 (P:=P) (w:=w) (base:=base) T
 exact z7 Fg (Fn.bindsN fun _ _ _ _ _ _ us hl=>match us,hl with |[_,_],_=>rfl)
abbrev z0h:List Str:=["self", "at"]
theorem z8q:FnScope z0h ["self", "at"] (defScope z6):=⟨rfl,rfl,rfl,by decide +kernel,rfl,by decide +kernel,by decide +kernel⟩
def zpj:DS:=
    (sSeq (sIf (bNot (bT (eFn zaj (aCons (eVar 1) (aCons (eLen [] (aCons (eFld ["Block"] "rows" (eVar 0)) aNil)) aNil))))) (zvf "NoLine" "value" 25 (eVar 1)) sNext)
    (sRet (eIx [] (eFld ["Block"] "rows" (eVar 0)) (eVar 1))))
def znl:DF:=runF 2 zpj
def zf:DF:=lenF 2 znl
theorem zcr (T:Tx K mg):∃fd,FunD K "__getitem__" "Block.__getitem__" (defArgs z6) (defBody z6) (defScope z6) [] [] (He.ma K (He.ga K "Block") "__getitem__") fd∧FnG P w K mg base 3 (He.ma K (He.ga K "Block") "__getitem__") fd ["self", "at"] (spD K 2 znl):=by
 obtain⟨fd,Fn⟩:=T.zws
 exact⟨fd,Fn,fn_D (N:=z0h) (ps:=["self", "at"]) (k:=2) (g:=zpj) Fn z8q (fun cdv A outer s H E hr=>by
  have tk:yk (cxOf (L2N.CX P w) P w K mg base z0h "Block.__getitem__" (defScope z6) (He.ma K (He.ga K "Block") "__getitem__") cdv A outer s H E) (fun c d _ H=>E c d H):=yi rfl rfl rfl rfl
  exact (zi (ds_if (zif (zsd (de_fn tk (zls T) (rmo hr) (by rfl) T.zgv T.zav (zb (ze (pv 1)) (zb (zag (k:=0) (t:=[]) tk (fun _ z=>nomatch z) (rmo hr) (by rfl) T.b_len (zb (zbd (Cs:=["Block"]) T.z4g (ze (pv 0))) zg)) zg))))) (zj (zsp zgl rfl tk T.z9t (z7t T).choose_spec.1 (z7t T).choose_spec.2 (rmo hr) (by rfl) T.z98 (ze (pv 1)))) z0b)
  (zj (zq (de_ix (k:=0) (t:=[]) tk (fun _ z=>nomatch z) (rmo hr) (zbd (Cs:=["Block"]) T.z4g (ze (pv 0))) (ze (pv 1)) (fun _ _=>rfl) (fun _ _=>by with_unfolding_all rfl))))))⟩
theorem zfr (T:Tx K mg):FnD P w K mg base 3 (He.ma K (He.ga K "Block") "__getitem__") zf:=by
 obtain⟨fd,Fn,Fg⟩:=zcr (P:=P) (w:=w) (base:=base) T
 exact z7 Fg (Fn.bindsN fun _ _ _ _ _ _ us hl=>match us,hl with |[_,_],_=>rfl)
theorem zp (T:Tx K mg) {k:Nat} (hk:3≤k):∀q∈([("Block",zf)]:Tbl),OwnM P w K mg base k "__getitem__" q.1 q.2:=
 (zcd ⟨_,(z8d T.znf).1,(z8d T.znf).2.1,(z8d T.znf).2.2.1,(z8d T.znf).2.2.2,(zfr T).mono (yy (by decide) hk)⟩ zrh)
abbrev z9s:List Str:=["_law_state", "_law_many", "_law_great", "_law_small", "_law_taken", "_law_own", "_law_mixed"]
theorem znj:FnScope z9s ["_law_state", "_law_many"] (defScope z6d):=⟨rfl,rfl,rfl,by decide +kernel,rfl,by decide +kernel,by decide +kernel⟩
def zxg:DS:=
    (sSeq (sPar 2 3 (aCons (eIxH [("Block",zf)] (eVar 0) (eC (.int 0))) (aCons (eIxH [("Block",zf)] (eVar 0) (eC (.int 1))) aNil)))
    (sSeq (zc1 (eVar 0) (eC (.int 2)) (eC (.int 1)))
    (sSeq (sIf ((bAnd (bT (eVar 2)) (bT (eOp eqD (eIx [("Block",zf)] (eVar 2) (eC (.int 0))) (eC (.int 0)))))) (sDrop (zt5 (eVar 2) (aCons (eC (.int 0)) aNil))) sNext)
    (sSeq (sIf (bT (eVar 2)) (sSeq (sAsg (eOp modD (eB intD (aCons (eIx [("Block",zf)] (eVar 2) (eC (.int 0))) aNil)) (eVar 1)) (gNm 4))
    (sSeq (sSetL (eOp fdivD (eIx [("Block",zf)] (eVar 2) (eC (.int 0))) (eVar 1)) (eVar 2) (eC (.int 0)))
    (sRet (eVar 4)))) sNext)
    (sSeq (sAsg (eIf (bT (eVar 3)) (eIx [("Block",zf)] (eVar 3) (eOp modD (eB intD (aCons (eIxH [("Block",zf)] (eVar 0) (eC (.int 2))) aNil)) (eLen [("Block",zn)] (aCons (eVar 3) aNil)))) (eC (.int 5))) (gNm 5))
    (sSeq (sSetL (eOp modD (eB intD (aCons (eOp addD (eOp addD (eOp addD (eOp mulD (eIxH [("Block",zf)] (eVar 0) (eC (.int 3))) (eC (.int 48271))) (eOp mulD (eVar 5) (eC (.int 40692)))) (eOp mulD (eIxH [("Block",zf)] (eVar 0) (eC (.int 2))) (eC (.int 69621)))) (eC (.int 17))) aNil)) (eC (.int 2305843009213693951))) (eVar 0) (eC (.int 3)))
    (sSeq (sAsg (eOp modD (eB intD (aCons (eOp addD (eOp mulD (eIxH [("Block",zf)] (eVar 0) (eC (.int 3))) (eIxH [("Block",zf)] (eVar 0) (eC (.int 3)))) (eOp mulD (eC (.int 1000003)) (eIxH [("Block",zf)] (eVar 0) (eC (.int 2))))) aNil)) (eC (.int 2305843009213693921))) (gNm 6))
    (sRet (eOp modD (eB intD (aCons (eOp fdivD (eVar 6) (eC (.int 4096))) aNil)) (eVar 1))))))))))
def z8z:DF:=runF 7 zxg
def z3b:DF:=lenF 2 z8z
theorem zk5 (T:Tx K mg):∃fd,FunD K "_law_draw" "_law_draw" (defArgs z6d) (defBody z6d) (defScope z6d) [] [] (He.ga K "_law_draw") fd∧FnG P w K mg base 5 (He.ga K "_law_draw") fd ["_law_state", "_law_many"] (spD K 2 z8z):=by
 obtain⟨fd,Fn⟩:=T.z47
 exact⟨fd,Fn,fn_D (N:=z9s) (ps:=["_law_state", "_law_many"]) (k:=4) (g:=zxg) Fn znj (fun cdv A outer s H E hr=>by
  have tk:yk (cxOf (L2N.CX P w) P w K mg base z9s "_law_draw" (defScope z6d) (He.ga K "_law_draw") cdv A outer s H E) (fun c d _ H=>E c d H):=yi rfl rfl rfl rfl
  exact (zi (zedb (i:=2) (j:=3) rfl znj.nd rfl rfl (by decide) rfl rfl (zb (zfu (k:=3) (t:=[("Block",zf)]) tk (zp T (by decide)) (rmo hr) (ze (pv 0)) (zo) (fun _ _=>rfl) (fun _ _=>by with_unfolding_all rfl)) (zb (zfu (k:=3) (t:=[("Block",zf)]) tk (zp T (by decide)) (rmo hr) (ze (pv 0)) (zo) (fun _ _=>rfl) (fun _ _=>by with_unfolding_all rfl)) zg)) (by rfl))
  (zi (zufb (ze (pv 0)) (zo) (zo))
  (zi (ds_if (PW.pt (zcdb (zsd (ze (pv 2))) (zl7 (zfb (zvc hr.units) (de_ix (k:=3) (t:=[("Block",zf)]) tk (zp T (by decide)) (rmo hr) (ze (pv 2)) (zo) (fun _ _=>rfl) (fun _ _=>by with_unfolding_all rfl)) (zo) (nomark _) bl_eq)))) (zj (zqv (zyfb (ze (pv 2)) (zb (zo) zg)))) z0b)
  (zi (ds_if (zsd (ze (pv 2))) (zi (zmb (de_op ztq (zee z4i (by rfl) T.b_int (by decide +kernel) (zb (de_ix (k:=3) (t:=[("Block",zf)]) tk (zp T (by decide)) (rmo hr) (ze (pv 2)) (zo) (fun _ _=>rfl) (fun _ _=>by with_unfolding_all rfl)) zg)) (ze (pv 1))) (dgn 4 znj.nd))
  (zi (zm7 (de_op zj4 (de_ix (k:=3) (t:=[("Block",zf)]) tk (zp T (by decide)) (rmo hr) (ze (pv 2)) (zo) (fun _ _=>rfl) (fun _ _=>by with_unfolding_all rfl)) (ze (pv 1))) (ze (pv 2)) (zo))
  (zj (zq (ze (pv 4)))))) z0b)
  (zi (zmb (de_if (zsd (ze (pv 3))) (de_ix (k:=3) (t:=[("Block",zf)]) tk (zp T (by decide)) (rmo hr) (ze (pv 3)) (de_op ztq (zee z4i (by rfl) T.b_int (by decide +kernel) (zb (zfu (k:=3) (t:=[("Block",zf)]) tk (zp T (by decide)) (rmo hr) (ze (pv 0)) (zo) (fun _ _=>rfl) (fun _ _=>by with_unfolding_all rfl)) zg)) (zag (k:=2) (t:=[("Block",zn)]) tk (zlf T (by decide)) (rmo hr) (by rfl) T.b_len (zb (ze (pv 3)) zg))) (fun _ _=>rfl) (fun _ _=>by with_unfolding_all rfl)) (zo)) (dgn 5 znj.nd))
  (zi (zm7 (de_op ztq (zee z4i (by rfl) T.b_int (by decide +kernel) (zb (de_op z0 (de_op z0 (de_op z0 (de_op zjk (zfu (k:=3) (t:=[("Block",zf)]) tk (zp T (by decide)) (rmo hr) (ze (pv 0)) (zo) (fun _ _=>rfl) (fun _ _=>by with_unfolding_all rfl)) (zo)) (de_op zjk (ze (pv 5)) (zo))) (de_op zjk (zfu (k:=3) (t:=[("Block",zf)]) tk (zp T (by decide)) (rmo hr) (ze (pv 0)) (zo) (fun _ _=>rfl) (fun _ _=>by with_unfolding_all rfl)) (zo))) (zo)) zg)) (zo)) (ze (pv 0)) (zo))
  (zi (zmb (de_op ztq (zee z4i (by rfl) T.b_int (by decide +kernel) (zb (de_op z0 (de_op zjk (zfu (k:=3) (t:=[("Block",zf)]) tk (zp T (by decide)) (rmo hr) (ze (pv 0)) (zo) (fun _ _=>rfl) (fun _ _=>by with_unfolding_all rfl)) (zfu (k:=3) (t:=[("Block",zf)]) tk (zp T (by decide)) (rmo hr) (ze (pv 0)) (zo) (fun _ _=>rfl) (fun _ _=>by with_unfolding_all rfl))) (de_op zjk (zo) (zfu (k:=3) (t:=[("Block",zf)]) tk (zp T (by decide)) (rmo hr) (ze (pv 0)) (zo) (fun _ _=>rfl) (fun _ _=>by with_unfolding_all rfl)))) zg)) (zo)) (dgn 6 znj.nd))
  (zj (zq (de_op ztq (zee z4i (by rfl) T.b_int (by decide +kernel) (zb (de_op zj4 (ze (pv 6)) (zo)) zg)) (ze (pv 1)))))))))))))⟩
theorem znc (T:Tx K mg):FnD P w K mg base 5 (He.ga K "_law_draw") z3b:=by
 obtain⟨fd,Fn,Fg⟩:=zk5 (P:=P) (w:=w) (base:=base) T
 exact z7 Fg (Fn.bindsN fun _ _ _ _ _ _ us hl=>match us,hl with |[_,_],_=>rfl)
abbrev zc0:List Str:=["_law_state", "_law_some"]
theorem z99:FnScope zc0 ["_law_state", "_law_some"] (defScope zcf):=⟨rfl,rfl,rfl,by decide +kernel,rfl,by decide +kernel,by decide +kernel⟩
def zss:DS:=
    (sRet (eIxH [("Block",zf)] (eVar 1) (eFn z3b (aCons (eVar 0) (aCons (eLen [("Block",zn)] (aCons (eVar 1) aNil)) aNil)))))
def z7z:DF:=runF 2 zss
def zwl:DF:=lenF 2 z7z
theorem zmab (T:Tx K mg):∃fd,FunD K "_law_of" "_law_of" (defArgs zcf) (defBody zcf) (defScope zcf) [] [] (He.ga K "_law_of") fd∧FnG P w K mg base 6 (He.ga K "_law_of") fd ["_law_state", "_law_some"] (spD K 2 z7z):=by
 obtain⟨fd,Fn⟩:=T.ztdb
 exact⟨fd,Fn,fn_D (N:=zc0) (ps:=["_law_state", "_law_some"]) (k:=5) (g:=zss) Fn z99 (fun cdv A outer s H E hr=>by
  have tk:yk (cxOf (L2N.CX P w) P w K mg base zc0 "_law_of" (defScope zcf) (He.ga K "_law_of") cdv A outer s H E) (fun c d _ H=>E c d H):=yi rfl rfl rfl rfl
  exact (zj (zq (zfu (k:=3) (t:=[("Block",zf)]) tk (zp T (by decide)) (rmo hr) (ze (pv 1)) (de_fn tk (znc T) (rmo hr) (by rfl) T.z9c T.z8c (zb (ze (pv 0)) (zb (zag (k:=2) (t:=[("Block",zn)]) tk (zlf T (by decide)) (rmo hr) (by rfl) T.b_len (zb (ze (pv 1)) zg)) zg))) (fun _ _=>rfl) (fun _ _=>by with_unfolding_all rfl)))))⟩
theorem z3q (T:Tx K mg):FnD P w K mg base 6 (He.ga K "_law_of") zwl:=by
 obtain⟨fd,Fn,Fg⟩:=zmab (P:=P) (w:=w) (base:=base) T
 exact z7 Fg (Fn.bindsN fun _ _ _ _ _ _ us hl=>match us,hl with |[_,_],_=>rfl)
abbrev zlj:List Str:=["_law_state", "_law_many", "_law_turn"]
theorem z5k:FnScope zlj ["_law_state", "_law_many"] (defScope z6b):=⟨rfl,rfl,rfl,by decide +kernel,rfl,by decide +kernel,by decide +kernel⟩
def z3g:DE:=(eIx [("Block",zf)] (eC (.str "abcdefghijklmnopqrstuvwxyz")) (eFn z3b (aCons (eVar 0) (aCons (eC (.int 26)) aNil))))
def z2j:DS:=
    (sRet (eBM "str" joinD (eC (.str "")) (aCons (eLc (zfv (aCons (eVar 1) aNil)) (gNm 2) bYes z3g [2]) aNil)))
def zvm:DF:=runF 3 z2j
def z0f:DF:=lenF 2 zvm
theorem zcz (T:Tx K mg):∃fd,FunD K "_law_letters" "_law_letters" (defArgs z6b) (defBody z6b) (defScope z6b) [] [] (He.ga K "_law_letters") fd∧FnG P w K mg base 6 (He.ga K "_law_letters") fd ["_law_state", "_law_many"] (spD K 2 zvm):=by
 obtain⟨fd,Fn⟩:=T.zz0
 exact⟨fd,Fn,fn_D (N:=zlj) (ps:=["_law_state", "_law_many"]) (k:=5) (g:=z2j) Fn z5k (fun cdv A outer s H E hr=>by
  have tk:yk (cxOf (L2N.CX P w) P w K mg base zlj "_law_letters" (defScope z6b) (He.ga K "_law_letters") cdv A outer s H E) (fun c d _ H=>E c d H):=yi rfl rfl rfl rfl
  exact (zj (zq (de_bm yx yyc yzc zmt (zl) (zb (de_lc (own:=[("_law_turn",2)]) rfl z5k.nd (zjz (by rfl) T.z87 (zb (ze (pv 1)) zg)) (blkOk_by (N:=zlj) (sc:=defScope z6b) (own:=[("_law_turn",2)]) (by decide +kernel)) (fun _ _ _ _ _=>(dgn 2 z5k.nd)) (fun _ _ _ _ _=>zei) (fun _ _ _ _ _=>(de_ix (k:=3) (t:=[("Block",zf)]) zxj (zp T (by decide)) (rmo hr) (zl) (de_fn zxj (znc T) (rmo hr) (by rfl) T.z9c T.z8c (zb (ze (pv 0)) (zb (zo) zg))) (fun _ _=>rfl) (fun _ _=>by with_unfolding_all rfl))) (by decide)) zg)))))⟩
theorem zcl (T:Tx K mg):FnD P w K mg base 6 (He.ga K "_law_letters") z0f:=by
 obtain⟨fd,Fn,Fg⟩:=zcz (P:=P) (w:=w) (base:=base) T
 exact z7 Fg (Fn.bindsN fun _ _ _ _ _ _ us hl=>match us,hl with |[_,_],_=>rfl)
abbrev z8s:List Str:=["_law_state", "_law_odd"]
theorem zfw:FnScope z8s ["_law_state"] (defScope z4d):=⟨rfl,rfl,rfl,by decide +kernel,rfl,by decide +kernel,by decide +kernel⟩
def zok:DS:=
    (sSeq (sAsg (eLst (aCons (eC (.str "a:b")) (aCons (eC (.str ":")) (aCons (eC (.str "Ab: c")) (aCons (eC (.str "abcdefghi: j")) (aCons (eC (.str "1: 2")) (aCons (eC (.str "- x")) (aCons (eC (.str "x  y")) (aCons (eC (.str "o")) aNil))))))))) (gNm 1))
    (sRet (eIf (bT (eOp eqD (eFn z3b (aCons (eVar 0) (aCons (eC (.int 4)) aNil))) (eC (.int 0)))) (eFn zwl (aCons (eVar 0) (aCons (eVar 1) aNil))) (eFn z0f (aCons (eVar 0) (aCons (eOp addD (eC (.int 1)) (eFn z3b (aCons (eVar 0) (aCons (eC (.int 5)) aNil)))) aNil))))))
def zao:DF:=runF 2 zok
def zbj:DF:=lenF 1 zao
theorem zi5 (T:Tx K mg):∃fd,FunD K "_law_word" "_law_word" (defArgs z4d) (defBody z4d) (defScope z4d) [] [] (He.ga K "_law_word") fd∧FnG P w K mg base 7 (He.ga K "_law_word") fd ["_law_state"] (spD K 1 zao):=by
 obtain⟨fd,Fn⟩:=T.z27
 exact⟨fd,Fn,fn_D (N:=z8s) (ps:=["_law_state"]) (k:=6) (g:=zok) Fn zfw (fun cdv A outer s H E hr=>by
  have tk:yk (cxOf (L2N.CX P w) P w K mg base z8s "_law_word" (defScope z4d) (He.ga K "_law_word") cdv A outer s H E) (fun c d _ H=>E c d H):=yi rfl rfl rfl rfl
  exact (zi (zmb (zzi (zb (zl) (zb (zl) (zb (zl) (zb (zl) (zb (zl) (zb (zl) (zb (zl) (zb (zl) zg))))))))) (dgn 1 zfw.nd))
  (zj (zq (de_if (zfb (zvc hr.units) (de_fn tk (znc T) (rmo hr) (by rfl) T.z9c T.z8c (zb (ze (pv 0)) (zb (zo) zg))) (zo) (nomark _) bl_eq) (de_fn tk (z3q T) (rmo hr) (by rfl) T.zwt T.zrt (zb (ze (pv 0)) (zb (ze (pv 1)) zg))) (de_fn tk (zcl T) (rmo hr) (by rfl) T.zkm T.zjm (zb (ze (pv 0)) (zb (de_op z0 (zo) (de_fn tk (znc T) (rmo hr) (by rfl) T.z9c T.z8c (zb (ze (pv 0)) (zb (zo) zg)))) zg))))))))⟩
theorem zrw (T:Tx K mg):FnD P w K mg base 7 (He.ga K "_law_word") zbj:=by
 obtain⟨fd,Fn,Fg⟩:=zi5 (P:=P) (w:=w) (base:=base) T
 exact z7 Fg (Fn.bindsN fun _ _ _ _ _ _ us hl=>match us,hl with |[_],_=>rfl)
abbrev zgq:List Str:=["_law_state", "_law_wide", "_law_word_here", "_law_tag", "_law_far", "_law_rows"]
theorem zik:FnScope zgq ["_law_state", "_law_wide"] (defScope zhd):=⟨rfl,rfl,rfl,by decide +kernel,rfl,by decide +kernel,by decide +kernel⟩
def zsm:DS:=
    (sSeq (sPar 2 3 (aCons (eFn zbj (aCons (eVar 0) aNil)) (aCons (eOp addD (eFn z0f (aCons (eVar 0) (aCons (eOp addD (eC (.int 1)) (eFn z3b (aCons (eVar 0) (aCons (eC (.int 8)) aNil)))) aNil))) (eC (.str ":"))) aNil)))
    (sSeq (sAsg (eOp addD (eOp mulD (eC (.str " ")) (eFn z3b (aCons (eVar 0) (aCons (eOp addD (eVar 1) (eC (.int 1))) aNil)))) (eFn zbj (aCons (eVar 0) aNil))) (gNm 4))
    (sSeq (sAsg (eLst (aCons (eTup (aCons (eOp addD (eOp addD (eVar 3) (eC (.str " "))) (eVar 2)) aNil)) (aCons (eTup (aCons (eVar 2) (aCons (eC (.str "")) aNil))) (aCons (eTup (aCons (eVar 2) (aCons (eVar 4) aNil))) (aCons (eTup (aCons (eC (.str "")) (aCons (eVar 2) aNil))) (aCons (eTup (aCons (eVar 4) aNil)) (aCons (eTup (aCons (eOp addD (eC (.str "o: ")) (eVar 3)) (aCons (eC (.str "")) (aCons (eVar 4) aNil)))) (aCons (eTup (aCons (eC (.str "")) aNil)) aNil)))))))) (gNm 5))
    (sRet (eTup (aCons (eC (.str "fixed")) (aCons (eFn zwl (aCons (eVar 0) (aCons (eOp addD (eOp addD (eVar 5) (eLst (aCons (eOp mulTD (eTup (aCons (eVar 2) aNil)) (eC (.int 6))) aNil))) (eOp mulD (eLst (aCons (eTup (aCons (eVar 2) aNil)) aNil)) (eC (.int 6)))) aNil))) (aCons (eTup (aNil)) aNil))))))))
def z5p:DF:=runF 6 zsm
def zjf:DF:=lenF 2 z5p
theorem z32 (T:Tx K mg):∃fd,FunD K "_law_fixed" "_law_fixed" (defArgs zhd) (defBody zhd) (defScope zhd) [] [] (He.ga K "_law_fixed") fd∧FnG P w K mg base 8 (He.ga K "_law_fixed") fd ["_law_state", "_law_wide"] (spD K 2 z5p):=by
 obtain⟨fd,Fn⟩:=T.z45
 exact⟨fd,Fn,fn_D (N:=zgq) (ps:=["_law_state", "_law_wide"]) (k:=7) (g:=zsm) Fn zik (fun cdv A outer s H E hr=>by
  have tk:yk (cxOf (L2N.CX P w) P w K mg base zgq "_law_fixed" (defScope zhd) (He.ga K "_law_fixed") cdv A outer s H E) (fun c d _ H=>E c d H):=yi rfl rfl rfl rfl
  exact (zi (zedb (i:=2) (j:=3) rfl zik.nd rfl rfl (by decide) rfl rfl (zb (de_fn tk (zrw T) (rmo hr) (by rfl) T.z7y T.zzy (zb (ze (pv 0)) zg)) (zb (de_op z0 (de_fn tk (zcl T) (rmo hr) (by rfl) T.zkm T.zjm (zb (ze (pv 0)) (zb (de_op z0 (zo) (de_fn tk (znc T) (rmo hr) (by rfl) T.z9c T.z8c (zb (ze (pv 0)) (zb (zo) zg)))) zg))) (zl)) zg)) (by rfl))
  (zi (zmb (de_op z0 (de_op zjk (zl) (de_fn tk (znc T) (rmo hr) (by rfl) T.z9c T.z8c (zb (ze (pv 0)) (zb (de_op z0 (ze (pv 1)) (zo)) zg)))) (de_fn tk (zrw T) (rmo hr) (by rfl) T.z7y T.zzy (zb (ze (pv 0)) zg))) (dgn 4 zik.nd))
  (zi (zmb (zzi (zb (zwb (zb (de_op z0 (de_op z0 (ze (pv 3)) (zl)) (ze (pv 2))) zg)) (zb (zwb (zb (ze (pv 2)) (zb (zl) zg))) (zb (zwb (zb (ze (pv 2)) (zb (ze (pv 4)) zg))) (zb (zwb (zb (zl) (zb (ze (pv 2)) zg))) (zb (zwb (zb (ze (pv 4)) zg)) (zb (zwb (zb (de_op z0 (zl) (ze (pv 3))) (zb (zl) (zb (ze (pv 4)) zg)))) (zb (zwb (zb (zl) zg)) zg)))))))) (dgn 5 zik.nd))
  (zj (zq (zwb (zb (zl) (zb (de_fn tk (z3q T) (rmo hr) (by rfl) T.zwt T.zrt (zb (ze (pv 0)) (zb (de_op z0 (de_op z0 (ze (pv 5)) (zzi (zb (de_op z1bb (zwb (zb (ze (pv 2)) zg)) (zo)) zg))) (de_op zjk (zzi (zb (zwb (zb (ze (pv 2)) zg)) zg)) (zo))) zg))) (zb (zwb (zg)) zg))))))))))⟩
theorem z0n (T:Tx K mg):FnD P w K mg base 8 (He.ga K "_law_fixed") zjf:=by
 obtain⟨fd,Fn,Fg⟩:=z32 (P:=P) (w:=w) (base:=base) T
 exact z7 Fg (Fn.bindsN fun _ _ _ _ _ _ us hl=>match us,hl with |[_,_],_=>rfl)
abbrev z5v:List Str:=["_law_trees", "_law_found", "_law_tree_here"]
theorem zrn:FnScope z5v ["_law_trees"] (defScope zke):=⟨rfl,rfl,rfl,by decide +kernel,rfl,by decide +kernel,by decide +kernel⟩
def ze6:DS:=(sAug 1 (eIf (bT (eOp eqD (eIx [("Block",zf)] (eVar 2) (eC (.int 0))) (eC (.str "sum")))) (eB listD (aCons (eIx [("Block",zf)] (eVar 2) (eC (.int 2))) aNil)) (eLst (aCons (eVar 2) aNil))))
def zuw:DS:=
    (sSeq (sAsg (eCel (aNil)) (gNm 1))
    (sSeq (sFor (iSeq (eVar 0)) (gNm 2) ze6)
    (sRet (eIf (bT (eOp eqD (eLen [("Block",zn)] (aCons (eVar 1) aNil)) (eC (.int 1)))) (eIx [("Block",zf)] (eVar 1) (eC (.int 0))) (eTup (aCons (eC (.str "sum")) (aCons (eC (.int 0)) (aCons (eB zxo (aCons (eVar 1) aNil)) aNil))))))))
def zy1:DF:=runF 3 zuw
def zz1:DF:=lenF 1 zy1
theorem zf7 (T:Tx K mg):∃fd,FunD K "_law_sum" "_law_sum" (defArgs zke) (defBody zke) (defScope zke) [] [] (He.ga K "_law_sum") fd∧FnG P w K mg base 5 (He.ga K "_law_sum") fd ["_law_trees"] (spD K 1 zy1):=by
 obtain⟨fd,Fn⟩:=T.zoab
 exact⟨fd,Fn,fn_D (N:=z5v) (ps:=["_law_trees"]) (k:=4) (g:=zuw) Fn zrn (fun cdv A outer s H E hr=>by
  have tk:yk (cxOf (L2N.CX P w) P w K mg base z5v "_law_sum" (defScope zke) (He.ga K "_law_sum") cdv A outer s H E) (fun c d _ H=>E c d H):=yi rfl rfl rfl rfl
  exact (zi (zmb (zo9 (zg)) (dgn 1 zrn.nd))
  (zi (zrr (passes_of rfl) rfl (z6f (ze (pv 0))) (dgn 2 zrn.nd) (zj (zgdb (i:=1) zrn.nd rfl (Or.inl rfl) (de_if (zfb (zvc hr.units) (de_ix (k:=3) (t:=[("Block",zf)]) tk (zp T (by decide)) (rmo hr) (ze (pv 2)) (zo) (fun _ _=>rfl) (fun _ _=>by with_unfolding_all rfl)) (zl) (nomark _) bl_eq) (zee zil (by rfl) T.z95 (by decide +kernel) (zb (de_ix (k:=3) (t:=[("Block",zf)]) tk (zp T (by decide)) (rmo hr) (ze (pv 2)) (zo) (fun _ _=>rfl) (fun _ _=>by with_unfolding_all rfl)) zg)) (zzi (zb (ze (pv 2)) zg))))))
  (zj (zq (de_if (zfb (zvc hr.units) (zag (k:=2) (t:=[("Block",zn)]) tk (zlf T (by decide)) (rmo hr) (by rfl) T.b_len (zb (ze (pv 1)) zg)) (zo) (nomark _) bl_eq) (de_ix (k:=3) (t:=[("Block",zf)]) tk (zp T (by decide)) (rmo hr) (ze (pv 1)) (zo) (fun _ _=>rfl) (fun _ _=>by with_unfolding_all rfl)) (zwb (zb (zl) (zb (zo) (zb (zee z7l (by rfl) T.zy3 (by decide +kernel) (zb (ze (pv 1)) zg)) zg))))))))))⟩
theorem zg7 (T:Tx K mg):FnD P w K mg base 5 (He.ga K "_law_sum") zz1:=by
 obtain⟨fd,Fn,Fg⟩:=zf7 (P:=P) (w:=w) (base:=base) T
 exact z7 Fg (Fn.bindsN fun _ _ _ _ _ _ us hl=>match us,hl with |[_],_=>rfl)
abbrev zho:List Str:=["_law_state", "_law_names_here", "_law_many", "_law_name", "_law_inner", "_law_way", "_law_turn"]
theorem zte:FnScope zho ["_law_state", "_law_names_here", "_law_many"] (defScope zrd):=⟨rfl,rfl,rfl,by decide +kernel,rfl,by decide +kernel,by decide +kernel⟩
def z8m:DE:=(ePopL (eVar 1))
def zgi:DS:=
    (sSeq (sIf (bT (eOp ltD (eLen [("Block",zn)] (aCons (eVar 1) aNil)) (eVar 2))) (sRet (eFn zjf (aCons (eVar 0) (aCons (eC (.int 4)) aNil)))) sNext)
    (sSeq (sAsg (eIx [("Block",zf)] (eLc (zfv (aCons (eVar 2) aNil)) (gNm 6) bYes z8m [6]) (eC (.int 0))) (gNm 3))
    (sSeq (sAsg (eTup (aCons (eC (.str "hole")) (aCons (eVar 3) (aCons (eTup (aNil)) aNil)))) (gNm 4))
    (sSeq (sAsg (eIf (bT (eOp eqD (eFn z3b (aCons (eVar 0) (aCons (eC (.int 3)) aNil))) (eC (.int 0)))) (eVar 4) (eTup (aCons (eC (.str "dedent")) (aCons (eC (.int 0)) (aCons (eTup (aCons (eVar 4) aNil)) aNil))))) (gNm 4))
    (sSeq (sAsg (eIf (bT (eOp eqD (eVar 2) (eC (.int 2)))) (eFn z3b (aCons (eVar 0) (aCons (eC (.int 6)) aNil))) (eC (.int 9))) (gNm 5))
    (sSeq (sIf (bT (eOp ltD (eVar 5) (eC (.int 2)))) (sAsg (eFn zz1 (aCons (eLst (aCons (eFn zjf (aCons (eVar 0) (aCons (eC (.int 3)) aNil))) (aCons (eTup (aCons (eC (.str "in")) (aCons (eOp addD (eC (.int 1)) (eFn z3b (aCons (eVar 0) (aCons (eC (.int 6)) aNil)))) (aCons (eTup (aCons (eVar 4) aNil)) aNil)))) aNil))) aNil)) (gNm 4)) sNext)
    (sSeq (sAsg (eIf (bT (eOp eqD (eVar 5) (eC (.int 2)))) (eTup (aCons (eC (.str "tag")) (aCons (eFn z0f (aCons (eVar 0) (aCons (eOp addD (eC (.int 1)) (eFn z3b (aCons (eVar 0) (aCons (eC (.int 8)) aNil)))) aNil))) (aCons (eTup (aCons (eVar 4) aNil)) aNil)))) (eVar 4)) (gNm 4))
    (sRet (eIf (bT (eOp eqD (eVar 2) (eC (.int 1)))) (eVar 4) (eTup (aCons (eC (.str "each")) (aCons (eVar 3) (aCons (eTup (aCons (eVar 4) aNil)) aNil)))))))))))))
def zjl:DF:=runF 7 zgi
def z7e:DF:=lenF 3 zjl
theorem zj5 (T:Tx K mg):∃fd,FunD K "_law_leaf" "_law_leaf" (defArgs zrd) (defBody zrd) (defScope zrd) [] [] (He.ga K "_law_leaf") fd∧FnG P w K mg base 9 (He.ga K "_law_leaf") fd ["_law_state", "_law_names_here", "_law_many"] (spD K 3 zjl):=by
 obtain⟨fd,Fn⟩:=T.z37
 exact⟨fd,Fn,fn_D (N:=zho) (ps:=["_law_state", "_law_names_here", "_law_many"]) (k:=8) (g:=zgi) Fn zte (fun cdv A outer s H E hr=>by
  have tk:yk (cxOf (L2N.CX P w) P w K mg base zho "_law_leaf" (defScope zrd) (He.ga K "_law_leaf") cdv A outer s H E) (fun c d _ H=>E c d H):=yi rfl rfl rfl rfl
  exact (zi (ds_if (zfb z3u (zag (k:=2) (t:=[("Block",zn)]) tk (zlf T (by decide)) (rmo hr) (by rfl) T.b_len (zb (ze (pv 1)) zg)) (ze (pv 2)) (nomark _) bl_lt) (zj (zq (de_fn tk (z0n T) (rmo hr) (by rfl) T.zep T.zbp (zb (ze (pv 0)) (zb (zo) zg))))) z0b)
  (zi (zmb (de_ix (k:=3) (t:=[("Block",zf)]) tk (zp T (by decide)) (rmo hr) (de_lc (own:=[("_law_turn",6)]) rfl zte.nd (zjz (by rfl) T.z87 (zb (ze (pv 2)) zg)) (blkOk_by (N:=zho) (sc:=defScope zrd) (own:=[("_law_turn",6)]) (by decide +kernel)) (fun _ _ _ _ _=>(dgn 6 zte.nd)) (fun _ _ _ _ _=>zei) (fun _ _ _ _ _=>(zqjb (ze (pv 1)))) (by decide)) (zo) (fun _ _=>rfl) (fun _ _=>by with_unfolding_all rfl)) (dgn 3 zte.nd))
  (zi (zmb (zwb (zb (zl) (zb (ze (pv 3)) (zb (zwb (zg)) zg)))) (dgn 4 zte.nd))
  (zi (zmb (de_if (zfb (zvc hr.units) (de_fn tk (znc T) (rmo hr) (by rfl) T.z9c T.z8c (zb (ze (pv 0)) (zb (zo) zg))) (zo) (nomark _) bl_eq) (ze (pv 4)) (zwb (zb (zl) (zb (zo) (zb (zwb (zb (ze (pv 4)) zg)) zg))))) (dgn 4 zte.nd))
  (zi (zmb (de_if (zfb (zvc hr.units) (ze (pv 2)) (zo) (nomark _) bl_eq) (de_fn tk (znc T) (rmo hr) (by rfl) T.z9c T.z8c (zb (ze (pv 0)) (zb (zo) zg))) (zo)) (dgn 5 zte.nd))
  (zi (ds_if (zfb z3u (ze (pv 5)) (zo) (nomark _) bl_lt) (zj (zmb (de_fn tk (zg7 T) (rmo hr) (by rfl) T.zgab T.zeab (zb (zzi (zb (de_fn tk (z0n T) (rmo hr) (by rfl) T.zep T.zbp (zb (ze (pv 0)) (zb (zo) zg))) (zb (zwb (zb (zl) (zb (de_op z0 (zo) (de_fn tk (znc T) (rmo hr) (by rfl) T.z9c T.z8c (zb (ze (pv 0)) (zb (zo) zg)))) (zb (zwb (zb (ze (pv 4)) zg)) zg)))) zg))) zg)) (dgn 4 zte.nd))) z0b)
  (zi (zmb (de_if (zfb (zvc hr.units) (ze (pv 5)) (zo) (nomark _) bl_eq) (zwb (zb (zl) (zb (de_fn tk (zcl T) (rmo hr) (by rfl) T.zkm T.zjm (zb (ze (pv 0)) (zb (de_op z0 (zo) (de_fn tk (znc T) (rmo hr) (by rfl) T.z9c T.z8c (zb (ze (pv 0)) (zb (zo) zg)))) zg))) (zb (zwb (zb (ze (pv 4)) zg)) zg)))) (ze (pv 4))) (dgn 4 zte.nd))
  (zj (zq (de_if (zfb (zvc hr.units) (ze (pv 2)) (zo) (nomark _) bl_eq) (ze (pv 4)) (zwb (zb (zl) (zb (ze (pv 3)) (zb (zwb (zb (ze (pv 4)) zg)) zg)))))))))))))))⟩
theorem zsw (T:Tx K mg):FnD P w K mg base 9 (He.ga K "_law_leaf") z7e:=by
 obtain⟨fd,Fn,Fg⟩:=zj5 (P:=P) (w:=w) (base:=base) T
 exact z7 Fg (Fn.bindsN fun _ _ _ _ _ _ us hl=>match us,hl with |[_,_,_],_=>rfl)
abbrev zb0:List Str:=["thing"]
theorem z89:FnScope zb0 ["thing"] (defScope zbf):=⟨rfl,rfl,rfl,by decide +kernel,rfl,by decide +kernel,by decide +kernel⟩
def zqs:DS:=
    (sRet ((eAnd (eIsi (isfT zde) (eVar 0)) (eOp ninSD (eC (.str "\n")) (eVar 0)))))
def z4z:DF:=runF 1 zqs
def zpn:DF:=lenF 1 z4z
theorem zkab (T:Tx K mg):∃fd,FunD K "is_line" "is_line" (defArgs zbf) (defBody zbf) (defScope zbf) [] [] (He.ga K "is_line") fd∧FnG P w K mg base 1 (He.ga K "is_line") fd ["thing"] (spD K 1 z4z):=by
 obtain⟨fd,Fn⟩:=T.zrdb
 exact⟨fd,Fn,fn_D (N:=zb0) (ps:=["thing"]) (k:=0) (g:=zqs) Fn z89 (fun cdv A outer s H E hr=>by
  have tk:yk (cxOf (L2N.CX P w) P w K mg base zb0 "is_line" (defScope zbf) (He.ga K "is_line") cdv A outer s H E) (fun c d _ H=>E c d H):=yi rfl rfl rfl rfl
  exact (zj (zq ((zlz (zek (by rfl) T.zlb (ze (pv 0)) (pe_bltn (v:=.ty "str") (by rfl) T.b_str (by decide +kernel) rfl) (.ty "str") T.zde) (zs1 (zx5 z0bb (zl) (ze (pv 0)) (by rfl))))))))⟩
theorem zlv (T:Tx K mg):FnD P w K mg base 1 (He.ga K "is_line") zpn:=by
 obtain⟨fd,Fn,Fg⟩:=zkab (P:=P) (w:=w) (base:=base) T
 exact z7 Fg (Fn.bindsN fun _ _ _ _ _ _ us hl=>match us,hl with |[_],_=>rfl)
abbrev zqh:List Str:=["self", "lines", "line", "rows"]
theorem zug:FnScope zqh ["self", "lines"] (defScope zhb):=⟨rfl,rfl,rfl,by decide +kernel,rfl,by decide +kernel,by decide +kernel⟩
def zcg:DS:=(sIf (bNot (bT (eFn zpn (aCons (eVar 2) aNil)))) (zvf "BadLine" "value" 41 (eVar 2)) sNext)
def ztf:DE:=(eBM "str" z2u (eVar 2) (aCons (eC (.str " ")) aNil))
def z9f:DS:=
    (sSeq (sFor (iSeq (eVar 1)) (gNm 2) zcg)
    (sSeq (sAsg (eLc (iSeq (eVar 1)) (gNm 2) bYes ztf [2]) (gNm 3))
    (sFldS ["Block"] "rows" (eIf (bT (eOp neD (eVar 3) (eLst (aNil)))) (eVar 3) (eLst (aCons (eC (.str "")) aNil))) (eVar 0))))
def zoh:DF:=runF 4 z9f
def zfc:DF:=starF 1 zoh
theorem zie (T:Tx K mg):FnD P w K mg base 3 (He.ma K (He.ga K "Block") "__init__") zfc:=by
 obtain⟨fd,Fn⟩:=T.zmx
 exact zb9 (N:=zqh) (ps:=["self"]) (pv:="lines") (k:=2) (g:=z9f) Fn zug (fun kV doc pm an cdv ct=>StX.bind_star1 (B:=fun z=>bindArgs (y1d "__init__" "Block.__init__" (defArgs zhb) (defBody zhb) (defScope zhb) .none kV doc pm an cdv ct) ⟨z,[]⟩) (fun _=>rfl) (fun _ _ _=>rfl)) (fun cdv A outer s H E hr=>by
  have tk:yk (cxOf (L2N.CX P w) P w K mg base zqh "Block.__init__" (defScope zhb) (He.ma K (He.ga K "Block") "__init__") cdv A outer s H E) (fun c d _ H=>E c d H):=yi rfl rfl rfl rfl
  exact (zi (zrr (passes_of rfl) rfl (z6f (ze (pv 1))) (dgn 2 zug.nd) (zj (ds_if (zif (zsd (de_fn tk (zlv T) (rmo hr) (by rfl) T.z6y T.zyy (zb (ze (pv 2)) zg)))) (zj (zwe rfl tk T.zgh (z9d T).choose_spec.1 (z9d T).choose_spec.2 (rmo hr) (by rfl) T.zbl (ze (pv 2)))) z0b)))
  (zi (zbu (i:=3) (own:=[("line",2)]) rfl zug.nd rfl rfl (sw_true rfl rfl rfl (by decide +kernel)) (z6f (ze (pv 1))) (blkOk_by (N:=zqh) (sc:=defScope zhb) (own:=[("line",2)]) (by decide +kernel)) (fun _ _ _ _ _=>(dgn 2 zug.nd)) (fun _ _ _ _ _=>zei) (fun _ _ _ _ _=>(de_bm yx yfd ygd z7r (ze (pv 2)) (zb (zl) zg))) (by decide))
  (zj (zsr (Cs:=["Block"]) T.z4g (ze (pv 0)) (de_if (zfb (z8k hr.units) (ze (pv 3)) (zzi (zg)) (nomark _) bl_ne) (ze (pv 3)) (zzi (zb (zl) zg))))))))
abbrev ziq:List Str:=["cls", "text", "rows"]
theorem zit:FnScope ziq ["cls", "text"] (defScope zld):=⟨rfl,rfl,rfl,by decide +kernel,rfl,by decide +kernel,by decide +kernel⟩
def zum:DS:=
    (sSeq (sIf (bNot (bT (eIsi (isfT zde) (eVar 1)))) (zvf "BadLine" "value" 41 (eVar 1)) sNext)
    (sSeq (sAsg (eBM "str" z90 (eVar 1) (aCons (eC (.str "\n")) aNil)) (gNm 2))
    (sRet (eMk "Block" zfc (eVar 0) (zuo (eVar 2))))))
def z7p:DF:=runF 3 zum
def z4h:DF:=lenF 2 z7p
theorem z52 (T:Tx K mg):∃fd,FunD K "read" "Block.read" (defArgs zld) (defBody zld) (defScope zld) [] [] (He5.wf K (He.ga K "Block") "classmethod" "read") fd∧FnG P w K mg base 5 (He5.wf K (He.ga K "Block") "classmethod" "read") fd ["cls", "text"] (spD K 2 z7p):=by
 obtain⟨fd,Fn⟩:=T.z65
 exact⟨fd,Fn,fn_D (N:=ziq) (ps:=["cls", "text"]) (k:=4) (g:=zum) Fn zit (fun cdv A outer s H E hr=>by
  have tk:yk (cxOf (L2N.CX P w) P w K mg base ziq "Block.read" (defScope zld) (He5.wf K (He.ga K "Block") "classmethod" "read") cdv A outer s H E) (fun c d _ H=>E c d H):=yi rfl rfl rfl rfl
  exact (zi (ds_if (zif (zsd (zek (by rfl) T.zlb (ze (pv 1)) (pe_bltn (v:=.ty "str") (by rfl) T.b_str (by decide +kernel) rfl) (.ty "str") T.zde))) (zj (zwe rfl tk T.zgh (z9d T).choose_spec.1 (z9d T).choose_spec.2 (rmo hr) (by rfl) T.zbl (ze (pv 1)))) z0b)
  (zi (zmb (de_bm yx yld ymd z7u (ze (pv 1)) (zb (zl) zg)) (dgn 2 zit.nd))
  (zj (zq (zt1 (C:="Block") tk T.zas (zie T) (rmo hr) (ze (pv 0)) (ze (pv 2))))))))⟩
theorem z1n (T:Tx K mg):FnD P w K mg base 5 (He5.wf K (He.ga K "Block") "classmethod" "read") z4h:=by
 obtain⟨fd,Fn,Fg⟩:=z52 (P:=P) (w:=w) (base:=base) T
 exact z7 Fg (Fn.bindsN fun _ _ _ _ _ _ us hl=>match us,hl with |[_,_],_=>rfl)
abbrev zsl:List Str:=["self"]
theorem z0w:FnScope zsl ["self"] (defScope zac):=⟨rfl,rfl,rfl,by decide +kernel,rfl,by decide +kernel,by decide +kernel⟩
def zyg:DS:=
    (sRet (eBM "str" joinD (eC (.str "\n")) (aCons (eFldH ["Block"] "rows" (eVar 0)) aNil)))
def zni:DF:=runF 1 zyg
def zec:DF:=lenF 1 zni
theorem z8w (T:Tx K mg):∃fd,FunD K "__str__" "Block.__str__" (defArgs zac) (defBody zac) (defScope zac) [] [] (He.ma K (He.ga K "Block") "__str__") fd∧FnG P w K mg base 1 (He.ma K (He.ga K "Block") "__str__") fd ["self"] (spD K 1 zni):=by
 obtain⟨fd,Fn⟩:=T.zqz
 exact⟨fd,Fn,fn_D (N:=zsl) (ps:=["self"]) (k:=0) (g:=zyg) Fn z0w (fun cdv A outer s H E hr=>by
  have tk:yk (cxOf (L2N.CX P w) P w K mg base zsl "Block.__str__" (defScope zac) (He.ma K (He.ga K "Block") "__str__") cdv A outer s H E) (fun c d _ H=>E c d H):=yi rfl rfl rfl rfl
  exact (zj (zq (de_bm yx yyc yzc zmt (zl) (zb (zts (Cs:=["Block"]) T.z4g (ze (pv 0))) zg)))))⟩
theorem zfx (T:Tx K mg):FnD P w K mg base 1 (He.ma K (He.ga K "Block") "__str__") zec:=by
 obtain⟨fd,Fn,Fg⟩:=z8w (P:=P) (w:=w) (base:=base) T
 exact z7 Fg (Fn.bindsN fun _ _ _ _ _ _ us hl=>match us,hl with |[_],_=>rfl)
theorem zny (T:Tx K mg) {k:Nat} (hk:1≤k):∀q∈([("Block",zec)]:Tbl),OwnM P w K mg base k "__str__" q.1 q.2:=
 (zcd ⟨_,(z8d T.z9h).1,(z8d T.z9h).2.1,(z8d T.z9h).2.2.1,(z8d T.z9h).2.2.2,(zfx T).mono (yy (by decide) hk)⟩ zrh)
abbrev zjo:List Str:=["self"]
theorem zg0:FnScope zjo ["self"] (defScope z2c):=⟨rfl,rfl,rfl,by decide +kernel,rfl,by decide +kernel,by decide +kernel⟩
def zii:DS:=
    (sRet (eB zxo (aCons (eFldH ["Block"] "rows" (eVar 0)) aNil)))
def ztk:DF:=runF 1 zii
def zqb:DF:=lenF 1 ztk
theorem zq0 (T:Tx K mg):∃fd,FunD K "lines" "Block.lines" (defArgs z2c) (defBody z2c) (defScope z2c) [] [] (He5.wf K (He.ga K "Block") "property" "lines") fd∧FnG P w K mg base 1 (He5.wf K (He.ga K "Block") "property" "lines") fd ["self"] (spD K 1 ztk):=by
 obtain⟨fd,Fn⟩:=T.zs3
 exact⟨fd,Fn,fn_D (N:=zjo) (ps:=["self"]) (k:=0) (g:=zii) Fn zg0 (fun cdv A outer s H E hr=>by
  have tk:yk (cxOf (L2N.CX P w) P w K mg base zjo "Block.lines" (defScope z2c) (He5.wf K (He.ga K "Block") "property" "lines") cdv A outer s H E) (fun c d _ H=>E c d H):=yi rfl rfl rfl rfl
  exact (zj (zq (zee z7l (by rfl) T.zy3 (by decide +kernel) (zb (zts (Cs:=["Block"]) T.z4g (ze (pv 0))) zg)))))⟩
theorem znm (T:Tx K mg):FnD P w K mg base 1 (He5.wf K (He.ga K "Block") "property" "lines") zqb:=by
 obtain⟨fd,Fn,Fg⟩:=zq0 (P:=P) (w:=w) (base:=base) T
 exact z7 Fg (Fn.bindsN fun _ _ _ _ _ _ us hl=>match us,hl with |[_],_=>rfl)
abbrev z4s:List Str:=["line", "word"]
theorem zew:FnScope z4s ["line"] (defScope z1d):=⟨rfl,rfl,rfl,by decide +kernel,rfl,by decide +kernel,by decide +kernel⟩
def zmk:DS:=
    (sSeq (sAsg (eBM "str" z9x (eVar 0) (aCons (eC (.str " ")) aNil)) (gNm 1))
    (sSeq (sIf (bT (eOp eqD (eVar 1) (eC (.str "")))) (sRet (eUn negD (eC (.int 1)))) sNext)
    (sRet (eOp subD (eLen [] (aCons (eVar 0) aNil)) (eLen [] (aCons (eBM "str" z8u (eVar 0) (aCons (eC (.str " ")) aNil)) aNil))))))
def z8n:DF:=runF 2 zmk
def z1h:DF:=lenF 1 z8n
theorem ze5 (T:Tx K mg):∃fd,FunD K "margin_of" "margin_of" (defArgs z1d) (defBody z1d) (defScope z1d) [] [] (He.ga K "margin_of") fd∧FnG P w K mg base 2 (He.ga K "margin_of") fd ["line"] (spD K 1 z8n):=by
 obtain⟨fd,Fn⟩:=T.zx7
 exact⟨fd,Fn,fn_D (N:=z4s) (ps:=["line"]) (k:=1) (g:=zmk) Fn zew (fun cdv A outer s H E hr=>by
  have tk:yk (cxOf (L2N.CX P w) P w K mg base z4s "margin_of" (defScope z1d) (He.ga K "margin_of") cdv A outer s H E) (fun c d _ H=>E c d H):=yi rfl rfl rfl rfl
  exact (zi (zmb (de_bm yx ynd yod z6u (ze (pv 0)) (zb (zl) zg)) (dgn 1 zew.nd))
  (zi (ds_if (zfb (zvc hr.units) (ze (pv 1)) (zl) (nomark _) bl_eq) (zj (zq (de_un zbt (zo)))) z0b)
  (zj (zq (de_op zux (zag (k:=0) (t:=[]) tk (fun _ z=>nomatch z) (rmo hr) (by rfl) T.b_len (zb (ze (pv 0)) zg)) (zag (k:=0) (t:=[]) tk (fun _ z=>nomatch z) (rmo hr) (by rfl) T.b_len (zb (de_bm yx yhd yid z8r (ze (pv 0)) (zb (zl) zg)) zg))))))))⟩
theorem zkp (T:Tx K mg):FnD P w K mg base 2 (He.ga K "margin_of") z1h:=by
 obtain⟨fd,Fn,Fg⟩:=ze5 (P:=P) (w:=w) (base:=base) T
 exact z7 Fg (Fn.bindsN fun _ _ _ _ _ _ us hl=>match us,hl with |[_],_=>rfl)
abbrev z2x:List Str:=["thing", "letter"]
theorem zfy:FnScope z2x ["thing"] (defScope zuf):=⟨rfl,rfl,rfl,by decide +kernel,rfl,by decide +kernel,by decide +kernel⟩
def zat:DE:=(zqp leD leD (eC (.str "a")) (eVar 1) (eC (.str "z")))
def zjn:DS:=
    (sSeq (sIf ((bOr (bNot (bT (eIsi (isfT zde) (eVar 0)))) (bNot (bT (zqp leD leD (eC (.int 1)) (eLen [] (aCons (eVar 0) aNil)) (eC (.int 8))))))) (sRet (eC (.bl false))) sNext)
    (sRet (eB allD (aCons (eLc (iTxt (eVar 0)) (gNm 1) bYes zat [1]) aNil))))
def zuu:DF:=runF 2 zjn
def zlo:DF:=lenF 1 zuu
theorem z5cb (T:Tx K mg):∃fd,FunD K "is_tag" "is_tag" (defArgs zuf) (defBody zuf) (defScope zuf) [] [] (He.ga K "is_tag") fd∧FnG P w K mg base 2 (He.ga K "is_tag") fd ["thing"] (spD K 1 zuu):=by
 obtain⟨fd,Fn⟩:=T.z2fb
 exact⟨fd,Fn,fn_D (N:=z2x) (ps:=["thing"]) (k:=1) (g:=zjn) Fn zfy (fun cdv A outer s H E hr=>by
  have tk:yk (cxOf (L2N.CX P w) P w K mg base z2x "is_tag" (defScope zuf) (He.ga K "is_tag") cdv A outer s H E) (fun c d _ H=>E c d H):=yi rfl rfl rfl rfl
  exact (zi (ds_if (PW.pt (dw_or (zif (zsd (zek (by rfl) T.zlb (ze (pv 0)) (pe_bltn (v:=.ty "str") (by rfl) T.b_str (by decide +kernel) rfl) (.ty "str") T.zde))) (ztw (zif (zl9 z8o z8o bl_le bl_le (zo) (zag (k:=0) (t:=[]) tk (fun _ z=>nomatch z) (rmo hr) (by rfl) T.b_len (zb (ze (pv 0)) zg)) (zup (i:=8) (by rfl) T.zhab)))))) (zj (zq (de_bl))) z0b)
  (zj (zq (zjj (zu1 rfl) (by rfl) T.b_all (by decide +kernel) (zb (de_lc (own:=[("letter",1)]) rfl zfy.nd (z5lb (ze (pv 0))) (blkOk_by (N:=z2x) (sc:=defScope zuf) (own:=[("letter",1)]) (by decide +kernel)) (fun _ _ _ _ _=>(dgn 1 zfy.nd)) (fun _ _ _ _ _=>zei) (fun _ _ _ _ _=>(zl3 z8o z8o bl_le (zl) (ze (pv 1)) (zl))) (by decide)) zg))))))⟩
theorem zn5 (T:Tx K mg):FnD P w K mg base 2 (He.ga K "is_tag") zlo:=by
 obtain⟨fd,Fn,Fg⟩:=z5cb (P:=P) (w:=w) (base:=base) T
 exact z7 Fg (Fn.bindsN fun _ _ _ _ _ _ us hl=>match us,hl with |[_],_=>rfl)
abbrev zcq:List Str:=["line", "found", "column", "word", "head", "colon", "tail"]
theorem zse:FnScope zcq ["line"] (defScope zed):=⟨rfl,rfl,rfl,by decide +kernel,rfl,by decide +kernel,by decide +kernel⟩
def zzf:DT:=(bT (eOp neD (eVar 3) (eC (.str ""))))
def zge:DS:=(sSeq (sAsg (eBM "str" zfn (eVar 3) (aCons (eC (.str ":")) aNil)) (gTp 3 (zve (gNm 4) (zve (gNm 5) (zve (gNm 6) gNil_)))))
    (sSeq (sIf ((bOr (bT (eOp eqD (eVar 5) (eC (.str "")))) (bOr (bNot (bT (eFn zlo (aCons (eVar 4) aNil)))) (bNot ((bOr (bT (eOp eqD (eVar 6) (eC (.str "")))) (bT (eBM "str" z21 (eVar 6) (aCons (eC (.str " ")) aNil))))))))) (sSeq (sDrop (eApp (eVar 1) (aCons (eTup (aCons (eVar 2) (aCons (eVar 3) aNil))) aNil)))
    (sRet (eVar 1))) sNext)
    (sSeq (sDrop (eApp (eVar 1) (aCons (eTup (aCons (eVar 2) (aCons (eOp addD (eVar 4) (eC (.str ":"))) aNil))) aNil)))
    (sSeq (sAsg (eBM "str" z8u (eVar 6) (aCons (eC (.str " ")) aNil)) (gNm 3))
    (sAsg (eOp subD (eOp addD (eOp addD (eOp addD (eVar 2) (eLen [] (aCons (eVar 4) aNil))) (eC (.int 1))) (eLen [] (aCons (eVar 6) aNil))) (eLen [] (aCons (eVar 3) aNil))) (gNm 2))))))
def zij:DS:=
    (sSeq (sAsg (eCel (aNil)) (gNm 1))
    (sSeq (sPar 2 3 (aCons (eFn z1h (aCons (eVar 0) aNil)) (aCons (eBM "str" z9x (eVar 0) (aCons (eC (.str " ")) aNil)) aNil)))
    (sSeq (zcbb 100000 zzf zge)
    (sRet (eVar 1)))))
def z9l:DF:=runF 7 zij
def zuj:DF:=lenF 1 z9l
theorem zz2 (T:Tx K mg):∃fd,FunD K "line_nodes" "line_nodes" (defArgs zed) (defBody zed) (defScope zed) [] [] (He.ga K "line_nodes") fd∧FnG P w K mg base 3 (He.ga K "line_nodes") fd ["line"] (spD K 1 z9l):=by
 obtain⟨fd,Fn⟩:=T.zz5
 exact⟨fd,Fn,fn_D (N:=zcq) (ps:=["line"]) (k:=2) (g:=zij) Fn zse (fun cdv A outer s H E hr=>by
  have tk:yk (cxOf (L2N.CX P w) P w K mg base zcq "line_nodes" (defScope zed) (He.ga K "line_nodes") cdv A outer s H E) (fun c d _ H=>E c d H):=yi rfl rfl rfl rfl
  exact (zi (zmb (zo9 (zg)) (dgn 1 zse.nd))
  (zi (zedb (i:=2) (j:=3) rfl zse.nd rfl rfl (by decide) rfl rfl (zb (de_fn tk (zkp T) (rmo hr) (by rfl) T.zgs T.zcs (zb (ze (pv 0)) zg)) (zb (de_bm yx ynd yod z6u (ze (pv 0)) (zb (zl) zg)) zg)) (by rfl))
  (zi (zsfb 100000 (passes_of rfl) (zfb (z8k hr.units) (ze (pv 3)) (zl) (nomark _) bl_ne) (zi (zmb (de_bm yx PySem.F.slot_str_partition PySem.F.type_str_partition zi0 (ze (pv 3)) (zb (zl) zg)) (zr1 rfl (z7f (dgn 4 zse.nd) (z7f (dgn 5 zse.nd) (z7f (dgn 6 zse.nd) zsv)))))
  (zi (ds_if (PW.pt (dw_or (zfb (zvc hr.units) (ze (pv 5)) (zl) (nomark _) bl_eq) (dw_or (zif (zsd (de_fn tk (zn5 T) (rmo hr) (by rfl) T.z88 T.z38 (zb (ze (pv 4)) zg)))) (ztw (zif (PW.pt (dw_or (zfb (zvc hr.units) (ze (pv 6)) (zl) (nomark _) bl_eq) (ztw (zsd (de_bm yx PySem.F.slot_str_startswith PySem.F.type_str_startswith zv6 (ze (pv 6)) (zb (zl) zg))))))))))) (zi (zqv (zp9 (ze (pv 1)) (zb (zwb (zb (ze (pv 2)) (zb (ze (pv 3)) zg))) zg)))
  (zj (zq (ze (pv 1))))) z0b)
  (zi (zqv (zp9 (ze (pv 1)) (zb (zwb (zb (ze (pv 2)) (zb (de_op z0 (ze (pv 4)) (zl)) zg))) zg)))
  (zi (zmb (de_bm yx yhd yid z8r (ze (pv 6)) (zb (zl) zg)) (dgn 3 zse.nd))
  (zj (zmb (de_op zux (de_op z0 (de_op z0 (de_op z0 (ze (pv 2)) (zag (k:=0) (t:=[]) tk (fun _ z=>nomatch z) (rmo hr) (by rfl) T.b_len (zb (ze (pv 4)) zg))) (zo)) (zag (k:=0) (t:=[]) tk (fun _ z=>nomatch z) (rmo hr) (by rfl) T.b_len (zb (ze (pv 6)) zg))) (zag (k:=0) (t:=[]) tk (fun _ z=>nomatch z) (rmo hr) (by rfl) T.b_len (zb (ze (pv 3)) zg))) (dgn 2 zse.nd))))))))
  (zj (zq (ze (pv 1))))))))⟩
theorem z72 (T:Tx K mg):FnD P w K mg base 3 (He.ga K "line_nodes") zuj:=by
 obtain⟨fd,Fn,Fg⟩:=zz2 (P:=P) (w:=w) (base:=base) T
 exact z7 Fg (Fn.bindsN fun _ _ _ _ _ _ us hl=>match us,hl with |[_],_=>rfl)
abbrev zbq:List Str:=["text", "lines", "line", "word"]
theorem zfk:FnScope zbq ["text"] (defScope zdd):=⟨rfl,rfl,rfl,by decide +kernel,rfl,by decide +kernel,by decide +kernel⟩
def zkh:DS:=(sSeq (sAsg (eBM "str" z9x (eVar 2) (aCons (eC (.str " ")) aNil)) (gNm 3))
    (sIf (bT (eOp eqD (eVar 3) (eC (.str "")))) (sDrop (eApp (eVar 1) (aCons (eC .non) aNil))) (sDrop (eApp (eVar 1) (aCons (eTup (aCons (eOp subD (eLen [] (aCons (eVar 2) aNil)) (eLen [] (aCons (eBM "str" z8u (eVar 2) (aCons (eC (.str " ")) aNil)) aNil))) (aCons (eB zxo (aCons (eFn zuj (aCons (eVar 3) aNil)) aNil)) aNil))) aNil)))))
def zom:DS:=
    (sSeq (sAsg (eCel (aNil)) (gNm 1))
    (sSeq (sFor (iSeq (eBM "str" z90 (eVar 0) (aCons (eC (.str "\n")) aNil))) (gNm 2) zkh)
    (sRet (eVar 1))))
def z1p:DF:=runF 4 zom
def zcm:DF:=lenF 1 z1p
theorem zy2 (T:Tx K mg):∃fd,FunD K "split_text" "split_text" (defArgs zdd) (defBody zdd) (defScope zdd) [] [] (He.ga K "split_text") fd∧FnG P w K mg base 4 (He.ga K "split_text") fd ["text"] (spD K 1 z1p):=by
 obtain⟨fd,Fn⟩:=T.zy5
 exact⟨fd,Fn,fn_D (N:=zbq) (ps:=["text"]) (k:=3) (g:=zom) Fn zfk (fun cdv A outer s H E hr=>by
  have tk:yk (cxOf (L2N.CX P w) P w K mg base zbq "split_text" (defScope zdd) (He.ga K "split_text") cdv A outer s H E) (fun c d _ H=>E c d H):=yi rfl rfl rfl rfl
  exact (zi (zmb (zo9 (zg)) (dgn 1 zfk.nd))
  (zi (zrr (passes_of rfl) rfl (z6f (de_bm yx yld ymd z7u (ze (pv 0)) (zb (zl) zg))) (dgn 2 zfk.nd) (zi (zmb (de_bm yx ynd yod z6u (ze (pv 2)) (zb (zl) zg)) (dgn 3 zfk.nd))
  (zj (ds_if (zfb (zvc hr.units) (ze (pv 3)) (zl) (nomark _) bl_eq) (zj (zqv (zp9 (ze (pv 1)) (zb (ztr) zg)))) (zj (zqv (zp9 (ze (pv 1)) (zb (zwb (zb (de_op zux (zag (k:=0) (t:=[]) tk (fun _ z=>nomatch z) (rmo hr) (by rfl) T.b_len (zb (ze (pv 2)) zg)) (zag (k:=0) (t:=[]) tk (fun _ z=>nomatch z) (rmo hr) (by rfl) T.b_len (zb (de_bm yx yhd yid z8r (ze (pv 2)) (zb (zl) zg)) zg))) (zb (zee z7l (by rfl) T.zy3 (by decide +kernel) (zb (de_fn tk (z72 T) (rmo hr) (by rfl) T.z04 T.zs4 (zb (ze (pv 3)) zg)) zg)) zg))) zg))))))))
  (zj (zq (ze (pv 1)))))))⟩
theorem z62 (T:Tx K mg):FnD P w K mg base 4 (He.ga K "split_text") zcm:=by
 obtain⟨fd,Fn,Fg⟩:=zy2 (P:=P) (w:=w) (base:=base) T
 exact z7 Fg (Fn.bindsN fun _ _ _ _ _ _ us hl=>match us,hl with |[_],_=>rfl)
abbrev zbe:List Str:=["self", "word", "members", "name", "amount", "tag", "block", "own", "nodes", "member", "line"]
theorem z1b:FnScope zbe ["self", "word", "members", "name", "amount", "tag", "block"] (defScope zr):=⟨rfl,rfl,rfl,by decide +kernel,rfl,by decide +kernel,by decide +kernel⟩
def ztg:DE:=(eFld ["Program"] "size" (eVar 9))
def z2e:DT:=(bT (eOp ztn (eVar 10) (eC .non)))
def zsg:DE:=(eLen [("Block",zn)] (aCons (eIx [("Block",zf)] (eVar 10) (eC (.int 1))) aNil))
def zrg:DE:=(eFld ["Program"] "spots" (eVar 9))
def z8e:DS:=
    (sSeq (sFldS ["Program"] "word" (eVar 1) (eVar 0))
    (sSeq (sFldS ["Program"] "members" (eVar 2) (eVar 0))
    (sSeq (sFldS ["Program"] "name" (eVar 3) (eVar 0))
    (sSeq (sFldS ["Program"] "amount" (eVar 4) (eVar 0))
    (sSeq (sFldS ["Program"] "tag" (eVar 5) (eVar 0))
    (sSeq (sFldS ["Program"] "block" (eVar 6) (eVar 0))
    (sSeq (sFldS ["Program"] "cut" (eIf (bT (eOp zmw (eVar 6) (eC .non))) (eC .non) (eFn zcm (aCons (eStr [("Block",zec)] (aCons (eVar 6) aNil)) aNil))) (eVar 0))
    (sSeq (sFldS ["Program"] "size" (eOp addD (eC (.int 1)) (eB sumD (aCons (eLc (iSeq (eVar 2)) (gNm 9) bYes ztg [9]) aNil))) (eVar 0))
    (sSeq (sAsg (eIf ((bOr (bT (eOp eqD (eVar 1) (eC (.str "hole")))) (bT (eOp inTD (eVar 1) (eC (.tup ((["tag", "raw"]:List Str).map D.str))))))) (eC (.int 1)) (eC (.int 0))) (gNm 7))
    (sSeq (sAsg (eIf (bT (eOp zmw (eVar 6) (eC .non))) (eLst (aNil)) (eLc (iSeq (eFld ["Program"] "cut" (eVar 0))) (gNm 10) z2e zsg [10])) (gNm 8))
    (sFldS ["Program"] "spots" (eOp addD (eOp addD (eVar 7) (eB sumD (aCons (eVar 8) aNil))) (eB sumD (aCons (eLc (iSeq (eVar 2)) (gNm 9) bYes zrg [9]) aNil))) (eVar 0))))))))))))
def zyc:DF:=runF 11 z8e
def zze:DF:=lenF 7 zyc
theorem zme (T:Tx K mg):∃fd,FunD K "__init__" "Program.__init__" (defArgs zr) (defBody zr) (defScope zr) [.non,.non,.non,.non] [] (He.ma K (He.ga K "Program") "__init__") fd∧FnG P w K mg base 5 (He.ma K (He.ga K "Program") "__init__") fd ["self", "word", "members", "name", "amount", "tag", "block"] (spD K 7 zyc):=by
 obtain⟨fd,Fn⟩:=T.zju
 exact⟨fd,Fn,fn_D (N:=zbe) (ps:=["self", "word", "members", "name", "amount", "tag", "block"]) (k:=4) (g:=z8e) Fn z1b (fun cdv A outer s H E hr=>by
  have tk:yk (cxOf (L2N.CX P w) P w K mg base zbe "Program.__init__" (defScope zr) (He.ma K (He.ga K "Program") "__init__") cdv A outer s H E) (fun c d _ H=>E c d H):=yi rfl rfl rfl rfl
  exact (zi (zsr (Cs:=["Program"]) T.z5t (ze (pv 0)) (ze (pv 1)))
  (zi (zsr (Cs:=["Program"]) T.zfl (ze (pv 0)) (ze (pv 2)))
  (zi (zsr (Cs:=["Program"]) T.zq5 (ze (pv 0)) (ze (pv 3)))
  (zi (zsr (Cs:=["Program"]) T.zc3 (ze (pv 0)) (ze (pv 4)))
  (zi (zsr (Cs:=["Program"]) T.f_tag (ze (pv 0)) (ze (pv 5)))
  (zi (zsr (Cs:=["Program"]) T.zh7 (ze (pv 0)) (ze (pv 6)))
  (zi (zsr (Cs:=["Program"]) T.f_cut (ze (pv 0)) (de_if (zfb zs6 (ze (pv 6)) (ztr) (nomark _) bl_is) (ztr) (de_fn tk (z62 T) (rmo hr) (by rfl) T.zz4 T.zr4 (zb (zkdb (k:=1) (t:=[("Block",zec)]) tk (zny T (by decide)) (rmo hr) (by rfl) T.b_str (zb (ze (pv 6)) zg)) zg))))
  (zi (zsr (Cs:=["Program"]) T.zi9 (ze (pv 0)) (de_op z0 (zo) (zjj (z2v rfl) (by rfl) T.b_sum (by decide +kernel) (zb (de_lc (own:=[("member",9)]) rfl z1b.nd (z6f (ze (pv 2))) (blkOk_by (N:=zbe) (sc:=defScope zr) (own:=[("member",9)]) (by decide +kernel)) (fun _ _ _ _ _=>(dgn 9 z1b.nd)) (fun _ _ _ _ _=>zei) (fun _ _ _ _ _=>(zbd (Cs:=["Program"]) T.zi9 (ze (pv 9)))) (by decide)) zg))))
  (zi (zmb (de_if (PW.pt (dw_or (zfb (zvc hr.units) (ze (pv 1)) (zl) (nomark _) bl_eq) (ztw (zfb zuq (ze (pv 1)) (ztjb (ss:=["tag", "raw"]) (by rfl) T.zwlb T.zjkb) (by rfl) zv1)))) (zo) (zo)) (dgn 7 z1b.nd))
  (zi (zmb (de_if (zfb zs6 (ze (pv 6)) (ztr) (nomark _) bl_is) (zzi (zg)) (de_lc (own:=[("line",10)]) rfl z1b.nd (z6f (zbd (Cs:=["Program"]) T.f_cut (ze (pv 0)))) (blkOk_by (N:=zbe) (sc:=defScope zr) (own:=[("line",10)]) (by decide +kernel)) (fun _ _ _ _ _=>(dgn 10 z1b.nd)) (fun _ _ _ _ _=>zrp (zfb z4u (ze (pv 10)) (ztr) (nomark _) zx3)) (fun _ _ _ _ _=>(zag (k:=2) (t:=[("Block",zn)]) zxj (zlf T (by decide)) (rmo hr) (by rfl) T.b_len (zb (de_ix (k:=3) (t:=[("Block",zf)]) zxj (zp T (by decide)) (rmo hr) (ze (pv 10)) (zo) (fun _ _=>rfl) (fun _ _=>by with_unfolding_all rfl)) zg))) (by decide))) (dgn 8 z1b.nd))
  (zj (zsr (Cs:=["Program"]) T.z6cb (ze (pv 0)) (de_op z0 (de_op z0 (ze (pv 7)) (zjj (z2v rfl) (by rfl) T.b_sum (by decide +kernel) (zb (ze (pv 8)) zg))) (zjj (z2v rfl) (by rfl) T.b_sum (by decide +kernel) (zb (de_lc (own:=[("member",9)]) rfl z1b.nd (z6f (ze (pv 2))) (blkOk_by (N:=zbe) (sc:=defScope zr) (own:=[("member",9)]) (by decide +kernel)) (fun _ _ _ _ _=>(dgn 9 z1b.nd)) (fun _ _ _ _ _=>zei) (fun _ _ _ _ _=>(zbd (Cs:=["Program"]) T.z6cb (ze (pv 9)))) (by decide)) zg))))))))))))))))⟩
def zoc:DF:=kwF 4 [.non,.non,.non,.non] [0,1,2,4,5,6,3] zze
theorem zlk (T:Tx K mg):FnK P w K mg base 5 (He.ma K (He.ga K "Program") "__init__") ["block"] zoc:=by
 obtain⟨fd,Fn,Fg⟩:=zme (P:=P) (w:=w) (base:=base) T
 exact z94 Fn Fg 3 ["block"] [.non,.non,.non,.non] [0,1,2,4,5,6,3] (by simp) (.cons .non (.cons .non (.cons .non (.cons .non .nil)))) (fun _ _ _ _ _ _ _ us ws its hu hw hi=>match us,ws,its,hu,hw,hi with |[_,_,_],[_],[_,_,_,_],_,_,_=>⟨_,rfl,rfl⟩)
def zgb:DF:=kwF 4 [.non,.non,.non,.non] [0,1,2,3,5,6,7] zze
theorem zfg (T:Tx K mg):FnK P w K mg base 5 (He.ma K (He.ga K "Program") "__init__") ["name"] zgb:=by
 obtain⟨fd,Fn,Fg⟩:=zme (P:=P) (w:=w) (base:=base) T
 exact z94 Fn Fg 3 ["name"] [.non,.non,.non,.non] [0,1,2,3,5,6,7] (by simp) (.cons .non (.cons .non (.cons .non (.cons .non .nil)))) (fun _ _ _ _ _ _ _ us ws its hu hw hi=>match us,ws,its,hu,hw,hi with |[_,_,_],[_],[_,_,_,_],_,_,_=>⟨_,rfl,rfl⟩)
def z8:DF:=kwF 3 [.non,.non,.non,.non] [0,1,2,3,4,5,6] zze
theorem z1f (T:Tx K mg):FnK P w K mg base 5 (He.ma K (He.ga K "Program") "__init__") [] z8:=by
 obtain⟨fd,Fn,Fg⟩:=zme (P:=P) (w:=w) (base:=base) T
 exact z94 Fn Fg 3 [] [.non,.non,.non,.non] [0,1,2,3,4,5,6] (by simp) (.cons .non (.cons .non (.cons .non (.cons .non .nil)))) (fun _ _ _ _ _ _ _ us ws its hu hw hi=>match us,ws,its,hu,hw,hi with |[_,_,_],[],[_,_,_,_],_,_,_=>⟨_,rfl,rfl⟩)
def zad:DF:=kwF 4 [.non,.non,.non,.non] [0,1,2,4,3,6,7] zze
theorem z0j (T:Tx K mg):FnK P w K mg base 5 (He.ma K (He.ga K "Program") "__init__") ["amount"] zad:=by
 obtain⟨fd,Fn,Fg⟩:=zme (P:=P) (w:=w) (base:=base) T
 exact z94 Fn Fg 3 ["amount"] [.non,.non,.non,.non] [0,1,2,4,3,6,7] (by simp) (.cons .non (.cons .non (.cons .non (.cons .non .nil)))) (fun _ _ _ _ _ _ _ us ws its hu hw hi=>match us,ws,its,hu,hw,hi with |[_,_,_],[_],[_,_,_,_],_,_,_=>⟨_,rfl,rfl⟩)
def zgc:DF:=kwF 4 [.non,.non,.non,.non] [0,1,2,4,5,3,7] zze
theorem zyl (T:Tx K mg):FnK P w K mg base 5 (He.ma K (He.ga K "Program") "__init__") ["tag"] zgc:=by
 obtain⟨fd,Fn,Fg⟩:=zme (P:=P) (w:=w) (base:=base) T
 exact z94 Fn Fg 3 ["tag"] [.non,.non,.non,.non] [0,1,2,4,5,3,7] (by simp) (.cons .non (.cons .non (.cons .non (.cons .non .nil)))) (fun _ _ _ _ _ _ _ us ws its hu hw hi=>match us,ws,its,hu,hw,hi with |[_,_,_],[_],[_,_,_,_],_,_,_=>⟨_,rfl,rfl⟩)
abbrev z33:List Str:=["text", "block", "lines", "line"]
theorem zsq:FnScope z33 ["text"] (defScope zlh):=⟨rfl,rfl,rfl,by decide +kernel,rfl,by decide +kernel,by decide +kernel⟩
def zcj:DE:=(eLen [("Block",zn)] (aCons (eVar 3) aNil))
def zeu:DS:=
    (sSeq (sIf (bT (eIsi (isfT zue) (eVar 0))) (sAsg (eCm "Block" true z4h (eC (.cls "Block")) (aCons (eStr [("Block",zec)] (aCons (eVar 0) aNil)) aNil)) (gNm 1)) (sIf (bT (eIsi (isfT zde) (eVar 0))) (sAsg (eCm "Block" true z4h (eC (.cls "Block")) (aCons (eVar 0) aNil)) (gNm 1)) (zvf "BadLine" "value" 41 (eVar 0))))
    (sSeq (sAsg (eProp "Block" zqb (eVar 1)) (gNm 2))
    (sSeq (sIf ((bOr (bT (eOp gtD (eLen [("Block",zn)] (aCons (eVar 2) aNil)) (eC (.int 6)))) (bT (eOp gtD (eB maxLD (aCons (eLc (iSeq (eVar 2)) (gNm 3) bYes zcj [3]) aNil)) (eC (.int 60)))))) (zvf "BadLine" "value" 41 (eVar 0)) sNext)
    (sRet (eMkK "Program" 1 zoc (eC (.cls "Program")) (aCons (eC (.str "fixed")) (aCons (eTup (aNil)) aNil)) (aCons (eVar 1) aNil))))))
def z13:DF:=runF 4 zeu
def zlq:DF:=lenF 1 z13
theorem zpfb (T:Tx K mg):∃fd,FunD K "fixed" "fixed" (defArgs zlh) (defBody zlh) (defScope zlh) [] [] (He.ga K "fixed") fd∧FnG P w K mg base 7 (He.ga K "fixed") fd ["text"] (spD K 1 z13):=by
 obtain⟨fd,Fn⟩:=T.zwjb
 exact⟨fd,Fn,fn_D (N:=z33) (ps:=["text"]) (k:=6) (g:=zeu) Fn zsq (fun cdv A outer s H E hr=>by
  have tk:yk (cxOf (L2N.CX P w) P w K mg base z33 "fixed" (defScope zlh) (He.ga K "fixed") cdv A outer s H E) (fun c d _ H=>E c d H):=yi rfl rfl rfl rfl
  exact (zi (ds_if (zsd (zek (by rfl) T.zlb (ze (pv 0)) (pe_glob (v:=.ref (He.ga K "Block")) (by rfl) T.zth rfl) (.own (He.ga K "Block")) T.zue)) (zj (zmb (z1x (C:="Block") tk T.ztx T.zqk (z1n T) (rmo hr) (zqj (C:="Block") (by rfl) T.zth) (zb (zkdb (k:=1) (t:=[("Block",zec)]) tk (zny T (by decide)) (rmo hr) (by rfl) T.b_str (zb (ze (pv 0)) zg)) zg)) (dgn 1 zsq.nd))) (zj (ds_if (zsd (zek (by rfl) T.zlb (ze (pv 0)) (pe_bltn (v:=.ty "str") (by rfl) T.b_str (by decide +kernel) rfl) (.ty "str") T.zde)) (zj (zmb (z1x (C:="Block") tk T.ztx T.zqk (z1n T) (rmo hr) (zqj (C:="Block") (by rfl) T.zth) (zb (ze (pv 0)) zg)) (dgn 1 zsq.nd))) (zj (zwe rfl tk T.zgh (z9d T).choose_spec.1 (z9d T).choose_spec.2 (rmo hr) (by rfl) T.zbl (ze (pv 0)))))))
  (zi (zmb (zuv (C:="Block") T.z77 T.zsn (znm T) (rmo hr) (ze (pv 1))) (dgn 2 zsq.nd))
  (zi (ds_if (PW.pt (dw_or (zfb zpy (zag (k:=2) (t:=[("Block",zn)]) tk (zlf T (by decide)) (rmo hr) (by rfl) T.b_len (zb (ze (pv 2)) zg)) (zup (i:=6) (by rfl) T.z64) (nomark _) bl_gt) (ztw (zfb zpy (zjj (z67 rfl) (by rfl) T.b_max (by decide +kernel) (zb (de_lc (own:=[("line",3)]) rfl zsq.nd (z6f (ze (pv 2))) (blkOk_by (N:=z33) (sc:=defScope zlh) (own:=[("line",3)]) (by decide +kernel)) (fun _ _ _ _ _=>(dgn 3 zsq.nd)) (fun _ _ _ _ _=>zei) (fun _ _ _ _ _=>(zag (k:=2) (t:=[("Block",zn)]) zxj (zlf T (by decide)) (rmo hr) (by rfl) T.b_len (zb (ze (pv 3)) zg))) (by decide)) zg)) (zup (i:=60) (by rfl) T.z54) (nomark _) bl_gt)))) (zj (zwe rfl tk T.zgh (z9d T).choose_spec.1 (z9d T).choose_spec.2 (rmo hr) (by rfl) T.zbl (ze (pv 0)))) z0b)
  (zj (zq (zw5 (C:="Program") tk T.zoj (zlk T) (rmo hr) (zqj (C:="Program") (by rfl) T.zfh) (zb (zl) (zb (zwb (zg)) zg)) (zrv (ze (pv 1)) zq1))))))))⟩
theorem zh9 (T:Tx K mg):FnD P w K mg base 7 (He.ga K "fixed") zlq:=by
 obtain⟨fd,Fn,Fg⟩:=zpfb (P:=P) (w:=w) (base:=base) T
 exact z7 Fg (Fn.bindsN fun _ _ _ _ _ _ us hl=>match us,hl with |[_],_=>rfl)
abbrev za0:List Str:=["thing"]
theorem z79:FnScope za0 ["thing"] (defScope zaf):=⟨rfl,rfl,rfl,by decide +kernel,rfl,by decide +kernel,by decide +kernel⟩
def zps:DS:=
    (sRet ((eAnd (eIsi (isfT zde) (eVar 0)) (eAnd (eOp eqD (eLen [] (aCons (eVar 0) aNil)) (eC (.int 1))) (zqp leD leD (eC (.str "a")) (eVar 0) (eC (.str "z")))))))
def z3z:DF:=runF 1 zps
def zkq:DF:=lenF 1 z3z
theorem zjab (T:Tx K mg):∃fd,FunD K "is_name" "is_name" (defArgs zaf) (defBody zaf) (defScope zaf) [] [] (He.ga K "is_name") fd∧FnG P w K mg base 2 (He.ga K "is_name") fd ["thing"] (spD K 1 z3z):=by
 obtain⟨fd,Fn⟩:=T.zqdb
 exact⟨fd,Fn,fn_D (N:=za0) (ps:=["thing"]) (k:=1) (g:=zps) Fn z79 (fun cdv A outer s H E hr=>by
  have tk:yk (cxOf (L2N.CX P w) P w K mg base za0 "is_name" (defScope zaf) (He.ga K "is_name") cdv A outer s H E) (fun c d _ H=>E c d H):=yi rfl rfl rfl rfl
  exact (zj (zq ((zlz (zek (by rfl) T.zlb (ze (pv 0)) (pe_bltn (v:=.ty "str") (by rfl) T.b_str (by decide +kernel) rfl) (.ty "str") T.zde) (zlz (zx5 (zvc hr.units) (zag (k:=0) (t:=[]) tk (fun _ z=>nomatch z) (rmo hr) (by rfl) T.b_len (zb (ze (pv 0)) zg)) (zo) (nomark _)) (zs1 (zl3 z8o z8o bl_le (zl) (ze (pv 0)) (zl)))))))))⟩
theorem zm1 (T:Tx K mg):FnD P w K mg base 2 (He.ga K "is_name") zkq:=by
 obtain⟨fd,Fn,Fg⟩:=zjab (P:=P) (w:=w) (base:=base) T
 exact z7 Fg (Fn.bindsN fun _ _ _ _ _ _ us hl=>match us,hl with |[_],_=>rfl)
abbrev z6db:List Str:=["name"]
theorem zxhb:FnScope z6db ["name"] (defScope z2k):=⟨rfl,rfl,rfl,by decide +kernel,rfl,by decide +kernel,by decide +kernel⟩
def zi3:DS:=
    (sSeq (sIf (bNot (bT (eFn zkq (aCons (eVar 0) aNil)))) (zvf "BadName" "value" 12 (eVar 0)) sNext)
    (sRet (eMkK "Program" 1 zgb (eC (.cls "Program")) (aCons (eC (.str "hole")) (aCons (eTup (aNil)) aNil)) (aCons (eVar 0) aNil))))
def z4db:DF:=runF 1 zi3
def zw9:DF:=lenF 1 z4db
theorem zdjb (T:Tx K mg):∃fd,FunD K "hole" "hole" (defArgs z2k) (defBody z2k) (defScope z2k) [] [] (He.ga K "hole") fd∧FnG P w K mg base 7 (He.ga K "hole") fd ["name"] (spD K 1 z4db):=by
 obtain⟨fd,Fn⟩:=T.z9lb
 exact⟨fd,Fn,fn_D (N:=z6db) (ps:=["name"]) (k:=6) (g:=zi3) Fn zxhb (fun cdv A outer s H E hr=>by
  have tk:yk (cxOf (L2N.CX P w) P w K mg base z6db "hole" (defScope z2k) (He.ga K "hole") cdv A outer s H E) (fun c d _ H=>E c d H):=yi rfl rfl rfl rfl
  exact (zi (ds_if (zif (zsd (de_fn tk (zm1 T) (rmo hr) (by rfl) T.z14 T.zt4 (zb (ze (pv 0)) zg)))) (zj (zwe rfl tk T.zpp (z5q T).choose_spec.1 (z5q T).choose_spec.2 (rmo hr) (by rfl) T.z74 (ze (pv 0)))) z0b)
  (zj (zq (zw5 (C:="Program") tk T.zoj (zfg T) (rmo hr) (zqj (C:="Program") (by rfl) T.zfh) (zb (zl) (zb (zwb (zg)) zg)) (zrv (ze (pv 0)) zq1))))))⟩
theorem zfjb (T:Tx K mg):FnD P w K mg base 7 (He.ga K "hole") zw9:=by
 obtain⟨fd,Fn,Fg⟩:=zdjb (P:=P) (w:=w) (base:=base) T
 exact z7 Fg (Fn.bindsN fun _ _ _ _ _ _ us hl=>match us,hl with |[_],_=>rfl)
abbrev z3s:List Str:=["thing"]
theorem zd4:FnScope z3s ["thing"] (defScope z0d):=⟨rfl,rfl,rfl,by decide +kernel,rfl,by decide +kernel,by decide +kernel⟩
def z3n:DS:=
    (sSeq (sIf (bT (eIsi (isfT zue) (eVar 0))) (sRet (eB listD (aCons (eFld ["Block"] "rows" (eVar 0)) aNil))) sNext)
    (sRet (eB listD (aCons (eFld ["Block"] "rows" (eCm "Block" true z4h (eC (.cls "Block")) (aCons (eVar 0) aNil))) aNil))))
def z0s:DF:=runF 1 z3n
def z9i:DF:=lenF 1 z0s
theorem zc5 (T:Tx K mg):∃fd,FunD K "rows_from" "rows_from" (defArgs z0d) (defBody z0d) (defScope z0d) [] [] (He.ga K "rows_from") fd∧FnG P w K mg base 6 (He.ga K "rows_from") fd ["thing"] (spD K 1 z0s):=by
 obtain⟨fd,Fn⟩:=T.zv7
 exact⟨fd,Fn,fn_D (N:=z3s) (ps:=["thing"]) (k:=5) (g:=z3n) Fn zd4 (fun cdv A outer s H E hr=>by
  have tk:yk (cxOf (L2N.CX P w) P w K mg base z3s "rows_from" (defScope z0d) (He.ga K "rows_from") cdv A outer s H E) (fun c d _ H=>E c d H):=yi rfl rfl rfl rfl
  exact (zi (ds_if (zsd (zek (by rfl) T.zlb (ze (pv 0)) (pe_glob (v:=.ref (He.ga K "Block")) (by rfl) T.zth rfl) (.own (He.ga K "Block")) T.zue)) (zj (zq (zee zil (by rfl) T.z95 (by decide +kernel) (zb (zbd (Cs:=["Block"]) T.z4g (ze (pv 0))) zg)))) z0b)
  (zj (zq (zee zil (by rfl) T.z95 (by decide +kernel) (zb (zbd (Cs:=["Block"]) T.z4g (z1x (C:="Block") tk T.ztx T.zqk (z1n T) (rmo hr) (zqj (C:="Block") (by rfl) T.zth) (zb (ze (pv 0)) zg))) zg))))))⟩
theorem zhp (T:Tx K mg):FnD P w K mg base 6 (He.ga K "rows_from") z9i:=by
 obtain⟨fd,Fn,Fg⟩:=zc5 (P:=P) (w:=w) (base:=base) T
 exact z7 Fg (Fn.bindsN fun _ _ _ _ _ _ us hl=>match us,hl with |[_],_=>rfl)
abbrev zlg:List Str:=["self", "other", "rows"]
theorem zzj:FnScope zlg ["self", "other"] (defScope zrb):=⟨rfl,rfl,rfl,by decide +kernel,rfl,by decide +kernel,by decide +kernel⟩
def zmn:DS:=
    (sSeq (sIf (bNot (bT (eIsi (isfT znd) (eVar 1)))) (zj8) sNext)
    (sSeq (sAsg (eOp addD (eFldH ["Block"] "rows" (eVar 0)) (eFn z9i (aCons (eVar 1) aNil))) (gNm 2))
    (sRet (eMk "Block" zfc (eC (.cls "Block")) (zuo (eVar 2))))))
def zaq:DF:=runF 3 zmn
def zff:DF:=lenF 2 zaq
theorem zbx (T:Tx K mg):∃fd,FunD K "__add__" "Block.__add__" (defArgs zrb) (defBody zrb) (defScope zrb) [] [] (He.ma K (He.ga K "Block") "__add__") fd∧FnG P w K mg base 7 (He.ma K (He.ga K "Block") "__add__") fd ["self", "other"] (spD K 2 zaq):=by
 obtain⟨fd,Fn⟩:=T.zwp
 exact⟨fd,Fn,fn_D (N:=zlg) (ps:=["self", "other"]) (k:=6) (g:=zmn) Fn zzj (fun cdv A outer s H E hr=>by
  have tk:yk (cxOf (L2N.CX P w) P w K mg base zlg "Block.__add__" (defScope zrb) (He.ma K (He.ga K "Block") "__add__") cdv A outer s H E) (fun c d _ H=>E c d H):=yi rfl rfl rfl rfl
  exact (zi (ds_if (zif (zsd (zs7 (by rfl) T.zlb (ze (pv 1)) (pe_glob (v:=.ref (He.ga K "Block")) (by rfl) T.zth rfl) (pe_bltn (v:=.ty "str") (by rfl) T.b_str (by decide +kernel) rfl) (.own (He.ga K "Block")) (.ty "str") T.znd))) (zj (zg3)) z0b)
  (zi (zmb (de_op z0 (zts (Cs:=["Block"]) T.z4g (ze (pv 0))) (de_fn tk (zhp T) (rmo hr) (by rfl) T.zfs T.zbs (zb (ze (pv 1)) zg))) (dgn 2 zzj.nd))
  (zj (zq (zt1 (C:="Block") tk T.zas (zie T) (rmo hr) (zqj (C:="Block") (by rfl) T.zth) (ze (pv 2))))))))⟩
theorem z1j (T:Tx K mg):FnD P w K mg base 7 (He.ma K (He.ga K "Block") "__add__") zff:=by
 obtain⟨fd,Fn,Fg⟩:=zbx (P:=P) (w:=w) (base:=base) T
 exact z7 Fg (Fn.bindsN fun _ _ _ _ _ _ us hl=>match us,hl with |[_,_],_=>rfl)
def zyf:DF:=noF 2 3 ((bNot (bT (eIsi (isfT znd) (eVar 1)))))
theorem zkv (T:Tx K mg):FnNo P w K mg base 7 (He.ma K (He.ga K "Block") "__add__") zyf:=by
 obtain⟨fd,Fn⟩:=T.zwp
 exact fn_No (N:=zlg) (ps:=["self", "other"]) (k:=6) Fn zzj (Fn.bindsN fun _ _ _ _ _ _ us hl=>match us,hl with |[_,_],_=>rfl) (fun cdv A outer s H E hr=>by
  have tk:yk (cxOf (L2N.CX P w) P w K mg base zlg "Block.__add__" (defScope zrb) (He.ma K (He.ga K "Block") "__add__") cdv A outer s H E) (fun c d _ H=>E c d H):=yi rfl rfl rfl rfl
  exact zukb ((zif (zsd (zs7 (by rfl) T.zlb (ze (pv 1)) (pe_glob (v:=.ref (He.ga K "Block")) (by rfl) T.zth rfl) (pe_bltn (v:=.ty "str") (by rfl) T.b_str (by decide +kernel) rfl) (.own (He.ga K "Block")) (.ty "str") T.znd)))) (by rfl) T.zpx)
abbrev z7s:List Str:=["program", "parts", "member"]
theorem z0l:FnScope z7s ["program"] (defScope zgf):=⟨rfl,rfl,rfl,by decide +kernel,rfl,by decide +kernel,by decide +kernel⟩
def zwk (zne:DF):DS:=(sAsg (eOp addD (eVar 1) (eFn zne (aCons (eVar 2) aNil))) (gNm 1))
def z6n (zne:DF):DS:=
    (sSeq (sAsg (eLst (aCons (eVar 0) aNil)) (gNm 1))
    (sSeq (sFor (iSeq (eFld ["Program"] "members" (eVar 0))) (gNm 2) (zwk zne))
    (sRet (eVar 1))))
def zqg:Nat→DF
 | 0=>fun _ _=>.no
 |n+1=>lenF 1 (runF 3 (z6n (zqg n)))
theorem z2t (T:Tx K mg):∀n:Nat,FnD P w K mg base (2+3*n) (He.ga K "all_parts") (zqg n)
 | 0=>zc9
 |n+1=>by
  have ih:=z2t T n
  obtain⟨fd,Fn⟩:=T.z17
  exact z7 (fn_D (N:=z7s) (ps:=["program"]) (k:=2+3*n+2) (g:=z6n (zqg n)) Fn z0l (fun cdv A outer s H E hr=>by
  have tk:yk (cxOf (L2N.CX P w) P w K mg base z7s "all_parts" (defScope zgf) (He.ga K "all_parts") cdv A outer s H E) (fun c d _ H=>E c d H):=yi rfl rfl rfl rfl
  exact (zi (zmb (zzi (zb (ze (pv 0)) zg)) (dgn 1 z0l.nd))
  (zi (zrr (passes_of rfl) rfl (z6f (zbd (Cs:=["Program"]) T.zfl (ze (pv 0)))) (dgn 2 z0l.nd) (zj (zmb (de_op z0 (ze (pv 1)) (de_fn tk ih (hr.mono (by omega)) (by rfl) T.zal T.z9k (zb (ze (pv 2)) zg))) (dgn 1 z0l.nd))))
  (zj (zq (ze (pv 1)))))))) (Fn.bindsN fun _ _ _ _ _ _ us hl=>match us,hl with |[_],_=>rfl)
def zne:DF:=zqg 24
theorem z4l (T:Tx K mg):FnD P w K mg base 74 (He.ga K "all_parts") zne:=(z2t (P:=P) (w:=w) (base:=base) T 24)
abbrev zeo:List Str:=["program", "part"]
theorem z0o:FnScope zeo ["program"] (defScope zpd):=⟨rfl,rfl,rfl,by decide +kernel,rfl,by decide +kernel,by decide +kernel⟩
def z5m:DT:=(bT (eOp eqD (eFld ["Program"] "word" (eVar 1)) (eC (.str "hole"))))
def z7m:DE:=(eFld ["Program"] "name" (eVar 1))
def z4n:DS:=
    (sRet (eLc (iSeq (eFn zne (aCons (eVar 0) aNil))) (gNm 1) z5m z7m [1]))
def z1s:DF:=runF 2 z4n
def zvl:DF:=lenF 1 z1s
theorem zd5 (T:Tx K mg):∃fd,FunD K "name_list" "name_list" (defArgs zpd) (defBody zpd) (defScope zpd) [] [] (He.ga K "name_list") fd∧FnG P w K mg base 75 (He.ga K "name_list") fd ["program"] (spD K 1 z1s):=by
 obtain⟨fd,Fn⟩:=T.zw7
 exact⟨fd,Fn,fn_D (N:=zeo) (ps:=["program"]) (k:=74) (g:=z4n) Fn z0o (fun cdv A outer s H E hr=>by
  have tk:yk (cxOf (L2N.CX P w) P w K mg base zeo "name_list" (defScope zpd) (He.ga K "name_list") cdv A outer s H E) (fun c d _ H=>E c d H):=yi rfl rfl rfl rfl
  exact (zj (zq (de_lc (own:=[("part",1)]) rfl z0o.nd (z6f (de_fn tk (z4l T) (rmo hr) (by rfl) T.zal T.z9k (zb (ze (pv 0)) zg))) (blkOk_by (N:=zeo) (sc:=defScope zpd) (own:=[("part",1)]) (by decide +kernel)) (fun _ _ _ _ _=>(dgn 1 z0o.nd)) (fun _ _ _ _ _=>zrp (zfb (zvc hr.units) (zbd (Cs:=["Program"]) T.z5t (ze (pv 1))) (zl) (nomark _) bl_eq)) (fun _ _ _ _ _=>(zbd (Cs:=["Program"]) T.zq5 (ze (pv 1)))) (by decide)))))⟩
theorem zqw (T:Tx K mg):FnD P w K mg base 75 (He.ga K "name_list") zvl:=by
 obtain⟨fd,Fn,Fg⟩:=zd5 (P:=P) (w:=w) (base:=base) T
 exact z7 Fg (Fn.bindsN fun _ _ _ _ _ _ us hl=>match us,hl with |[_],_=>rfl)
abbrev zco:List Str:=["program", "part"]
theorem zzo:FnScope zco ["program"] (defScope zod):=⟨rfl,rfl,rfl,by decide +kernel,rfl,by decide +kernel,by decide +kernel⟩
def z4m:DT:=(bT (eOp inTD (eFld ["Program"] "word" (eVar 1)) (eTup (aCons (eC (.str "hole")) (aCons (eC (.str "each")) aNil)))))
def z6m:DE:=(eVar 1)
def z2n:DS:=
    (sRet (eLen [] (aCons (eLc (iSeq (eFn zne (aCons (eVar 0) aNil))) (gNm 1) z4m z6m [1]) aNil)))
def zzs:DF:=runF 2 z2n
def zko:DF:=lenF 1 zzs
theorem zb5 (T:Tx K mg):∃fd,FunD K "weight_of" "weight_of" (defArgs zod) (defBody zod) (defScope zod) [] [] (He.ga K "weight_of") fd∧FnG P w K mg base 75 (He.ga K "weight_of") fd ["program"] (spD K 1 zzs):=by
 obtain⟨fd,Fn⟩:=T.zu7
 exact⟨fd,Fn,fn_D (N:=zco) (ps:=["program"]) (k:=74) (g:=z2n) Fn zzo (fun cdv A outer s H E hr=>by
  have tk:yk (cxOf (L2N.CX P w) P w K mg base zco "weight_of" (defScope zod) (He.ga K "weight_of") cdv A outer s H E) (fun c d _ H=>E c d H):=yi rfl rfl rfl rfl
  exact (zj (zq (zag (k:=0) (t:=[]) tk (fun _ z=>nomatch z) (rmo hr) (by rfl) T.b_len (zb (de_lc (own:=[("part",1)]) rfl zzo.nd (z6f (de_fn tk (z4l T) (rmo hr) (by rfl) T.zal T.z9k (zb (ze (pv 0)) zg))) (blkOk_by (N:=zco) (sc:=defScope zod) (own:=[("part",1)]) (by decide +kernel)) (fun _ _ _ _ _=>(dgn 1 zzo.nd)) (fun _ _ _ _ _=>zrp (zfb zuq (zbd (Cs:=["Program"]) T.z5t (ze (pv 1))) (zwb (zb (zl) (zb (zl) zg))) (by rfl) zv1)) (fun _ _ _ _ _=>(ze (pv 1))) (by decide)) zg)))))⟩
theorem zl5 (T:Tx K mg):FnD P w K mg base 75 (He.ga K "weight_of") zko:=by
 obtain⟨fd,Fn,Fg⟩:=zb5 (P:=P) (w:=w) (base:=base) T
 exact z7 Fg (Fn.bindsN fun _ _ _ _ _ _ us hl=>match us,hl with |[_],_=>rfl)
abbrev zvu:List Str:=["program", "names", "doubles", "at", "name"]
theorem zan:FnScope zvu ["program"] (defScope zoe):=⟨rfl,rfl,rfl,by decide +kernel,rfl,by decide +kernel,by decide +kernel⟩
def zwj:DT:=((bAnd (bT (eOp gtD (eVar 3) (eC (.int 0)))) (bT (eOp eqD (eIx [] (eVar 1) (eOp subD (eVar 3) (eC (.int 1)))) (eVar 4)))))
def zmq:DE:=(eVar 4)
def zrs:DS:=
    (sSeq (sAsg (eB zcy (aCons (eFn zvl (aCons (eVar 0) aNil)) aNil)) (gNm 1))
    (sSeq (sAsg (eLc (iEnu (aCons (eVar 1) aNil)) (gTp 2 (zve (gNm 3) (zve (gNm 4) gNil_))) zwj zmq [3,4]) (gNm 2))
    (sSeq (sIf (bT (eVar 2)) (zvf "Twice" "name" 26 (eIx [] (eVar 2) (eC (.int 0)))) sNext)
    (sSeq (sIf (bT (eOp gtD (eFn zko (aCons (eVar 0) aNil)) (eC (.int 3)))) (zvf "TooMany" "limit" 19 (eC (.int 3))) sNext)
    (sSeq (sIf (bT (eOp gtD (eFld ["Program"] "size" (eVar 0)) (eC (.int 16)))) (zvf "TooMany" "limit" 19 (eC (.int 16))) sNext)
    (sRet (eVar 0)))))))
def z6z:DF:=runF 5 zrs
def zqi:DF:=lenF 1 z6z
theorem zlab (T:Tx K mg):∃fd,FunD K "checked" "checked" (defArgs zoe) (defBody zoe) (defScope zoe) [] [] (He.ga K "checked") fd∧FnG P w K mg base 76 (He.ga K "checked") fd ["program"] (spD K 1 z6z):=by
 obtain⟨fd,Fn⟩:=T.zsdb
 exact⟨fd,Fn,fn_D (N:=zvu) (ps:=["program"]) (k:=75) (g:=zrs) Fn zan (fun cdv A outer s H E hr=>by
  have tk:yk (cxOf (L2N.CX P w) P w K mg base zvu "checked" (defScope zoe) (He.ga K "checked") cdv A outer s H E) (fun c d _ H=>E c d H):=yi rfl rfl rfl rfl
  exact (zi (zmb (zjj zw3 (by rfl) T.z9fb (by decide +kernel) (zb (de_fn tk (zqw T) (rmo hr) (by rfl) T.z5y T.zxy (zb (ze (pv 0)) zg)) zg)) (zq7 (pg_name (i:=1) zan.nd rfl (Or.inr rfl))))
  (zi (zbu (i:=2) (own:=[("at",3),("name",4)]) rfl zan.nd rfl rfl (sw_true rfl rfl rfl (by decide +kernel)) (zhdb (by rfl) T.zyz (zb (ze (pv 1)) zg)) (blkOk_by (N:=zvu) (sc:=defScope zoe) (own:=[("at",3),("name",4)]) (by decide +kernel)) (fun _ _ _ _ _=>(zr1 rfl (z7f (dgn 3 zan.nd) (z7f (dgn 4 zan.nd) zsv)))) (fun _ _ _ _ _=>zrp (PW.pt (zcdb (zfb zpy (ze (pv 3)) (zo) (nomark _) bl_gt) (zl7 (zfb (zvc hr.units) (de_ix (k:=0) (t:=[]) zxj (fun _ z=>nomatch z) (rmo hr) (ze (pv 1)) (de_op zux (ze (pv 3)) (zo)) (fun _ _=>rfl) (fun _ _=>by with_unfolding_all rfl)) (ze (pv 4)) (nomark _) bl_eq))))) (fun _ _ _ _ _=>(ze (pv 4))) (by decide))
  (zi (ds_if (zsd (ze (pv 2))) (zj (zwe rfl tk T.zf3 (zj9 T).choose_spec.1 (zj9 T).choose_spec.2 (rmo hr) (by rfl) T.zbjb (de_ix (k:=0) (t:=[]) tk (fun _ z=>nomatch z) (rmo hr) (ze (pv 2)) (zo) (fun _ _=>rfl) (fun _ _=>by with_unfolding_all rfl)))) z0b)
  (zi (ds_if (zfb zpy (de_fn tk (zl5 T) (rmo hr) (by rfl) T.z96 T.z26 (zb (ze (pv 0)) zg)) (zup (i:=3) (by rfl) T.zxt) (nomark _) bl_gt) (zj (zsp ze3 rfl tk T.zop (z4q T).choose_spec.1 (z4q T).choose_spec.2 (rmo hr) (by rfl) T.z44 (zup (i:=3) (by rfl) T.zxt))) z0b)
  (zi (ds_if (zfb zpy (zbd (Cs:=["Program"]) T.zi9 (ze (pv 0))) (zup (i:=16) (by rfl) T.zpw) (nomark _) bl_gt) (zj (zsp ze3 rfl tk T.zop (z4q T).choose_spec.1 (z4q T).choose_spec.2 (rmo hr) (by rfl) T.z44 (zup (i:=16) (by rfl) T.zpw))) z0b)
  (zj (zq (ze (pv 0))))))))))⟩
theorem zyk (T:Tx K mg):FnD P w K mg base 76 (He.ga K "checked") zqi:=by
 obtain⟨fd,Fn,Fg⟩:=zlab (P:=P) (w:=w) (base:=base) T
 exact z7 Fg (Fn.bindsN fun _ _ _ _ _ _ us hl=>match us,hl with |[_],_=>rfl)
abbrev zdo:List Str:=["program"]
theorem zf0:FnScope zdo ["program"] (defScope zzc):=⟨rfl,rfl,rfl,by decide +kernel,rfl,by decide +kernel,by decide +kernel⟩
def zfi:DS:=
    (sSeq (sIf (bT (eOp eqD (eFld ["Program"] "word" (eVar 0)) (eC (.str "sum")))) (sRet (eFld ["Program"] "members" (eVar 0))) sNext)
    (sRet (eTup (aCons (eVar 0) aNil))))
def zrk:DF:=runF 1 zfi
def z1g:DF:=lenF 1 zrk
theorem zl0 (T:Tx K mg):∃fd,FunD K "sum_members" "sum_members" (defArgs zzc) (defBody zzc) (defScope zzc) [] [] (He.ga K "sum_members") fd∧FnG P w K mg base 1 (He.ga K "sum_members") fd ["program"] (spD K 1 zrk):=by
 obtain⟨fd,Fn⟩:=T.zn3
 exact⟨fd,Fn,fn_D (N:=zdo) (ps:=["program"]) (k:=0) (g:=zfi) Fn zf0 (fun cdv A outer s H E hr=>by
  have tk:yk (cxOf (L2N.CX P w) P w K mg base zdo "sum_members" (defScope zzc) (He.ga K "sum_members") cdv A outer s H E) (fun c d _ H=>E c d H):=yi rfl rfl rfl rfl
  exact (zi (ds_if (zfb (zvc hr.units) (zbd (Cs:=["Program"]) T.z5t (ze (pv 0))) (zl) (nomark _) bl_eq) (zj (zq (zbd (Cs:=["Program"]) T.zfl (ze (pv 0))))) z0b)
  (zj (zq (zwb (zb (ze (pv 0)) zg))))))⟩
theorem zqr (T:Tx K mg):FnD P w K mg base 1 (He.ga K "sum_members") z1g:=by
 obtain⟨fd,Fn,Fg⟩:=zl0 (P:=P) (w:=w) (base:=base) T
 exact z7 Fg (Fn.bindsN fun _ _ _ _ _ _ us hl=>match us,hl with |[_],_=>rfl)
abbrev z23:List Str:=["one", "other"]
theorem zbbb:FnScope z23 ["one", "other"] (defScope zdg):=⟨rfl,rfl,rfl,by decide +kernel,rfl,by decide +kernel,by decide +kernel⟩
def ztv:DS:=
    (sRet (eFn zqi (aCons (eMk "Program" z8 (eC (.cls "Program")) (aCons (eC (.str "sum")) (aCons (eOp addD (eFn z1g (aCons (eVar 0) aNil)) (eFn z1g (aCons (eVar 1) aNil))) aNil))) aNil)))
def z03:DF:=runF 2 ztv
def zwu:DF:=lenF 2 z03
theorem z4cb (T:Tx K mg):∃fd,FunD K "summed" "summed" (defArgs zdg) (defBody zdg) (defScope zdg) [] [] (He.ga K "summed") fd∧FnG P w K mg base 77 (He.ga K "summed") fd ["one", "other"] (spD K 2 z03):=by
 obtain⟨fd,Fn⟩:=T.z1fb
 exact⟨fd,Fn,fn_D (N:=z23) (ps:=["one", "other"]) (k:=76) (g:=ztv) Fn zbbb (fun cdv A outer s H E hr=>by
  have tk:yk (cxOf (L2N.CX P w) P w K mg base z23 "summed" (defScope zdg) (He.ga K "summed") cdv A outer s H E) (fun c d _ H=>E c d H):=yi rfl rfl rfl rfl
  exact (zj (zq (de_fn tk (zyk T) (rmo hr) (by rfl) T.zhn T.zgn (zb (de_mk (C:="Program") tk T.zoj (FnK.pos (z1f T)) (rmo hr) (zqj (C:="Program") (by rfl) T.zfh) (zb (zl) (zb (de_op z0 (de_fn tk (zqr T) (rmo hr) (by rfl) T.zut T.zpt (zb (ze (pv 0)) zg)) (de_fn tk (zqr T) (rmo hr) (by rfl) T.zut T.zpt (zb (ze (pv 1)) zg))) zg))) zg)))))⟩
theorem zm5 (T:Tx K mg):FnD P w K mg base 77 (He.ga K "summed") zwu:=by
 obtain⟨fd,Fn,Fg⟩:=z4cb (P:=P) (w:=w) (base:=base) T
 exact z7 Fg (Fn.bindsN fun _ _ _ _ _ _ us hl=>match us,hl with |[_,_],_=>rfl)
abbrev zym:List Str:=["thing"]
theorem zdy:FnScope zym ["thing"] (defScope zic):=⟨rfl,rfl,rfl,by decide +kernel,rfl,by decide +kernel,by decide +kernel⟩
def zwf:DS:=
    (sSeq (sIf (bT (eIsi (isfT zwd) (eVar 0))) (sRet (eVar 0)) sNext)
    (sRet (eFn zlq (aCons (eVar 0) aNil))))
def zih:DF:=runF 1 zwf
def zsc:DF:=lenF 1 zih
theorem z9y (T:Tx K mg):∃fd,FunD K "program_from" "program_from" (defArgs zic) (defBody zic) (defScope zic) [] [] (He.ga K "program_from") fd∧FnG P w K mg base 8 (He.ga K "program_from") fd ["thing"] (spD K 1 zih):=by
 obtain⟨fd,Fn⟩:=T.zv0
 exact⟨fd,Fn,fn_D (N:=zym) (ps:=["thing"]) (k:=7) (g:=zwf) Fn zdy (fun cdv A outer s H E hr=>by
  have tk:yk (cxOf (L2N.CX P w) P w K mg base zym "program_from" (defScope zic) (He.ga K "program_from") cdv A outer s H E) (fun c d _ H=>E c d H):=yi rfl rfl rfl rfl
  exact (zi (ds_if (zsd (zek (by rfl) T.zlb (ze (pv 0)) (pe_glob (v:=.ref (He.ga K "Program")) (by rfl) T.zfh rfl) (.own (He.ga K "Program")) T.zwd)) (zj (zq (ze (pv 0)))) z0b)
  (zj (zq (de_fn tk (zh9 T) (rmo hr) (by rfl) T.zwcb T.zocb (zb (ze (pv 0)) zg))))))⟩
theorem zjp (T:Tx K mg):FnD P w K mg base 8 (He.ga K "program_from") zsc:=by
 obtain⟨fd,Fn,Fg⟩:=z9y (P:=P) (w:=w) (base:=base) T
 exact z7 Fg (Fn.bindsN fun _ _ _ _ _ _ us hl=>match us,hl with |[_],_=>rfl)
abbrev z8i:List Str:=["self", "other"]
theorem zft:FnScope z8i ["self", "other"] (defScope zkb):=⟨rfl,rfl,rfl,by decide +kernel,rfl,by decide +kernel,by decide +kernel⟩
def zof:DS:=
    (sRet (eFn zwu (aCons (eVar 0) (aCons (eFn zsc (aCons (eVar 1) aNil)) aNil))))
def zzg:DF:=runF 2 zof
def zt:DF:=lenF 2 zzg
theorem z1t (T:Tx K mg):∃fd,FunD K "__add__" "Program.__add__" (defArgs zkb) (defBody zkb) (defScope zkb) [] [] (He.ma K (He.ga K "Program") "__add__") fd∧FnG P w K mg base 78 (He.ma K (He.ga K "Program") "__add__") fd ["self", "other"] (spD K 2 zzg):=by
 obtain⟨fd,Fn⟩:=T.zxv
 exact⟨fd,Fn,fn_D (N:=z8i) (ps:=["self", "other"]) (k:=77) (g:=zof) Fn zft (fun cdv A outer s H E hr=>by
  have tk:yk (cxOf (L2N.CX P w) P w K mg base z8i "Program.__add__" (defScope zkb) (He.ma K (He.ga K "Program") "__add__") cdv A outer s H E) (fun c d _ H=>E c d H):=yi rfl rfl rfl rfl
  exact (zj (zq (de_fn tk (zm5 T) (rmo hr) (by rfl) T.z78 T.z28 (zb (ze (pv 0)) (zb (de_fn tk (zjp T) (rmo hr) (by rfl) T.zor T.zmr (zb (ze (pv 1)) zg)) zg))))))⟩
theorem zdi (T:Tx K mg):FnD P w K mg base 78 (He.ma K (He.ga K "Program") "__add__") zt:=by
 obtain⟨fd,Fn,Fg⟩:=z1t (P:=P) (w:=w) (base:=base) T
 exact z7 Fg (Fn.bindsN fun _ _ _ _ _ _ us hl=>match us,hl with |[_,_],_=>rfl)
theorem zsj (T:Tx K mg) {k:Nat} (hk:78≤k):∀q∈([("Block",zff),("Program",zt)]:Tbl),BopM P w K mg base k .Add bopTs q.1 q.2:=
 (zcd (zur T.zmh ((z1j T).mono (yy (by decide) hk))) (zcd (zur T.zki ((zdi T).mono (yy (by decide) hk))) zrh))
abbrev z6s:List Str:=["thing"]
theorem zf4:FnScope z6s ["thing"] (defScope z3d):=⟨rfl,rfl,rfl,by decide +kernel,rfl,by decide +kernel,by decide +kernel⟩
def znk:DS:=
    (sRet (eFn zaj (aCons (eVar 0) (aCons (eOp addD (eC (.int 20)) (eC (.int 1))) aNil))))
def z9n:DF:=runF 1 znk
def z6e:DF:=lenF 1 z9n
theorem zg5 (T:Tx K mg):∃fd,FunD K "is_amount" "is_amount" (defArgs z3d) (defBody z3d) (defScope z3d) [] [] (He.ga K "is_amount") fd∧FnG P w K mg base 3 (He.ga K "is_amount") fd ["thing"] (spD K 1 z9n):=by
 obtain⟨fd,Fn⟩:=T.zz7
 exact⟨fd,Fn,fn_D (N:=z6s) (ps:=["thing"]) (k:=2) (g:=znk) Fn zf4 (fun cdv A outer s H E hr=>by
  have tk:yk (cxOf (L2N.CX P w) P w K mg base z6s "is_amount" (defScope z3d) (He.ga K "is_amount") cdv A outer s H E) (fun c d _ H=>E c d H):=yi rfl rfl rfl rfl
  exact (zj (zq (de_fn tk (zls T) (rmo hr) (by rfl) T.zgv T.zav (zb (ze (pv 0)) (zb (de_op z0 (zup (i:=20) (by rfl) T.zu2) (zo)) zg))))))⟩
theorem z3l (T:Tx K mg):FnD P w K mg base 3 (He.ga K "is_amount") z6e:=by
 obtain⟨fd,Fn,Fg⟩:=zg5 (P:=P) (w:=w) (base:=base) T
 exact z7 Fg (Fn.bindsN fun _ _ _ _ _ _ us hl=>match us,hl with |[_],_=>rfl)
abbrev zzm:List Str:=["line", "n"]
theorem zey:FnScope zzm ["line", "n"] (defScope zjc):=⟨rfl,rfl,rfl,by decide +kernel,rfl,by decide +kernel,by decide +kernel⟩
def zxf:DS:=
    (sSeq (sIf (bT (eOp eqD (eVar 0) (eC (.str "")))) (sRet (eVar 0)) sNext)
    (sSeq (sIf (bT (eOp geD (eVar 1) (eC (.int 0)))) (sRet (eOp addD (eOp mulD (eC (.str " ")) (eVar 1)) (eVar 0))) sNext)
    (sRet (eSl (eVar 0) (oSome (eUn negD (eVar 1))) (oNone)))))
def zjh:DF:=runF 2 zxf
def zzd:DF:=lenF 2 zjh
theorem zaz (T:Tx K mg):∃fd,FunD K "moved" "moved" (defArgs zjc) (defBody zjc) (defScope zjc) [] [] (He.ga K "moved_blocks") fd∧FnG P w K mg base 1 (He.ga K "moved_blocks") fd ["line", "n"] (spD K 2 zjh):=by
 obtain⟨fd,Fn⟩:=T.zw0
 exact⟨fd,Fn,fn_D (N:=zzm) (ps:=["line", "n"]) (k:=0) (g:=zxf) Fn zey (fun cdv A outer s H E hr=>by
  have tk:yk (cxOf (L2N.CX P w) P w K mg base zzm "moved" (defScope zjc) (He.ga K "moved_blocks") cdv A outer s H E) (fun c d _ H=>E c d H):=yi rfl rfl rfl rfl
  exact (zi (ds_if (zfb (zvc hr.units) (ze (pv 0)) (zl) (nomark _) bl_eq) (zj (zq (ze (pv 0)))) z0b)
  (zi (ds_if (zfb z2bb (ze (pv 1)) (zo) (nomark _) bl_ge) (zj (zq (de_op z0 (de_op zjk (zl) (ze (pv 1))) (ze (pv 0))))) z0b)
  (zj (zq (de_sl (ze (pv 0)) (zo7 (de_un zbt (ze (pv 1)))) (zp7)))))))⟩
theorem zci (T:Tx K mg):FnD P w K mg base 1 (He.ga K "moved_blocks") zzd:=by
 obtain⟨fd,Fn,Fg⟩:=zaz (P:=P) (w:=w) (base:=base) T
 exact z7 Fg (Fn.bindsN fun _ _ _ _ _ _ us hl=>match us,hl with |[_,_],_=>rfl)
abbrev zbg:List Str:=["self", "n", "rows", "line"]
theorem zsh:FnScope zbg ["self", "n"] (defScope zz):=⟨rfl,rfl,rfl,by decide +kernel,rfl,by decide +kernel,by decide +kernel⟩
def znq:DE:=(eFn zzd (aCons (eVar 3) (aCons (eVar 1) aNil)))
def zck:DS:=
    (sSeq (sIf (bNot (bT (eFn z6e (aCons (eVar 1) aNil)))) (zvf "BadAmount" "value" 15 (eVar 1)) sNext)
    (sSeq (sAsg (eLc (iSeq (eFld ["Block"] "rows" (eVar 0))) (gNm 3) bYes znq [3]) (gNm 2))
    (sRet (eMk "Block" zfc (eC (.cls "Block")) (zuo (eVar 2))))))
def zam:DF:=runF 4 zck
def z0e:DF:=lenF 2 zam
theorem zjs (T:Tx K mg):∃fd,FunD K "__rshift__" "Block.__rshift__" (defArgs zz) (defBody zz) (defScope zz) [] [] (He.ma K (He.ga K "Block") "__rshift__") fd∧FnG P w K mg base 5 (He.ma K (He.ga K "Block") "__rshift__") fd ["self", "n"] (spD K 2 zam):=by
 obtain⟨fd,Fn⟩:=T.zku
 exact⟨fd,Fn,fn_D (N:=zbg) (ps:=["self", "n"]) (k:=4) (g:=zck) Fn zsh (fun cdv A outer s H E hr=>by
  have tk:yk (cxOf (L2N.CX P w) P w K mg base zbg "Block.__rshift__" (defScope zz) (He.ma K (He.ga K "Block") "__rshift__") cdv A outer s H E) (fun c d _ H=>E c d H):=yi rfl rfl rfl rfl
  exact (zi (ds_if (zif (zsd (de_fn tk (z3l T) (rmo hr) (by rfl) T.zxn T.zvn (zb (ze (pv 1)) zg)))) (zj (zwe rfl tk T.zuh (zhf T).choose_spec.1 (zhf T).choose_spec.2 (rmo hr) (by rfl) T.zyn (ze (pv 1)))) z0b)
  (zi (zbu (i:=2) (own:=[("line",3)]) rfl zsh.nd rfl rfl (sw_true rfl rfl rfl (by decide +kernel)) (z6f (zbd (Cs:=["Block"]) T.z4g (ze (pv 0)))) (blkOk_by (N:=zbg) (sc:=defScope zz) (own:=[("line",3)]) (by decide +kernel)) (fun _ _ _ _ _=>(dgn 3 zsh.nd)) (fun _ _ _ _ _=>zei) (fun _ _ _ _ _=>(de_fn zxj (zci T) (rmo hr) (by rfl) T.zgj T.zfj (zb (ze (pv 3)) (zb (ze (pv 1)) zg)))) (by decide))
  (zj (zq (zt1 (C:="Block") tk T.zas (zie T) (rmo hr) (zqj (C:="Block") (by rfl) T.zth) (ze (pv 2))))))))⟩
theorem zms (T:Tx K mg):FnD P w K mg base 5 (He.ma K (He.ga K "Block") "__rshift__") z0e:=by
 obtain⟨fd,Fn,Fg⟩:=zjs (P:=P) (w:=w) (base:=base) T
 exact z7 Fg (Fn.bindsN fun _ _ _ _ _ _ us hl=>match us,hl with |[_,_],_=>rfl)
abbrev z9z:List Str:=["program", "word", "n"]
theorem z69:FnScope z9z ["program", "word", "n"] (defScope z9e):=⟨rfl,rfl,rfl,by decide +kernel,rfl,by decide +kernel,by decide +kernel⟩
def zos:DS:=
    (sSeq (sIf (bNot (bT (eFn z6e (aCons (eVar 2) aNil)))) (zvf "BadAmount" "value" 15 (eVar 2)) sNext)
    (sRet (eFn zqi (aCons (eMkK "Program" 1 zad (eC (.cls "Program")) (aCons (eVar 1) (aCons (eTup (aCons (eVar 0) aNil)) aNil)) (aCons (eVar 2) aNil)) aNil))))
def z2z:DF:=runF 3 zos
def zmg:DF:=lenF 3 z2z
theorem ziab (T:Tx K mg):∃fd,FunD K "shifted" "shifted" (defArgs z9e) (defBody z9e) (defScope z9e) [] [] (He.ga K "shifted") fd∧FnG P w K mg base 77 (He.ga K "shifted") fd ["program", "word", "n"] (spD K 3 z2z):=by
 obtain⟨fd,Fn⟩:=T.zpdb
 exact⟨fd,Fn,fn_D (N:=z9z) (ps:=["program", "word", "n"]) (k:=76) (g:=zos) Fn z69 (fun cdv A outer s H E hr=>by
  have tk:yk (cxOf (L2N.CX P w) P w K mg base z9z "shifted" (defScope z9e) (He.ga K "shifted") cdv A outer s H E) (fun c d _ H=>E c d H):=yi rfl rfl rfl rfl
  exact (zi (ds_if (zif (zsd (de_fn tk (z3l T) (rmo hr) (by rfl) T.zxn T.zvn (zb (ze (pv 2)) zg)))) (zj (zwe rfl tk T.zuh (zhf T).choose_spec.1 (zhf T).choose_spec.2 (rmo hr) (by rfl) T.zyn (ze (pv 2)))) z0b)
  (zj (zq (de_fn tk (zyk T) (rmo hr) (by rfl) T.zhn T.zgn (zb (zw5 (C:="Program") tk T.zoj (z0j T) (rmo hr) (zqj (C:="Program") (by rfl) T.zfh) (zb (ze (pv 1)) (zb (zwb (zb (ze (pv 0)) zg)) zg)) (zrv (ze (pv 2)) zq1)) zg))))))⟩
theorem z2q (T:Tx K mg):FnD P w K mg base 77 (He.ga K "shifted") zmg:=by
 obtain⟨fd,Fn,Fg⟩:=ziab (P:=P) (w:=w) (base:=base) T
 exact z7 Fg (Fn.bindsN fun _ _ _ _ _ _ us hl=>match us,hl with |[_,_,_],_=>rfl)
abbrev zah:List Str:=["self", "n"]
theorem z1o:FnScope zah ["self", "n"] (defScope zx):=⟨rfl,rfl,rfl,by decide +kernel,rfl,by decide +kernel,by decide +kernel⟩
def z2f:DS:=
    (sRet (eFn zmg (aCons (eVar 0) (aCons (eC (.str "in")) (aCons (eVar 1) aNil)))))
def z8g:DF:=runF 2 z2f
def zwc:DF:=lenF 2 z8g
theorem zfp (T:Tx K mg):∃fd,FunD K "__rshift__" "Program.__rshift__" (defArgs zx) (defBody zx) (defScope zx) [] [] (He.ma K (He.ga K "Program") "__rshift__") fd∧FnG P w K mg base 78 (He.ma K (He.ga K "Program") "__rshift__") fd ["self", "n"] (spD K 2 z8g):=by
 obtain⟨fd,Fn⟩:=T.zgr
 exact⟨fd,Fn,fn_D (N:=zah) (ps:=["self", "n"]) (k:=77) (g:=z2f) Fn z1o (fun cdv A outer s H E hr=>by
  have tk:yk (cxOf (L2N.CX P w) P w K mg base zah "Program.__rshift__" (defScope zx) (He.ma K (He.ga K "Program") "__rshift__") cdv A outer s H E) (fun c d _ H=>E c d H):=yi rfl rfl rfl rfl
  exact (zj (zq (de_fn tk (z2q T) (rmo hr) (by rfl) T.zvt T.zqt (zb (ze (pv 0)) (zb (zl) (zb (ze (pv 1)) zg)))))))⟩
theorem zlp (T:Tx K mg):FnD P w K mg base 78 (He.ma K (He.ga K "Program") "__rshift__") zwc:=by
 obtain⟨fd,Fn,Fg⟩:=zfp (P:=P) (w:=w) (base:=base) T
 exact z7 Fg (Fn.bindsN fun _ _ _ _ _ _ us hl=>match us,hl with |[_,_],_=>rfl)
theorem zwz (T:Tx K mg) {k:Nat} (hk:78≤k):∀q∈([("Block",z0e),("Program",zwc)]:Tbl),BopM P w K mg base k .RShift bopTs q.1 q.2:=
 (zcd (zur T.zxs ((zms T).mono (yy (by decide) hk))) (zcd (zur T.zyp ((zlp T).mono (yy (by decide) hk))) zrh))
abbrev zol:List Str:=["rows", "n", "at", "line"]
theorem zyj:FnScope zol ["rows", "n"] (defScope z4b):=⟨rfl,rfl,rfl,by decide +kernel,rfl,by decide +kernel,by decide +kernel⟩
def z6v:DS:=(sIf ((bAnd (bT (eOp neD (eVar 3) (eC (.str "")))) (bT (eOp ltD (eFn z1h (aCons (eVar 3) aNil)) (eVar 1))))) (sRet (eVar 2)) sNext)
def zin:DS:=
    (sSeq (sFor (iEnu (aCons (eVar 0) aNil)) (gTp 2 (zve (gNm 2) (zve (gNm 3) gNil_))) z6v)
    (sRet (eC .non)))
def z2p:DF:=runF 4 zin
def zjq:DF:=lenF 2 z2p
theorem z4w (T:Tx K mg):∃fd,FunD K "shallow_place" "shallow_place" (defArgs z4b) (defBody z4b) (defScope z4b) [] [] (He.ga K "shallow_place") fd∧FnG P w K mg base 3 (He.ga K "shallow_place") fd ["rows", "n"] (spD K 2 z2p):=by
 obtain⟨fd,Fn⟩:=T.zmz
 exact⟨fd,Fn,fn_D (N:=zol) (ps:=["rows", "n"]) (k:=2) (g:=zin) Fn zyj (fun cdv A outer s H E hr=>by
  have tk:yk (cxOf (L2N.CX P w) P w K mg base zol "shallow_place" (defScope z4b) (He.ga K "shallow_place") cdv A outer s H E) (fun c d _ H=>E c d H):=yi rfl rfl rfl rfl
  exact (zi (zrr (passes_of rfl) rfl (zhdb (by rfl) T.zyz (zb (ze (pv 0)) zg)) (zr1 rfl (z7f (dgn 2 zyj.nd) (z7f (dgn 3 zyj.nd) zsv))) (zj (ds_if (PW.pt (zcdb (zfb (z8k hr.units) (ze (pv 3)) (zl) (nomark _) bl_ne) (zl7 (zfb z3u (de_fn tk (zkp T) (rmo hr) (by rfl) T.zgs T.zcs (zb (ze (pv 3)) zg)) (ze (pv 1)) (nomark _) bl_lt)))) (zj (zq (ze (pv 2)))) z0b)))
  (zj (zq (ztr)))))⟩
theorem zcx (T:Tx K mg):FnD P w K mg base 3 (He.ga K "shallow_place") zjq:=by
 obtain⟨fd,Fn,Fg⟩:=z4w (P:=P) (w:=w) (base:=base) T
 exact z7 Fg (Fn.bindsN fun _ _ _ _ _ _ us hl=>match us,hl with |[_,_],_=>rfl)
abbrev zuk:List Str:=["rows", "n", "at", "line"]
theorem zdj:FnScope zuk ["rows", "n"] (defScope zqc):=⟨rfl,rfl,rfl,by decide +kernel,rfl,by decide +kernel,by decide +kernel⟩
def zqx:DE:=(eFn zzd (aCons (eVar 3) (aCons (eUn negD (eVar 1)) aNil)))
def ztp:DS:=
    (sSeq (sAsg (eFn zjq (aCons (eVar 0) (aCons (eVar 1) aNil))) (gNm 2))
    (sSeq (sIf (bT (eOp ztn (eVar 2) (eC .non))) (zvf "Shallow" "line" 32 (eVar 2)) sNext)
    (sRet (eLc (iSeq (eVar 0)) (gNm 3) bYes zqx [3]))))
def ztu:DF:=runF 4 ztp
def zxu:DF:=lenF 2 ztu
theorem zm0 (T:Tx K mg):∃fd,FunD K "raised_rows" "raised_rows" (defArgs zqc) (defBody zqc) (defScope zqc) [] [] (He.ga K "raised_rows") fd∧FnG P w K mg base 4 (He.ga K "raised_rows") fd ["rows", "n"] (spD K 2 ztu):=by
 obtain⟨fd,Fn⟩:=T.zo3
 exact⟨fd,Fn,fn_D (N:=zuk) (ps:=["rows", "n"]) (k:=3) (g:=ztp) Fn zdj (fun cdv A outer s H E hr=>by
  have tk:yk (cxOf (L2N.CX P w) P w K mg base zuk "raised_rows" (defScope zqc) (He.ga K "raised_rows") cdv A outer s H E) (fun c d _ H=>E c d H):=yi rfl rfl rfl rfl
  exact (zi (zmb (de_fn tk (zcx T) (rmo hr) (by rfl) T.z4y T.zwy (zb (ze (pv 0)) (zb (ze (pv 1)) zg))) (dgn 2 zdj.nd))
  (zi (ds_if (zfb z4u (ze (pv 2)) (ztr) (nomark _) zx3) (zj (zwe rfl tk T.z8t (zo1 T).choose_spec.1 (zo1 T).choose_spec.2 (rmo hr) (by rfl) T.zxcb (ze (pv 2)))) z0b)
  (zj (zq (de_lc (own:=[("line",3)]) rfl zdj.nd (z6f (ze (pv 0))) (blkOk_by (N:=zuk) (sc:=defScope zqc) (own:=[("line",3)]) (by decide +kernel)) (fun _ _ _ _ _=>(dgn 3 zdj.nd)) (fun _ _ _ _ _=>zei) (fun _ _ _ _ _=>(de_fn zxj (zci T) (rmo hr) (by rfl) T.zgj T.zfj (zb (ze (pv 3)) (zb (de_un zbt (ze (pv 1))) zg)))) (by decide)))))))⟩
theorem zr0 (T:Tx K mg):FnD P w K mg base 4 (He.ga K "raised_rows") zxu:=by
 obtain⟨fd,Fn,Fg⟩:=zm0 (P:=P) (w:=w) (base:=base) T
 exact z7 Fg (Fn.bindsN fun _ _ _ _ _ _ us hl=>match us,hl with |[_,_],_=>rfl)
abbrev zpi:List Str:=["self", "n", "rows"]
theorem z6k:FnScope zpi ["self", "n"] (defScope zdb):=⟨rfl,rfl,rfl,by decide +kernel,rfl,by decide +kernel,by decide +kernel⟩
def zdk:DS:=
    (sSeq (sIf (bNot (bT (eFn z6e (aCons (eVar 1) aNil)))) (zvf "BadAmount" "value" 15 (eVar 1)) sNext)
    (sSeq (sAsg (eFn zxu (aCons (eFld ["Block"] "rows" (eVar 0)) (aCons (eVar 1) aNil))) (gNm 2))
    (sRet (eMk "Block" zfc (eC (.cls "Block")) (zuo (eVar 2))))))
def zbm:DF:=runF 3 zdk
def z1e:DF:=lenF 2 zbm
theorem zks (T:Tx K mg):∃fd,FunD K "__lshift__" "Block.__lshift__" (defArgs zdb) (defBody zdb) (defScope zdb) [] [] (He.ma K (He.ga K "Block") "__lshift__") fd∧FnG P w K mg base 5 (He.ma K (He.ga K "Block") "__lshift__") fd ["self", "n"] (spD K 2 zbm):=by
 obtain⟨fd,Fn⟩:=T.zlu
 exact⟨fd,Fn,fn_D (N:=zpi) (ps:=["self", "n"]) (k:=4) (g:=zdk) Fn z6k (fun cdv A outer s H E hr=>by
  have tk:yk (cxOf (L2N.CX P w) P w K mg base zpi "Block.__lshift__" (defScope zdb) (He.ma K (He.ga K "Block") "__lshift__") cdv A outer s H E) (fun c d _ H=>E c d H):=yi rfl rfl rfl rfl
  exact (zi (ds_if (zif (zsd (de_fn tk (z3l T) (rmo hr) (by rfl) T.zxn T.zvn (zb (ze (pv 1)) zg)))) (zj (zwe rfl tk T.zuh (zhf T).choose_spec.1 (zhf T).choose_spec.2 (rmo hr) (by rfl) T.zyn (ze (pv 1)))) z0b)
  (zi (zmb (de_fn tk (zr0 T) (rmo hr) (by rfl) T.zs2 T.zl2 (zb (zbd (Cs:=["Block"]) T.z4g (ze (pv 0))) (zb (ze (pv 1)) zg))) (dgn 2 z6k.nd))
  (zj (zq (zt1 (C:="Block") tk T.zas (zie T) (rmo hr) (zqj (C:="Block") (by rfl) T.zth) (ze (pv 2))))))))⟩
theorem zns (T:Tx K mg):FnD P w K mg base 5 (He.ma K (He.ga K "Block") "__lshift__") z1e:=by
 obtain⟨fd,Fn,Fg⟩:=zks (P:=P) (w:=w) (base:=base) T
 exact z7 Fg (Fn.bindsN fun _ _ _ _ _ _ us hl=>match us,hl with |[_,_],_=>rfl)
abbrev zbh:List Str:=["self", "n"]
theorem z2o:FnScope zbh ["self", "n"] (defScope zy):=⟨rfl,rfl,rfl,by decide +kernel,rfl,by decide +kernel,by decide +kernel⟩
def z3f:DS:=
    (sRet (eFn zmg (aCons (eVar 0) (aCons (eC (.str "out")) (aCons (eVar 1) aNil)))))
def z9g:DF:=runF 2 z3f
def zxc:DF:=lenF 2 z9g
theorem zgp (T:Tx K mg):∃fd,FunD K "__lshift__" "Program.__lshift__" (defArgs zy) (defBody zy) (defScope zy) [] [] (He.ma K (He.ga K "Program") "__lshift__") fd∧FnG P w K mg base 78 (He.ma K (He.ga K "Program") "__lshift__") fd ["self", "n"] (spD K 2 z9g):=by
 obtain⟨fd,Fn⟩:=T.zhr
 exact⟨fd,Fn,fn_D (N:=zbh) (ps:=["self", "n"]) (k:=77) (g:=z3f) Fn z2o (fun cdv A outer s H E hr=>by
  have tk:yk (cxOf (L2N.CX P w) P w K mg base zbh "Program.__lshift__" (defScope zy) (He.ma K (He.ga K "Program") "__lshift__") cdv A outer s H E) (fun c d _ H=>E c d H):=yi rfl rfl rfl rfl
  exact (zj (zq (de_fn tk (z2q T) (rmo hr) (by rfl) T.zvt T.zqt (zb (ze (pv 0)) (zb (zl) (zb (ze (pv 1)) zg)))))))⟩
theorem zmp (T:Tx K mg):FnD P w K mg base 78 (He.ma K (He.ga K "Program") "__lshift__") zxc:=by
 obtain⟨fd,Fn,Fg⟩:=zgp (P:=P) (w:=w) (base:=base) T
 exact z7 Fg (Fn.bindsN fun _ _ _ _ _ _ us hl=>match us,hl with |[_,_],_=>rfl)
theorem zxz (T:Tx K mg) {k:Nat} (hk:78≤k):∀q∈([("Block",z1e),("Program",zxc)]:Tbl),BopM P w K mg base k .LShift bopTs q.1 q.2:=
 (zcd (zur T.zys ((zns T).mono (yy (by decide) hk))) (zcd (zur T.zzp ((zmp T).mono (yy (by decide) hk))) zrh))
abbrev zql:List Str:=["self"]
theorem zyw:FnScope zql ["self"] (defScope z8b):=⟨rfl,rfl,rfl,by decide +kernel,rfl,by decide +kernel,by decide +kernel⟩
def z2i:DS:=
    (sRet (eFn zqi (aCons (eMk "Program" z8 (eC (.cls "Program")) (aCons (eC (.str "flush")) (aCons (eTup (aCons (eVar 0) aNil)) aNil))) aNil)))
def zll:DF:=runF 1 z2i
def zri:DF:=lenF 1 zll
theorem z6w (T:Tx K mg):∃fd,FunD K "flush" "Program.flush" (defArgs z8b) (defBody z8b) (defScope z8b) [] [] (He.ma K (He.ga K "Program") "flush") fd∧FnG P w K mg base 77 (He.ma K (He.ga K "Program") "flush") fd ["self"] (spD K 1 zll):=by
 obtain⟨fd,Fn⟩:=T.zoz
 exact⟨fd,Fn,fn_D (N:=zql) (ps:=["self"]) (k:=76) (g:=z2i) Fn zyw (fun cdv A outer s H E hr=>by
  have tk:yk (cxOf (L2N.CX P w) P w K mg base zql "Program.flush" (defScope z8b) (He.ma K (He.ga K "Program") "flush") cdv A outer s H E) (fun c d _ H=>E c d H):=yi rfl rfl rfl rfl
  exact (zj (zq (de_fn tk (zyk T) (rmo hr) (by rfl) T.zhn T.zgn (zb (de_mk (C:="Program") tk T.zoj (FnK.pos (z1f T)) (rmo hr) (zqj (C:="Program") (by rfl) T.zfh) (zb (zl) (zb (zwb (zb (ze (pv 0)) zg)) zg))) zg)))))⟩
theorem zdx (T:Tx K mg):FnD P w K mg base 77 (He.ma K (He.ga K "Program") "flush") zri:=by
 obtain⟨fd,Fn,Fg⟩:=z6w (P:=P) (w:=w) (base:=base) T
 exact z7 Fg (Fn.bindsN fun _ _ _ _ _ _ us hl=>match us,hl with |[_],_=>rfl)
abbrev zrl:List Str:=["self", "n"]
theorem zzw:FnScope zrl ["self", "n"] (defScope z9b):=⟨rfl,rfl,rfl,by decide +kernel,rfl,by decide +kernel,by decide +kernel⟩
def z3i:DS:=
    (sRet (eFn zmg (aCons (eVar 0) (aCons (eC (.str "first")) (aCons (eVar 1) aNil)))))
def zml:DF:=runF 2 z3i
def zsi:DF:=lenF 2 zml
theorem z7w (T:Tx K mg):∃fd,FunD K "first" "Program.first" (defArgs z9b) (defBody z9b) (defScope z9b) [] [] (He.ma K (He.ga K "Program") "first") fd∧FnG P w K mg base 78 (He.ma K (He.ga K "Program") "first") fd ["self", "n"] (spD K 2 zml):=by
 obtain⟨fd,Fn⟩:=T.zpz
 exact⟨fd,Fn,fn_D (N:=zrl) (ps:=["self", "n"]) (k:=77) (g:=z3i) Fn zzw (fun cdv A outer s H E hr=>by
  have tk:yk (cxOf (L2N.CX P w) P w K mg base zrl "Program.first" (defScope z9b) (He.ma K (He.ga K "Program") "first") cdv A outer s H E) (fun c d _ H=>E c d H):=yi rfl rfl rfl rfl
  exact (zj (zq (de_fn tk (z2q T) (rmo hr) (by rfl) T.zvt T.zqt (zb (ze (pv 0)) (zb (zl) (zb (ze (pv 1)) zg)))))))⟩
theorem zex (T:Tx K mg):FnD P w K mg base 78 (He.ma K (He.ga K "Program") "first") zsi:=by
 obtain⟨fd,Fn,Fg⟩:=z7w (P:=P) (w:=w) (base:=base) T
 exact z7 Fg (Fn.bindsN fun _ _ _ _ _ _ us hl=>match us,hl with |[_,_],_=>rfl)
abbrev z1m:List Str:=["self", "n"]
theorem zgy:FnScope z1m ["self", "n"] (defScope zkc):=⟨rfl,rfl,rfl,by decide +kernel,rfl,by decide +kernel,by decide +kernel⟩
def z3j:DS:=
    (sRet (eFn zmg (aCons (eVar 0) (aCons (eC (.str "rest")) (aCons (eVar 1) aNil)))))
def zwm:DF:=runF 2 z3j
def zmj:DF:=lenF 2 zwm
theorem zdz (T:Tx K mg):∃fd,FunD K "rest" "Program.rest" (defArgs zkc) (defBody zkc) (defScope zkc) [] [] (He.ma K (He.ga K "Program") "rest") fd∧FnG P w K mg base 78 (He.ma K (He.ga K "Program") "rest") fd ["self", "n"] (spD K 2 zwm):=by
 obtain⟨fd,Fn⟩:=T.z00
 exact⟨fd,Fn,fn_D (N:=z1m) (ps:=["self", "n"]) (k:=77) (g:=z3j) Fn zgy (fun cdv A outer s H E hr=>by
  have tk:yk (cxOf (L2N.CX P w) P w K mg base z1m "Program.rest" (defScope zkc) (He.ma K (He.ga K "Program") "rest") cdv A outer s H E) (fun c d _ H=>E c d H):=yi rfl rfl rfl rfl
  exact (zj (zq (de_fn tk (z2q T) (rmo hr) (by rfl) T.zvt T.zqt (zb (ze (pv 0)) (zb (zl) (zb (ze (pv 1)) zg)))))))⟩
theorem zgz (T:Tx K mg):FnD P w K mg base 78 (He.ma K (He.ga K "Program") "rest") zmj:=by
 obtain⟨fd,Fn,Fg⟩:=zdz (P:=P) (w:=w) (base:=base) T
 exact z7 Fg (Fn.bindsN fun _ _ _ _ _ _ us hl=>match us,hl with |[_,_],_=>rfl)
abbrev z6j:List Str:=["self", "tag", "hang"]
theorem z0u:FnScope z6j ["self", "tag", "hang"] (defScope ztb):=⟨rfl,rfl,rfl,by decide +kernel,rfl,by decide +kernel,by decide +kernel⟩
def z8f:DS:=
    (sSeq (sIf (bNot (bT (eFn zlo (aCons (eVar 1) aNil)))) (zvf "BadTag" "value" 11 (eVar 1)) sNext)
    (sRet (eFn zqi (aCons (eMkK "Program" 1 zgc (eC (.cls "Program")) (aCons (eIf (bT (eVar 2)) (eC (.str "tag")) (eC (.str "raw"))) (aCons (eTup (aCons (eVar 0) aNil)) aNil)) (aCons (eVar 1) aNil)) aNil))))
def znh:DF:=runF 3 z8f
def zqe:DF:=lenF 3 znh
theorem zhv (T:Tx K mg):∃fd,FunD K "tagged" "Program.tagged" (defArgs ztb) (defBody ztb) (defScope ztb) [] [("hang",.bl true)] (He.ma K (He.ga K "Program") "tagged") fd∧FnG P w K mg base 77 (He.ma K (He.ga K "Program") "tagged") fd ["self", "tag", "hang"] (spD K 3 znh):=by
 obtain⟨fd,Fn⟩:=T.zjx
 exact⟨fd,Fn,fn_D (N:=z6j) (ps:=["self", "tag", "hang"]) (k:=76) (g:=z8f) Fn z0u (fun cdv A outer s H E hr=>by
  have tk:yk (cxOf (L2N.CX P w) P w K mg base z6j "Program.tagged" (defScope ztb) (He.ma K (He.ga K "Program") "tagged") cdv A outer s H E) (fun c d _ H=>E c d H):=yi rfl rfl rfl rfl
  exact (zi (ds_if (zif (zsd (de_fn tk (zn5 T) (rmo hr) (by rfl) T.z88 T.z38 (zb (ze (pv 1)) zg)))) (zj (zwe rfl tk T.z0x (zs5 T).choose_spec.1 (zs5 T).choose_spec.2 (rmo hr) (by rfl) T.zlfb (ze (pv 1)))) z0b)
  (zj (zq (de_fn tk (zyk T) (rmo hr) (by rfl) T.zhn T.zgn (zb (zw5 (C:="Program") tk T.zoj (zyl T) (rmo hr) (zqj (C:="Program") (by rfl) T.zfh) (zb (de_if (zsd (ze (pv 2))) (zl) (zl)) (zb (zwb (zb (ze (pv 0)) zg)) zg)) (zrv (ze (pv 1)) zq1)) zg))))))⟩
def zce:DF:=kwF 3 [] [0,1,2] zqe
theorem zmm (T:Tx K mg):FnK P w K mg base 77 (He.ma K (He.ga K "Program") "tagged") ["hang"] zce:=by
 obtain⟨fd,Fn,Fg⟩:=zhv (P:=P) (w:=w) (base:=base) T
 exact zcjb Fn Fg 2 ["hang"] [0,1,2] (fun _ _ _ _ _ _ us ws hu hw=>match us,ws,hu,hw with |[_,_],[_],_,_=>rfl)
abbrev zkj:List Str:=["rows", "line"]
theorem z4k:FnScope zkj ["rows"] (defScope z5b):=⟨rfl,rfl,rfl,by decide +kernel,rfl,by decide +kernel,by decide +kernel⟩
def z8v:DT:=(bT (eOp neD (eVar 1) (eC (.str ""))))
def z9v:DE:=(eFn z1h (aCons (eVar 1) aNil))
def zso:DS:=
    (sRet (zj7 (eLc (iSeq (eVar 0)) (gNm 1) z8v z9v [1]) .non))
def zwr:DF:=runF 2 zso
def zxr:DF:=lenF 1 zwr
theorem zbz (T:Tx K mg):∃fd,FunD K "least_margin" "least_margin" (defArgs z5b) (defBody z5b) (defScope z5b) [] [] (He.ga K "least_margin") fd∧FnG P w K mg base 3 (He.ga K "least_margin") fd ["rows"] (spD K 1 zwr):=by
 obtain⟨fd,Fn⟩:=T.zx0
 exact⟨fd,Fn,fn_D (N:=zkj) (ps:=["rows"]) (k:=2) (g:=zso) Fn z4k (fun cdv A outer s H E hr=>by
  have tk:yk (cxOf (L2N.CX P w) P w K mg base zkj "least_margin" (defScope z5b) (He.ga K "least_margin") cdv A outer s H E) (fun c d _ H=>E c d H):=yi rfl rfl rfl rfl
  exact (zj (zq (zldb (d:=.non) rfl hr.units (by rfl) T.b_min (de_lc (own:=[("line",1)]) rfl z4k.nd (z6f (ze (pv 0))) (blkOk_by (N:=zkj) (sc:=defScope z5b) (own:=[("line",1)]) (by decide +kernel)) (fun _ _ _ _ _=>(dgn 1 z4k.nd)) (fun _ _ _ _ _=>zrp (zfb (z8k hr.units) (ze (pv 1)) (zl) (nomark _) bl_ne)) (fun _ _ _ _ _=>(de_fn zxj (zkp T) (rmo hr) (by rfl) T.zgs T.zcs (zb (ze (pv 1)) zg))) (by decide)) pe_non (fun _=>.non)))))⟩
theorem zfz (T:Tx K mg):FnD P w K mg base 3 (He.ga K "least_margin") zxr:=by
 obtain⟨fd,Fn,Fg⟩:=zbz (P:=P) (w:=w) (base:=base) T
 exact z7 Fg (Fn.bindsN fun _ _ _ _ _ _ us hl=>match us,hl with |[_],_=>rfl)
abbrev zfo:List Str:=["rows", "least", "line"]
theorem zzl:FnScope zfo ["rows"] (defScope zqd):=⟨rfl,rfl,rfl,by decide +kernel,rfl,by decide +kernel,by decide +kernel⟩
def z20:DE:=(eFn zzd (aCons (eVar 2) (aCons (eUn negD (eVar 1)) aNil)))
def zdu:DS:=
    (sSeq (sAsg (eFn zxr (aCons (eVar 0) aNil)) (gNm 1))
    (sRet (eIf (bT (eOp zmw (eVar 1) (eC .non))) (eVar 0) (eLc (iSeq (eVar 0)) (gNm 2) bYes z20 [2]))))
def z5z:DF:=runF 3 zdu
def ze0:DF:=lenF 1 z5z
theorem zh5 (T:Tx K mg):∃fd,FunD K "flat_rows" "flat_rows" (defArgs zqd) (defBody zqd) (defScope zqd) [] [] (He.ga K "flat_rows") fd∧FnG P w K mg base 4 (He.ga K "flat_rows") fd ["rows"] (spD K 1 z5z):=by
 obtain⟨fd,Fn⟩:=T.z07
 exact⟨fd,Fn,fn_D (N:=zfo) (ps:=["rows"]) (k:=3) (g:=zdu) Fn zzl (fun cdv A outer s H E hr=>by
  have tk:yk (cxOf (L2N.CX P w) P w K mg base zfo "flat_rows" (defScope zqd) (He.ga K "flat_rows") cdv A outer s H E) (fun c d _ H=>E c d H):=yi rfl rfl rfl rfl
  exact (zi (zmb (de_fn tk (zfz T) (rmo hr) (by rfl) T.zk0 T.zj0 (zb (ze (pv 0)) zg)) (zq7 (pg_name (i:=1) zzl.nd rfl (Or.inr rfl))))
  (zj (zq (de_if (zfb zs6 (ze (pv 1)) (ztr) (nomark _) bl_is) (ze (pv 0)) (de_lc (own:=[("line",2)]) rfl zzl.nd (z6f (ze (pv 0))) (blkOk_by (N:=zfo) (sc:=defScope zqd) (own:=[("line",2)]) (by decide +kernel)) (fun _ _ _ _ _=>(dgn 2 zzl.nd)) (fun _ _ _ _ _=>zei) (fun _ _ _ _ _=>(de_fn zxj (zci T) (rmo hr) (by rfl) T.zgj T.zfj (zb (ze (pv 2)) (zb (de_un zbt (ze (pv 1))) zg)))) (by decide)))))))⟩
theorem zp5 (T:Tx K mg):FnD P w K mg base 4 (He.ga K "flat_rows") ze0:=by
 obtain⟨fd,Fn,Fg⟩:=zh5 (P:=P) (w:=w) (base:=base) T
 exact z7 Fg (Fn.bindsN fun _ _ _ _ _ _ us hl=>match us,hl with |[_],_=>rfl)
abbrev ztl:List Str:=["self", "rows"]
theorem zno:FnScope ztl ["self"] (defScope zbc):=⟨rfl,rfl,rfl,by decide +kernel,rfl,by decide +kernel,by decide +kernel⟩
def zkn:DS:=
    (sSeq (sAsg (eFn ze0 (aCons (eFld ["Block"] "rows" (eVar 0)) aNil)) (gNm 1))
    (sRet (eMk "Block" zfc (eC (.cls "Block")) (zuo (eVar 1)))))
def z8p:DF:=runF 2 zkn
def zpg:DF:=lenF 1 z8p
theorem z9w (T:Tx K mg):∃fd,FunD K "__neg__" "Block.__neg__" (defArgs zbc) (defBody zbc) (defScope zbc) [] [] (He.ma K (He.ga K "Block") "__neg__") fd∧FnG P w K mg base 5 (He.ma K (He.ga K "Block") "__neg__") fd ["self"] (spD K 1 z8p):=by
 obtain⟨fd,Fn⟩:=T.zrz
 exact⟨fd,Fn,fn_D (N:=ztl) (ps:=["self"]) (k:=4) (g:=zkn) Fn zno (fun cdv A outer s H E hr=>by
  have tk:yk (cxOf (L2N.CX P w) P w K mg base ztl "Block.__neg__" (defScope zbc) (He.ma K (He.ga K "Block") "__neg__") cdv A outer s H E) (fun c d _ H=>E c d H):=yi rfl rfl rfl rfl
  exact (zi (zmb (de_fn tk (zp5 T) (rmo hr) (by rfl) T.zb7 T.z46 (zb (zbd (Cs:=["Block"]) T.z4g (ze (pv 0))) zg)) (dgn 1 zno.nd))
  (zj (zq (zt1 (C:="Block") tk T.zas (zie T) (rmo hr) (zqj (C:="Block") (by rfl) T.zth) (ze (pv 1)))))))⟩
theorem zgx (T:Tx K mg):FnD P w K mg base 5 (He.ma K (He.ga K "Block") "__neg__") zpg:=by
 obtain⟨fd,Fn,Fg⟩:=z9w (P:=P) (w:=w) (base:=base) T
 exact z7 Fg (Fn.bindsN fun _ _ _ _ _ _ us hl=>match us,hl with |[_],_=>rfl)
abbrev z7i:List Str:=["self"]
theorem zet:FnScope z7i ["self"] (defScope zjb):=⟨rfl,rfl,rfl,by decide +kernel,rfl,by decide +kernel,by decide +kernel⟩
def zvh:DS:=
    (sRet (eFn zqi (aCons (eMk "Program" z8 (eC (.cls "Program")) (aCons (eC (.str "dedent")) (aCons (eTup (aCons (eVar 0) aNil)) aNil))) aNil)))
def z5i:DF:=runF 1 zvh
def zxd:DF:=lenF 1 z5i
theorem z0t (T:Tx K mg):∃fd,FunD K "__neg__" "Program.__neg__" (defArgs zjb) (defBody zjb) (defScope zjb) [] [] (He.ma K (He.ga K "Program") "__neg__") fd∧FnG P w K mg base 77 (He.ma K (He.ga K "Program") "__neg__") fd ["self"] (spD K 1 z5i):=by
 obtain⟨fd,Fn⟩:=T.zwv
 exact⟨fd,Fn,fn_D (N:=z7i) (ps:=["self"]) (k:=76) (g:=zvh) Fn zet (fun cdv A outer s H E hr=>by
  have tk:yk (cxOf (L2N.CX P w) P w K mg base z7i "Program.__neg__" (defScope zjb) (He.ma K (He.ga K "Program") "__neg__") cdv A outer s H E) (fun c d _ H=>E c d H):=yi rfl rfl rfl rfl
  exact (zj (zq (de_fn tk (zyk T) (rmo hr) (by rfl) T.zhn T.zgn (zb (de_mk (C:="Program") tk T.zoj (FnK.pos (z1f T)) (rmo hr) (zqj (C:="Program") (by rfl) T.zfh) (zb (zl) (zb (zwb (zb (ze (pv 0)) zg)) zg))) zg)))))⟩
theorem z3t (T:Tx K mg):FnD P w K mg base 77 (He.ma K (He.ga K "Program") "__neg__") zxd:=by
 obtain⟨fd,Fn,Fg⟩:=z0t (P:=P) (w:=w) (base:=base) T
 exact z7 Fg (Fn.bindsN fun _ _ _ _ _ _ us hl=>match us,hl with |[_],_=>rfl)
theorem zr6 (T:Tx K mg) {k:Nat} (hk:77≤k):∀q∈([("Block",zpg),("Program",zxd)]:Tbl),OwnM P w K mg base k "__neg__" q.1 q.2:=
 (zcd ⟨_,(z8d T.zai).1,(z8d T.zai).2.1,(z8d T.zai).2.2.1,(z8d T.zai).2.2.2,(zgx T).mono (yy (by decide) hk)⟩ (zcd ⟨_,(z8d T.zvg).1,(z8d T.zvg).2.1,(z8d T.zvg).2.2.1,(z8d T.zvg).2.2.2,(z3t T).mono (yy (by decide) hk)⟩ zrh))
abbrev zvk:List Str:=["self", "found", "part"]
theorem zgm:FnScope zvk ["self"] (defScope zrc):=⟨rfl,rfl,rfl,by decide +kernel,rfl,by decide +kernel,by decide +kernel⟩
def zak:DT:=(bT (eOp eqD (eFld ["Program"] "word" (eVar 2)) (eC (.str "each"))))
def zbk:DE:=(eFld ["Program"] "name" (eVar 2))
def zhi:DS:=
    (sSeq (sAsg (eLc (iSeq (eFn zne (aCons (eVar 0) aNil))) (gNm 2) zak zbk [2]) (gNm 1))
    (sRet (eIf (bT (eVar 1)) (eIx [] (eVar 1) (eC (.int 0))) (eC .non))))
def zsk:DF:=runF 3 zhi
def z2g:DF:=lenF 1 zsk
theorem zo0 (T:Tx K mg):∃fd,FunD K "row" "Program.row" (defArgs zrc) (defBody zrc) (defScope zrc) [] [] (He5.wf K (He.ga K "Program") "property" "row") fd∧FnG P w K mg base 75 (He5.wf K (He.ga K "Program") "property" "row") fd ["self"] (spD K 1 zsk):=by
 obtain⟨fd,Fn⟩:=T.zq3
 exact⟨fd,Fn,fn_D (N:=zvk) (ps:=["self"]) (k:=74) (g:=zhi) Fn zgm (fun cdv A outer s H E hr=>by
  have tk:yk (cxOf (L2N.CX P w) P w K mg base zvk "Program.row" (defScope zrc) (He5.wf K (He.ga K "Program") "property" "row") cdv A outer s H E) (fun c d _ H=>E c d H):=yi rfl rfl rfl rfl
  exact (zi (zbu (i:=1) (own:=[("part",2)]) rfl zgm.nd rfl rfl (sw_true rfl rfl rfl (by decide +kernel)) (z6f (de_fn tk (z4l T) (rmo hr) (by rfl) T.zal T.z9k (zb (ze (pv 0)) zg))) (blkOk_by (N:=zvk) (sc:=defScope zrc) (own:=[("part",2)]) (by decide +kernel)) (fun _ _ _ _ _=>(dgn 2 zgm.nd)) (fun _ _ _ _ _=>zrp (zfb (zvc hr.units) (zbd (Cs:=["Program"]) T.z5t (ze (pv 2))) (zl) (nomark _) bl_eq)) (fun _ _ _ _ _=>(zbd (Cs:=["Program"]) T.zq5 (ze (pv 2)))) (by decide))
  (zj (zq (de_if (zsd (ze (pv 1))) (de_ix (k:=0) (t:=[]) tk (fun _ z=>nomatch z) (rmo hr) (ze (pv 1)) (zo) (fun _ _=>rfl) (fun _ _=>by with_unfolding_all rfl)) (ztr))))))⟩
theorem zt0 (T:Tx K mg):FnD P w K mg base 75 (He5.wf K (He.ga K "Program") "property" "row") z2g:=by
 obtain⟨fd,Fn,Fg⟩:=zo0 (P:=P) (w:=w) (base:=base) T
 exact z7 Fg (Fn.bindsN fun _ _ _ _ _ _ us hl=>match us,hl with |[_],_=>rfl)
abbrev z7db:List Str:=["name", "program"]
theorem zyhb:FnScope z7db ["name", "program"] (defScope z3k):=⟨rfl,rfl,rfl,by decide +kernel,rfl,by decide +kernel,by decide +kernel⟩
def zj3:DS:=
    (sSeq (sIf (bNot (bT (eFn zkq (aCons (eVar 0) aNil)))) (zvf "BadName" "value" 12 (eVar 0)) sNext)
    (sSeq (sIf ((bOr (bT (eOp neD (eFn zvl (aCons (eVar 1) aNil)) (eLst (aCons (eVar 0) aNil)))) (bT (eOp ztn (eProp "Program" z2g (eVar 1)) (eC .non))))) (zvf "BadEach" "name" 31 (eVar 0)) sNext)
    (sRet (eFn zqi (aCons (eMkK "Program" 1 zgb (eC (.cls "Program")) (aCons (eC (.str "each")) (aCons (eTup (aCons (eVar 1) aNil)) aNil)) (aCons (eVar 0) aNil)) aNil)))))
def z5db:DF:=runF 2 zj3
def zx9:DF:=lenF 2 z5db
theorem zejb (T:Tx K mg):∃fd,FunD K "each" "each" (defArgs z3k) (defBody z3k) (defScope z3k) [] [] (He.ga K "each") fd∧FnG P w K mg base 77 (He.ga K "each") fd ["name", "program"] (spD K 2 z5db):=by
 obtain⟨fd,Fn⟩:=T.zamb
 exact⟨fd,Fn,fn_D (N:=z7db) (ps:=["name", "program"]) (k:=76) (g:=zj3) Fn zyhb (fun cdv A outer s H E hr=>by
  have tk:yk (cxOf (L2N.CX P w) P w K mg base z7db "each" (defScope z3k) (He.ga K "each") cdv A outer s H E) (fun c d _ H=>E c d H):=yi rfl rfl rfl rfl
  exact (zi (ds_if (zif (zsd (de_fn tk (zm1 T) (rmo hr) (by rfl) T.z14 T.zt4 (zb (ze (pv 0)) zg)))) (zj (zwe rfl tk T.zpp (z5q T).choose_spec.1 (z5q T).choose_spec.2 (rmo hr) (by rfl) T.z74 (ze (pv 0)))) z0b)
  (zi (ds_if (PW.pt (dw_or (zfb (z8k hr.units) (de_fn tk (zqw T) (rmo hr) (by rfl) T.z5y T.zxy (zb (ze (pv 1)) zg)) (zzi (zb (ze (pv 0)) zg)) (nomark _) bl_ne) (ztw (zfb z4u (zuv (C:="Program") T.zrj T.zd2 (zt0 T) (rmo hr) (ze (pv 1))) (ztr) (nomark _) zx3)))) (zj (zwe rfl tk T.zau (zp1 T).choose_spec.1 (zp1 T).choose_spec.2 (rmo hr) (by rfl) T.zycb (ze (pv 0)))) z0b)
  (zj (zq (de_fn tk (zyk T) (rmo hr) (by rfl) T.zhn T.zgn (zb (zw5 (C:="Program") tk T.zoj (zfg T) (rmo hr) (zqj (C:="Program") (by rfl) T.zfh) (zb (zl) (zb (zwb (zb (ze (pv 1)) zg)) zg)) (zrv (ze (pv 0)) zq1)) zg)))))))⟩
theorem zgjb (T:Tx K mg):FnD P w K mg base 77 (He.ga K "each") zx9:=by
 obtain⟨fd,Fn,Fg⟩:=zejb (P:=P) (w:=w) (base:=base) T
 exact z7 Fg (Fn.bindsN fun _ _ _ _ _ _ us hl=>match us,hl with |[_,_],_=>rfl)
abbrev z0m:List Str:=["_law_tree_here", "_law_word_here", "_law_more", "_law_members", "_law_inner", "_law_member_here"]
theorem zle:FnScope z0m ["_law_tree_here"] (defScope z5d):=⟨rfl,rfl,rfl,by decide +kernel,rfl,by decide +kernel,by decide +kernel⟩
def zib (zxb:DF):DS:=(sAsg (eBop bopTs [("Block",zff),("Program",zt)] addD (eVar 4) (eFn zxb (aCons (eVar 5) aNil))) (gNm 4))
def zbb (zxb:DF):DS:=
    (sSeq (sAsg (eVar 0) (gTp 3 (zve (gNm 1) (zve (gNm 2) (zve (gNm 3) gNil_)))))
    (sSeq (sIf (bT (eOp inTD (eVar 1) (eTup (aCons (eC (.str "fixed")) (aCons (eC (.str "hole")) aNil))))) (sRet (eIf (bT (eOp eqD (eVar 1) (eC (.str "fixed")))) (eFn zlq (aCons (eBM "str" joinD (eC (.str "\n")) (aCons (eVar 2) aNil)) aNil)) (eFn zw9 (aCons (eVar 2) aNil)))) sNext)
    (sSeq (sAsg (eFn zxb (aCons (eIx [("Block",zf)] (eVar 3) (eC (.int 0))) aNil)) (gNm 4))
    (sSeq (sFor (iSeq (eSl (eVar 3) (oSome (eC (.int 1))) (oNone))) (gNm 5) (zib zxb))
    (sSeq (sIf (bT (eOp inTD (eVar 1) (eTup (aCons (eC (.str "in")) (aCons (eC (.str "out")) aNil))))) (sRet (eIf (bT (eOp eqD (eVar 1) (eC (.str "in")))) (eBop bopTs [("Block",z0e),("Program",zwc)] noD (eVar 4) (eVar 2)) (eBop bopTs [("Block",z1e),("Program",zxc)] noD (eVar 4) (eVar 2)))) sNext)
    (sSeq (sIf (bT (eOp inTD (eVar 1) (eTup (aCons (eC (.str "first")) (aCons (eC (.str "rest")) (aCons (eC (.str "flush")) aNil)))))) (sRet (eIf (bT (eOp eqD (eVar 1) (eC (.str "flush")))) (eMeth "Program" "flush" zri (eVar 4) aNil) (eIf (bT (eOp eqD (eVar 1) (eC (.str "first")))) (eMeth "Program" "first" zsi (eVar 4) (aCons (eVar 2) aNil)) (eMeth "Program" "rest" zmj (eVar 4) (aCons (eVar 2) aNil))))) sNext)
    (sSeq (sIf (bT (eOp inTD (eVar 1) (eTup (aCons (eC (.str "tag")) (aCons (eC (.str "raw")) aNil))))) (sRet (zk9 "Program" "tagged" 1 zce (eVar 4) (aCons (eVar 2) aNil) (aCons (eOp eqD (eVar 1) (eC (.str "tag"))) aNil))) sNext)
    (sRet (eIf (bT (eOp eqD (eVar 1) (eC (.str "dedent")))) (eNeg [("Block",zpg),("Program",zxd)] (eVar 4)) (eIf (bT (eOp eqD (eVar 1) (eC (.str "each")))) (eFn zx9 (aCons (eVar 2) (aCons (eVar 4) aNil))) (eVar 4)))))))))))
def zh:Nat→DF
 | 0=>fun _ _=>.no
 |n+1=>lenF 1 (runF 6 (zbb (zh n)))
theorem zpo (T:Tx K mg):∀n:Nat,FnD P w K mg base (80+3*n) (He.ga K "_law_program") (zh n)
 | 0=>zc9
 |n+1=>by
  have ih:=zpo T n
  obtain⟨fd,Fn⟩:=T.zy0
  exact z7 (fn_D (N:=z0m) (ps:=["_law_tree_here"]) (k:=80+3*n+2) (g:=zbb (zh n)) Fn zle (fun cdv A outer s H E hr=>by
  have tk:yk (cxOf (L2N.CX P w) P w K mg base z0m "_law_program" (defScope z5d) (He.ga K "_law_program") cdv A outer s H E) (fun c d _ H=>E c d H):=yi rfl rfl rfl rfl
  exact (zi (zmb (ze (pv 0)) (zr1 rfl (z7f (dgn 1 zle.nd) (z7f (dgn 2 zle.nd) (z7f (dgn 3 zle.nd) zsv)))))
  (zi (ds_if (zfb zuq (ze (pv 1)) (zwb (zb (zl) (zb (zl) zg))) (by rfl) zv1) (zj (zq (de_if (zfb (zvc hr.units) (ze (pv 1)) (zl) (nomark _) bl_eq) (de_fn tk (zh9 T) (hr.mono (by omega)) (by rfl) T.zwcb T.zocb (zb (de_bm yx yyc yzc zmt (zl) (zb (ze (pv 2)) zg)) zg)) (de_fn tk (zfjb T) (hr.mono (by omega)) (by rfl) T.zulb T.zklb (zb (ze (pv 2)) zg))))) z0b)
  (zi (zmb (de_fn tk ih (hr.mono (by omega)) (by rfl) T.z4e T.z3e (zb (de_ix (k:=3) (t:=[("Block",zf)]) tk (zp T (by omega)) (hr.mono (by omega)) (ze (pv 3)) (zo) (fun _ _=>rfl) (fun _ _=>by with_unfolding_all rfl)) zg)) (dgn 4 zle.nd))
  (zi (zrr (passes_of rfl) rfl (z6f (de_sl (ze (pv 3)) (zo7 (zo)) (zp7))) (dgn 5 zle.nd) (zj (zmb (zndb (k:=78) (ts:=bopTs) (t:=[("Block",zff),("Program",zt)]) tk (zsj T (by omega)) (hr.mono (by omega)) z0 (ze (pv 4)) (de_fn tk ih (hr.mono (by omega)) (by rfl) T.z4e T.z3e (zb (ze (pv 5)) zg))) (dgn 4 zle.nd))))
  (zi (ds_if (zfb zuq (ze (pv 1)) (zwb (zb (zl) (zb (zl) zg))) (by rfl) zv1) (zj (zq (de_if (zfb (zvc hr.units) (ze (pv 1)) (zl) (nomark _) bl_eq) (zndb (k:=78) (ts:=bopTs) (t:=[("Block",z0e),("Program",zwc)]) tk (zwz T (by omega)) (hr.mono (by omega)) zzbb (ze (pv 4)) (ze (pv 2))) (zndb (k:=78) (ts:=bopTs) (t:=[("Block",z1e),("Program",zxc)]) tk (zxz T (by omega)) (hr.mono (by omega)) zzbb (ze (pv 4)) (ze (pv 2)))))) z0b)
  (zi (ds_if (zfb zuq (ze (pv 1)) (zwb (zb (zl) (zb (zl) (zb (zl) zg)))) (by rfl) zv1) (zj (zq (de_if (zfb (zvc hr.units) (ze (pv 1)) (zl) (nomark _) bl_eq) (z0fb (C:="Program") tk T.zrj (zsy T.zqy) (zdx T) (hr.mono (by omega)) (ze (pv 4))) (de_if (zfb (zvc hr.units) (ze (pv 1)) (zl) (nomark _) bl_eq) (zr7 (C:="Program") tk T.zrj (zsy T.zry) (zex T) (hr.mono (by omega)) (ze (pv 4)) (zb (ze (pv 2)) zg)) (zr7 (C:="Program") tk T.zrj (zsy T.zh0) (zgz T) (hr.mono (by omega)) (ze (pv 4)) (zb (ze (pv 2)) zg)))))) z0b)
  (zi (ds_if (zfb zuq (ze (pv 1)) (zwb (zb (zl) (zb (zl) zg))) (by rfl) zv1) (zj (zq (zzfb (C:="Program") tk T.zrj (zsy T.z2w) (zmm T) (hr.mono (by omega)) (ze (pv 4)) (zb (ze (pv 2)) zg) (zrv (zx5 (zvc hr.units) (ze (pv 1)) (zl) (nomark _)) zq1)))) z0b)
  (zj (zq (de_if (zfb (zvc hr.units) (ze (pv 1)) (zl) (nomark _) bl_eq) (z7lb (k:=77) (t:=[("Block",zpg),("Program",zxd)]) tk (zr6 T (by omega)) (hr.mono (by omega)) (ze (pv 4))) (de_if (zfb (zvc hr.units) (ze (pv 1)) (zl) (nomark _) bl_eq) (de_fn tk (zgjb T) (hr.mono (by omega)) (by rfl) T.zvlb T.zllb (zb (ze (pv 2)) (zb (ze (pv 4)) zg))) (ze (pv 4))))))))))))))) (Fn.bindsN fun _ _ _ _ _ _ us hl=>match us,hl with |[_],_=>rfl)
def zxb:DF:=zh 24
theorem zgg (T:Tx K mg):FnD P w K mg base 152 (He.ga K "_law_program") zxb:=(zpo (P:=P) (w:=w) (base:=base) T 24)
abbrev zgo:List Str:=["_law_state", "_law_names_here", "_law_tree_here"]
theorem zfm:FnScope zgo ["_law_state", "_law_names_here"] (defScope z0c):=⟨rfl,rfl,rfl,by decide +kernel,rfl,by decide +kernel,by decide +kernel⟩
def zhg:DS:=
    (sSeq (sIf (bT (eFn z3b (aCons (eVar 0) (aCons (eC (.int 2)) aNil)))) (sRet (eTup (aCons (eFn zwl (aCons (eVar 0) (aCons (eLst (aCons (eC (.str "text")) (aCons (eC (.str "block")) aNil))) aNil))) (aCons (eFn zjf (aCons (eVar 0) (aCons (eC (.int 4)) aNil))) aNil)))) sNext)
    (sSeq (sAsg (eFn z7e (aCons (eVar 0) (aCons (eVar 1) (aCons (eC (.int 1)) aNil)))) (gNm 2))
    (sSeq (sIf (bT (eFn z3b (aCons (eVar 0) (aCons (eC (.int 2)) aNil)))) (sAsg (eTup (aCons (eFn zwl (aCons (eVar 0) (aCons (eLst (aCons (eC (.str "in")) (aCons (eC (.str "first")) (aCons (eC (.str "rest")) aNil)))) aNil))) (aCons (eFn z3b (aCons (eVar 0) (aCons (eC (.int 21)) aNil))) (aCons (eTup (aCons (eVar 2) aNil)) aNil)))) (gNm 2)) sNext)
    (sRet (eTup (aCons (eC (.str "program")) (aCons (eVar 2) aNil)))))))
def zli:DF:=runF 3 zhg
def zye:DF:=lenF 2 zli
theorem zn0 (T:Tx K mg):∃fd,FunD K "_law_member" "_law_member" (defArgs z0c) (defBody z0c) (defScope z0c) [] [] (He.ga K "_law_member") fd∧FnG P w K mg base 10 (He.ga K "_law_member") fd ["_law_state", "_law_names_here"] (spD K 2 zli):=by
 obtain⟨fd,Fn⟩:=T.zp3
 exact⟨fd,Fn,fn_D (N:=zgo) (ps:=["_law_state", "_law_names_here"]) (k:=9) (g:=zhg) Fn zfm (fun cdv A outer s H E hr=>by
  have tk:yk (cxOf (L2N.CX P w) P w K mg base zgo "_law_member" (defScope z0c) (He.ga K "_law_member") cdv A outer s H E) (fun c d _ H=>E c d H):=yi rfl rfl rfl rfl
  exact (zi (ds_if (zsd (de_fn tk (znc T) (rmo hr) (by rfl) T.z9c T.z8c (zb (ze (pv 0)) (zb (zo) zg)))) (zj (zq (zwb (zb (de_fn tk (z3q T) (rmo hr) (by rfl) T.zwt T.zrt (zb (ze (pv 0)) (zb (zzi (zb (zl) (zb (zl) zg))) zg))) (zb (de_fn tk (z0n T) (rmo hr) (by rfl) T.zep T.zbp (zb (ze (pv 0)) (zb (zo) zg))) zg))))) z0b)
  (zi (zmb (de_fn tk (zsw T) (rmo hr) (by rfl) T.z8y T.z0y (zb (ze (pv 0)) (zb (ze (pv 1)) (zb (zo) zg)))) (dgn 2 zfm.nd))
  (zi (ds_if (zsd (de_fn tk (znc T) (rmo hr) (by rfl) T.z9c T.z8c (zb (ze (pv 0)) (zb (zo) zg)))) (zj (zmb (zwb (zb (de_fn tk (z3q T) (rmo hr) (by rfl) T.zwt T.zrt (zb (ze (pv 0)) (zb (zzi (zb (zl) (zb (zl) (zb (zl) zg)))) zg))) (zb (de_fn tk (znc T) (rmo hr) (by rfl) T.z9c T.z8c (zb (ze (pv 0)) (zb (zo) zg))) (zb (zwb (zb (ze (pv 2)) zg)) zg)))) (dgn 2 zfm.nd))) z0b)
  (zj (zq (zwb (zb (zl) (zb (ze (pv 2)) zg)))))))))⟩
theorem zs0 (T:Tx K mg):FnD P w K mg base 10 (He.ga K "_law_member") zye:=by
 obtain⟨fd,Fn,Fg⟩:=zn0 (P:=P) (w:=w) (base:=base) T
 exact z7 Fg (Fn.bindsN fun _ _ _ _ _ _ us hl=>match us,hl with |[_,_],_=>rfl)
abbrev z0g:List Str:=["self", "lines", "line", "rows"]
theorem z5f:FnScope z0g ["self", "lines"] (defScope zab):=⟨rfl,rfl,rfl,by decide +kernel,rfl,by decide +kernel,by decide +kernel⟩
def zrf:DS:=(sIf (bNot (bT (eFn zpn (aCons (eVar 2) aNil)))) (zvf "BadLine" "value" 41 (eVar 2)) sNext)
def zfe:DE:=(eBM "str" z2u (eVar 2) (aCons (eC (.str " ")) aNil))
def zwh:DS:=
    (sSeq (sFor (iSeq (eVar 1)) (gNm 2) zrf)
    (sSeq (sAsg (eLcH (iSeq (eVar 1)) (gNm 2) bYes zfe [2]) (gNm 3))
    (sFldH ["Block"] "rows" (eIf (bT (eOp neD (eVar 3) (eLst (aNil)))) (eVar 3) (eLstH (aCons (eC (.str "")) aNil))) (eVar 0))))
def z6i:DF:=runF 4 zwh
def zyd:DF:=starF 1 z6i
theorem z4t (T:Tx K mg):FnD P w K mg base 3 (He.ma K (He.ga K "Block") "__init__") zyd:=by
 obtain⟨fd,Fn⟩:=T.z0v
 exact zb9 (N:=z0g) (ps:=["self"]) (pv:="lines") (k:=2) (g:=zwh) Fn z5f (fun kV doc pm an cdv ct=>StX.bind_star1 (B:=fun z=>bindArgs (y1d "__init__" "Block.__init__" (defArgs zab) (defBody zab) (defScope zab) .none kV doc pm an cdv ct) ⟨z,[]⟩) (fun _=>rfl) (fun _ _ _=>rfl)) (fun cdv A outer s H E hr=>by
  have tk:yk (cxOf (L2N.CX P w) P w K mg base z0g "Block.__init__" (defScope zab) (He.ma K (He.ga K "Block") "__init__") cdv A outer s H E) (fun c d _ H=>E c d H):=yi rfl rfl rfl rfl
  exact (zi (zrr (passes_of rfl) rfl (z6f (ze (pv 1))) (dgn 2 z5f.nd) (zj (ds_if (zif (zsd (de_fn tk (zlv T) (rmo hr) (by rfl) T.z6y T.zyy (zb (ze (pv 2)) zg)))) (zj (zwe rfl tk T.zgh (z9d T).choose_spec.1 (z9d T).choose_spec.2 (rmo hr) (by rfl) T.zbl (ze (pv 2)))) z0b)))
  (zi (zu5 (i:=3) (own:=[("line",2)]) rfl z5f.nd rfl rfl (sw_true rfl rfl rfl (by decide +kernel)) (z6f (ze (pv 1))) (blkOk_by (N:=z0g) (sc:=defScope zab) (own:=[("line",2)]) (by decide +kernel)) (fun _ _ _ _ _=>(dgn 2 z5f.nd)) (fun _ _ _ _ _=>zei) (fun _ _ _ _ _=>(de_bm yx yfd ygd z7r (ze (pv 2)) (zb (zl) zg))) (by decide))
  (zj (zn7 (Cs:=["Block"]) T.z4g (ze (pv 0)) (de_if (zfb (z8k hr.units) (ze (pv 3)) (zzi (zg)) (nomark _) bl_ne) (ze (pv 3)) (zk3 (zb (zl) zg))))))))
abbrev zio:List Str:=["cls", "text", "rows"]
theorem zkr:FnScope zio ["cls", "text"] (defScope z1c):=⟨rfl,rfl,rfl,by decide +kernel,rfl,by decide +kernel,by decide +kernel⟩
def zhl:DS:=
    (sSeq (sIf (bNot (bT (eIsi (isfT zde) (eVar 1)))) (zvf "BadLine" "value" 41 (eVar 1)) sNext)
    (sSeq (sAsg (eBM "str" z90 (eVar 1) (aCons (eC (.str "\n")) aNil)) (gNm 2))
    (sRet (eMkH "Block" zyd (eVar 0) (zuo (eVar 2))))))
def zbo:DF:=runF 3 zhl
def zxk:DF:=lenF 2 zbo
theorem zp0 (T:Tx K mg):∃fd,FunD K "read" "Block.read" (defArgs z1c) (defBody z1c) (defScope z1c) [] [] (He5.wf K (He.ga K "Block") "classmethod" "read") fd∧FnG P w K mg base 5 (He5.wf K (He.ga K "Block") "classmethod" "read") fd ["cls", "text"] (spD K 2 zbo):=by
 obtain⟨fd,Fn⟩:=T.zr3
 exact⟨fd,Fn,fn_D (N:=zio) (ps:=["cls", "text"]) (k:=4) (g:=zhl) Fn zkr (fun cdv A outer s H E hr=>by
  have tk:yk (cxOf (L2N.CX P w) P w K mg base zio "Block.read" (defScope z1c) (He5.wf K (He.ga K "Block") "classmethod" "read") cdv A outer s H E) (fun c d _ H=>E c d H):=yi rfl rfl rfl rfl
  exact (zi (ds_if (zif (zsd (zek (by rfl) T.zlb (ze (pv 1)) (pe_bltn (v:=.ty "str") (by rfl) T.b_str (by decide +kernel) rfl) (.ty "str") T.zde))) (zj (zwe rfl tk T.zgh (z9d T).choose_spec.1 (z9d T).choose_spec.2 (rmo hr) (by rfl) T.zbl (ze (pv 1)))) z0b)
  (zi (zmb (de_bm yx yld ymd z7u (ze (pv 1)) (zb (zl) zg)) (dgn 2 zkr.nd))
  (zj (zq (zrjb (C:="Block") tk T.zas (z4t T) (rmo hr) (ze (pv 0)) (ze (pv 2))))))))⟩
theorem zu0 (T:Tx K mg):FnD P w K mg base 5 (He5.wf K (He.ga K "Block") "classmethod" "read") zxk:=by
 obtain⟨fd,Fn,Fg⟩:=zp0 (P:=P) (w:=w) (base:=base) T
 exact z7 Fg (Fn.bindsN fun _ _ _ _ _ _ us hl=>match us,hl with |[_,_],_=>rfl)
abbrev zdq:List Str:=["_law_kind", "_law_tree_here", "_law_text"]
theorem zdt:FnScope zdq ["_law_kind", "_law_tree_here"] (defScope zfd):=⟨rfl,rfl,rfl,by decide +kernel,rfl,by decide +kernel,by decide +kernel⟩
def zhh:DS:=
    (sSeq (sIf (bT (eOp eqD (eVar 0) (eC (.str "program")))) (sRet (eFn zxb (aCons (eVar 1) aNil))) sNext)
    (sSeq (sAsg (eBM "str" joinD (eC (.str "\n")) (aCons (eIx [("Block",zf)] (eVar 1) (eC (.int 1))) aNil)) (gNm 2))
    (sRet (eIf (bT (eOp eqD (eVar 0) (eC (.str "text")))) (eVar 2) (eCm "Block" true zxk (eC (.cls "Block")) (aCons (eVar 2) aNil))))))
def ztj:DF:=runF 3 zhh
def zhe:DF:=lenF 2 ztj
theorem z02 (T:Tx K mg):∃fd,FunD K "_law_thing" "_law_thing" (defArgs zfd) (defBody zfd) (defScope zfd) [] [] (He.ga K "_law_thing") fd∧FnG P w K mg base 153 (He.ga K "_law_thing") fd ["_law_kind", "_law_tree_here"] (spD K 2 ztj):=by
 obtain⟨fd,Fn⟩:=T.z05
 exact⟨fd,Fn,fn_D (N:=zdq) (ps:=["_law_kind", "_law_tree_here"]) (k:=152) (g:=zhh) Fn zdt (fun cdv A outer s H E hr=>by
  have tk:yk (cxOf (L2N.CX P w) P w K mg base zdq "_law_thing" (defScope zfd) (He.ga K "_law_thing") cdv A outer s H E) (fun c d _ H=>E c d H):=yi rfl rfl rfl rfl
  exact (zi (ds_if (zfb (zvc hr.units) (ze (pv 0)) (zl) (nomark _) bl_eq) (zj (zq (de_fn tk (zgg T) (rmo hr) (by rfl) T.z4e T.z3e (zb (ze (pv 1)) zg)))) z0b)
  (zi (zmb (de_bm yx yyc yzc zmt (zl) (zb (de_ix (k:=3) (t:=[("Block",zf)]) tk (zp T (by decide)) (rmo hr) (ze (pv 1)) (zo) (fun _ _=>rfl) (fun _ _=>by with_unfolding_all rfl)) zg)) (dgn 2 zdt.nd))
  (zj (zq (de_if (zfb (zvc hr.units) (ze (pv 0)) (zl) (nomark _) bl_eq) (ze (pv 2)) (z1x (C:="Block") tk T.ztx T.zqk (zu0 T) (rmo hr) (zqj (C:="Block") (by rfl) T.zth) (zb (ze (pv 2)) zg))))))))⟩
theorem z82 (T:Tx K mg):FnD P w K mg base 153 (He.ga K "_law_thing") zhe:=by
 obtain⟨fd,Fn,Fg⟩:=z02 (P:=P) (w:=w) (base:=base) T
 exact z7 Fg (Fn.bindsN fun _ _ _ _ _ _ us hl=>match us,hl with |[_,_],_=>rfl)
abbrev z2m:List Str:=["self", "other"]
theorem zhy:FnScope z2m ["self", "other"] (defScope zlc):=⟨rfl,rfl,rfl,by decide +kernel,rfl,by decide +kernel,by decide +kernel⟩
def z4j:DS:=
    (sRet ((eAnd (eIsi (isfT zue) (eVar 1)) (eOp eqD (eFld ["Block"] "rows" (eVar 0)) (eFld ["Block"] "rows" (eVar 1))))))
def zxm:DF:=runF 2 z4j
def zeb:DF:=lenF 2 zxm
theorem zez (T:Tx K mg):∃fd,FunD K "__eq__" "Block.__eq__" (defArgs zlc) (defBody zlc) (defScope zlc) [] [] (He.ma K (He.ga K "Block") "__eq__") fd∧FnG P w K mg base 1 (He.ma K (He.ga K "Block") "__eq__") fd ["self", "other"] (spD K 2 zxm):=by
 obtain⟨fd,Fn⟩:=T.z10
 exact⟨fd,Fn,fn_D (N:=z2m) (ps:=["self", "other"]) (k:=0) (g:=z4j) Fn zhy (fun cdv A outer s H E hr=>by
  have tk:yk (cxOf (L2N.CX P w) P w K mg base z2m "Block.__eq__" (defScope zlc) (He.ma K (He.ga K "Block") "__eq__") cdv A outer s H E) (fun c d _ H=>E c d H):=yi rfl rfl rfl rfl
  exact (zj (zq ((zlz (zek (by rfl) T.zlb (ze (pv 1)) (pe_glob (v:=.ref (He.ga K "Block")) (by rfl) T.zth rfl) (.own (He.ga K "Block")) T.zue) (zs1 (zx5 (zvc hr.units) (zbd (Cs:=["Block"]) T.z4g (ze (pv 0))) (zbd (Cs:=["Block"]) T.z4g (ze (pv 1))) (nomark _))))))))⟩
theorem zel (T:Tx K mg):FnD P w K mg base 1 (He.ma K (He.ga K "Block") "__eq__") zeb:=by
 obtain⟨fd,Fn,Fg⟩:=zez (P:=P) (w:=w) (base:=base) T
 exact z7 Fg (Fn.bindsN fun _ _ _ _ _ _ us hl=>match us,hl with |[_,_],_=>rfl)
abbrev zph:List Str:=["self", "other", "mine", "one", "two"]
theorem zef:FnScope zph ["self", "other"] (defScope ztc):=⟨rfl,rfl,rfl,by decide +kernel,rfl,by decide +kernel,by decide +kernel⟩
def z2h (zsb:DF):DE:=(eOpW (eqoW bopTs [("Block",zeb),("Program",zsb)] false) (eVar 3) (eVar 4))
def zae (zsb:DF):DS:=
    (sSeq (sIf (bNot (bT (eIsi (isfT zwd) (eVar 1)))) (sRet (eC (.bl false))) sNext)
    (sSeq (sAsg (eTup (aCons (eFld ["Program"] "word" (eVar 0)) (aCons (eFld ["Program"] "name" (eVar 0)) (aCons (eFld ["Program"] "amount" (eVar 0)) (aCons (eFld ["Program"] "tag" (eVar 0)) aNil))))) (gNm 2))
    (sSeq (sIf (bT (eOp neD (eVar 2) (eTup (aCons (eFld ["Program"] "word" (eVar 1)) (aCons (eFld ["Program"] "name" (eVar 1)) (aCons (eFld ["Program"] "amount" (eVar 1)) (aCons (eFld ["Program"] "tag" (eVar 1)) aNil))))))) (sRet (eC (.bl false))) sNext)
    (sSeq (sIf (bT (eOp eqD (eFld ["Program"] "word" (eVar 0)) (eC (.str "fixed")))) (sRet (eOpW (eqoW bopTs [("Block",zeb),("Program",zsb)] false) (eFld ["Program"] "block" (eVar 0)) (eFld ["Program"] "block" (eVar 1)))) sNext)
    (sSeq (sIf (bT (eOp neD (eLen [] (aCons (eFld ["Program"] "members" (eVar 0)) aNil)) (eLen [] (aCons (eFld ["Program"] "members" (eVar 1)) aNil)))) (sRet (eC (.bl false))) sNext)
    (sRet (eB allD (aCons (eLc (iZp (aCons (eFld ["Program"] "members" (eVar 0)) (aCons (eFld ["Program"] "members" (eVar 1)) aNil))) (gTp 2 (zve (gNm 3) (zve (gNm 4) gNil_))) bYes (z2h zsb) [3,4]) aNil))))))))
def z9:Nat→DF
 | 0=>fun _ _=>.no
 |n+1=>lenF 2 (runF 5 (zae (z9 n)))
theorem z2l (T:Tx K mg):∀n:Nat,FnD P w K mg base (3+3*n) (He.ma K (He.ga K "Program") "__eq__") (z9 n)
 | 0=>zc9
 |n+1=>by
  have ih:=z2l T n
  obtain⟨fd,Fn⟩:=T.zkx
  exact z7 (fn_D (N:=zph) (ps:=["self", "other"]) (k:=3+3*n+2) (g:=zae (z9 n)) Fn zef (fun cdv A outer s H E hr=>by
  have tk:yk (cxOf (L2N.CX P w) P w K mg base zph "Program.__eq__" (defScope ztc) (He.ma K (He.ga K "Program") "__eq__") cdv A outer s H E) (fun c d _ H=>E c d H):=yi rfl rfl rfl rfl
  exact (zi (ds_if (zif (zsd (zek (by rfl) T.zlb (ze (pv 1)) (pe_glob (v:=.ref (He.ga K "Program")) (by rfl) T.zfh rfl) (.own (He.ga K "Program")) T.zwd))) (zj (zq (de_bl))) z0b)
  (zi (zmb (zwb (zb (zbd (Cs:=["Program"]) T.z5t (ze (pv 0))) (zb (zbd (Cs:=["Program"]) T.zq5 (ze (pv 0))) (zb (zbd (Cs:=["Program"]) T.zc3 (ze (pv 0))) (zb (zbd (Cs:=["Program"]) T.f_tag (ze (pv 0))) zg))))) (dgn 2 zef.nd))
  (zi (ds_if (zfb (z8k hr.units) (ze (pv 2)) (zwb (zb (zbd (Cs:=["Program"]) T.z5t (ze (pv 1))) (zb (zbd (Cs:=["Program"]) T.zq5 (ze (pv 1))) (zb (zbd (Cs:=["Program"]) T.zc3 (ze (pv 1))) (zb (zbd (Cs:=["Program"]) T.f_tag (ze (pv 1))) zg))))) (nomark _) bl_ne) (zj (zq (de_bl))) z0b)
  (zi (ds_if (zfb (zvc hr.units) (zbd (Cs:=["Program"]) T.z5t (ze (pv 0))) (zl) (nomark _) bl_eq) (zj (zq (zmdb (zr8 (k:=(3+3*n)) (ts:=bopTs) (t:=[("Block",zeb),("Program",(z9 n))]) (neg:=false) tk (zcd (zn1 T.zd3 ((zel T).mono (by omega))) (zcd (zn1 T.zpv (ih.mono (by omega))) zrh)) (hr.mono (by omega))) (zbd (Cs:=["Program"]) T.zh7 (ze (pv 0))) (zbd (Cs:=["Program"]) T.zh7 (ze (pv 1))) (nomark _)))) z0b)
  (zi (ds_if (zfb (z8k hr.units) (zag (k:=0) (t:=[]) tk (fun _ z=>nomatch z) (hr.mono (by omega)) (by rfl) T.b_len (zb (zbd (Cs:=["Program"]) T.zfl (ze (pv 0))) zg)) (zag (k:=0) (t:=[]) tk (fun _ z=>nomatch z) (hr.mono (by omega)) (by rfl) T.b_len (zb (zbd (Cs:=["Program"]) T.zfl (ze (pv 1))) zg)) (nomark _) bl_ne) (zj (zq (de_bl))) z0b)
  (zj (zq (zjj (zu1 rfl) (by rfl) T.b_all (by decide +kernel) (zb (de_lc (own:=[("one",3),("two",4)]) rfl zef.nd (z4lb (by rfl) T.b_zip (zb (zbd (Cs:=["Program"]) T.zfl (ze (pv 0))) (zb (zbd (Cs:=["Program"]) T.zfl (ze (pv 1))) zg))) (blkOk_by (N:=zph) (sc:=defScope ztc) (own:=[("one",3),("two",4)]) (by decide +kernel)) (fun _ _ _ _ _=>(zr1 rfl (z7f (dgn 3 zef.nd) (z7f (dgn 4 zef.nd) zsv)))) (fun _ _ _ _ _=>zei) (fun _ _ _ _ _=>(zmdb (zr8 (k:=(3+3*n)) (ts:=bopTs) (t:=[("Block",zeb),("Program",(z9 n))]) (neg:=false) zxj (zcd (zn1 T.zd3 ((zel T).mono (by omega))) (zcd (zn1 T.zpv (ih.mono (by omega))) zrh)) (hr.mono (by omega))) (ze (pv 3)) (ze (pv 4)) (nomark _))) (by decide)) zg))))))))))) (Fn.bindsN fun _ _ _ _ _ _ us hl=>match us,hl with |[_,_],_=>rfl)
def zsb:DF:=z9 24
theorem zmv (T:Tx K mg):FnD P w K mg base 75 (He.ma K (He.ga K "Program") "__eq__") zsb:=(z2l (P:=P) (w:=w) (base:=base) T 24)
theorem eqs_T (T:Tx K mg) {k:Nat} (hk:75≤k):∀q∈([("Block",zeb),("Program",zsb)]:Tbl),EqM P w K mg base k bopTs q.1 q.2:=
 (zcd (zn1 T.zd3 ((zel T).mono (yy (by decide) hk))) (zcd (zn1 T.zpv ((zmv T).mono (yy (by decide) hk))) zrh))
abbrev zpl:List Str:=["self"]
theorem zxw:FnScope zpl ["self"] (defScope z7b):=⟨rfl,rfl,rfl,by decide +kernel,rfl,by decide +kernel,by decide +kernel⟩
def z1i:DS:=
    (sRet (eFld ["Program"] "size" (eVar 0)))
def zkl:DF:=runF 1 z1i
def zog:DF:=lenF 1 zkl
theorem z5w (T:Tx K mg):∃fd,FunD K "parts" "Program.parts" (defArgs z7b) (defBody z7b) (defScope z7b) [] [] (He5.wf K (He.ga K "Program") "property" "parts") fd∧FnG P w K mg base 1 (He5.wf K (He.ga K "Program") "property" "parts") fd ["self"] (spD K 1 zkl):=by
 obtain⟨fd,Fn⟩:=T.znz
 exact⟨fd,Fn,fn_D (N:=zpl) (ps:=["self"]) (k:=0) (g:=z1i) Fn zxw (fun cdv A outer s H E hr=>by
  have tk:yk (cxOf (L2N.CX P w) P w K mg base zpl "Program.parts" (defScope z7b) (He5.wf K (He.ga K "Program") "property" "parts") cdv A outer s H E) (fun c d _ H=>E c d H):=yi rfl rfl rfl rfl
  exact (zj (zq (zbd (Cs:=["Program"]) T.zi9 (ze (pv 0))))))⟩
theorem zqo (T:Tx K mg):FnD P w K mg base 1 (He5.wf K (He.ga K "Program") "property" "parts") zog:=by
 obtain⟨fd,Fn,Fg⟩:=z5w (P:=P) (w:=w) (base:=base) T
 exact z7 Fg (Fn.bindsN fun _ _ _ _ _ _ us hl=>match us,hl with |[_],_=>rfl)
abbrev zhq:List Str:=["self", "k"]
theorem z61:FnScope zhq ["self", "k"] (defScope zid):=⟨rfl,rfl,rfl,by decide +kernel,rfl,by decide +kernel,by decide +kernel⟩
def ztm:DS:=
    (sSeq (sIf ((bOr (bNot (bT (eIsi (isfT zwn) (eVar 1)))) (bOr (bT (eIsi (isfT zkk) (eVar 1))) (bNot (bT (zqp leD ltD (eC (.int 0)) (eVar 1) (eProp "Program" zog (eVar 0)))))))) (zvf "NoPart" "value" 25 (eVar 1)) sNext)
    (sRet (eIx [] (eFn zne (aCons (eVar 0) aNil)) (eVar 1))))
def z6p:DF:=runF 2 ztm
def zdm:DF:=lenF 2 z6p
theorem z42 (T:Tx K mg):∃fd,FunD K "at" "Program.at" (defArgs zid) (defBody zid) (defScope zid) [] [] (He.ma K (He.ga K "Program") "at") fd∧FnG P w K mg base 75 (He.ma K (He.ga K "Program") "at") fd ["self", "k"] (spD K 2 z6p):=by
 obtain⟨fd,Fn⟩:=T.z55
 exact⟨fd,Fn,fn_D (N:=zhq) (ps:=["self", "k"]) (k:=74) (g:=ztm) Fn z61 (fun cdv A outer s H E hr=>by
  have tk:yk (cxOf (L2N.CX P w) P w K mg base zhq "Program.at" (defScope zid) (He.ma K (He.ga K "Program") "at") cdv A outer s H E) (fun c d _ H=>E c d H):=yi rfl rfl rfl rfl
  exact (zi (ds_if (PW.pt (dw_or (zif (zsd (zek (by rfl) T.zlb (ze (pv 1)) (pe_bltn (v:=.ty "int") (by rfl) T.b_int (by decide +kernel) rfl) (.ty "int") T.zwn))) (dw_or (zsd (zek (by rfl) T.zlb (ze (pv 1)) (pe_bltn (v:=.ty "bool") (by rfl) T.zghb (by decide +kernel) rfl) (.ty "bool") T.zkk)) (ztw (zif (zl9 z8o z3u bl_le bl_lt (zo) (ze (pv 1)) (zuv (C:="Program") T.zrj T.z7o (zqo T) (rmo hr) (ze (pv 0))))))))) (zj (zsp zgl rfl tk T.zzx (zr5 T).choose_spec.1 (zr5 T).choose_spec.2 (rmo hr) (by rfl) T.zkfb (ze (pv 1)))) z0b)
  (zj (zq (de_ix (k:=0) (t:=[]) tk (fun _ z=>nomatch z) (rmo hr) (de_fn tk (z4l T) (rmo hr) (by rfl) T.zal T.z9k (zb (ze (pv 0)) zg)) (ze (pv 1)) (fun _ _=>rfl) (fun _ _=>by with_unfolding_all rfl))))))⟩
theorem zb3 (T:Tx K mg):FnD P w K mg base 75 (He.ma K (He.ga K "Program") "at") zdm:=by
 obtain⟨fd,Fn,Fg⟩:=z42 (P:=P) (w:=w) (base:=base) T
 exact z7 Fg (Fn.bindsN fun _ _ _ _ _ _ us hl=>match us,hl with |[_,_],_=>rfl)
abbrev zfq:List Str:=["_law_tree_here", "_law_found", "_law_member_here"]
theorem zhk:FnScope zfq ["_law_tree_here"] (defScope zre):=⟨rfl,rfl,rfl,by decide +kernel,rfl,by decide +kernel,by decide +kernel⟩
def z3m (zng:DF):DS:=(sAug 1 (eFn zng (aCons (eVar 2) aNil)))
def zrm (zng:DF):DS:=
    (sSeq (sAsg (eCel (aCons (eVar 0) aNil)) (gNm 1))
    (sSeq (sFor (iSeq (eIx [("Block",zf)] (eVar 0) (eC (.int 2)))) (gNm 2) (z3m zng))
    (sRet (eVar 1))))
def zsf:Nat→DF
 | 0=>fun _ _=>.no
 |n+1=>lenF 1 (runF 3 (zrm (zsf n)))
theorem zpr (T:Tx K mg):∀n:Nat,FnD P w K mg base (6+3*n) (He.ga K "_law_parts") (zsf n)
 | 0=>zc9
 |n+1=>by
  have ih:=zpr T n
  obtain⟨fd,Fn⟩:=T.z35
  exact z7 (fn_D (N:=zfq) (ps:=["_law_tree_here"]) (k:=6+3*n+2) (g:=zrm (zsf n)) Fn zhk (fun cdv A outer s H E hr=>by
  have tk:yk (cxOf (L2N.CX P w) P w K mg base zfq "_law_parts" (defScope zre) (He.ga K "_law_parts") cdv A outer s H E) (fun c d _ H=>E c d H):=yi rfl rfl rfl rfl
  exact (zi (zmb (zo9 (zb (ze (pv 0)) zg)) (dgn 1 zhk.nd))
  (zi (zrr (passes_of rfl) rfl (z6f (de_ix (k:=3) (t:=[("Block",zf)]) tk (zp T (by omega)) (hr.mono (by omega)) (ze (pv 0)) (zo) (fun _ _=>rfl) (fun _ _=>by with_unfolding_all rfl))) (dgn 2 zhk.nd) (zj (zgdb (i:=1) zhk.nd rfl (Or.inl rfl) (de_fn tk ih (hr.mono (by omega)) (by rfl) T.zow T.zkw (zb (ze (pv 2)) zg)))))
  (zj (zq (ze (pv 1)))))))) (Fn.bindsN fun _ _ _ _ _ _ us hl=>match us,hl with |[_],_=>rfl)
def zng:DF:=zsf 24
theorem za3 (T:Tx K mg):FnD P w K mg base 78 (He.ga K "_law_parts") zng:=(zpr (P:=P) (w:=w) (base:=base) T 24)
abbrev zeq:List Str:=["_law_program_here", "_law_trees", "_law_at", "_law_tree_here"]
theorem zgk:FnScope zeq ["_law_program_here", "_law_trees"] (defScope zgd):=⟨rfl,rfl,rfl,by decide +kernel,rfl,by decide +kernel,by decide +kernel⟩
def z5e:DS:=(sSeq (sIf (bT (eOpW (eqoW bopTs [("Block",zeb),("Program",zsb)] true) (eMeth "Program" "at" zdm (eVar 0) (aCons (eVar 2) aNil)) (eFn zxb (aCons (eVar 3) aNil)))) (sRet (eC (.bl false))) sNext)
    (sAug 2 (eLen [("Block",zn)] (aCons (eFn zng (aCons (eVar 3) aNil)) aNil))))
def zqm:DS:=
    (sSeq (sIf ((bOr (bT (eOp neD (eFld ["Program"] "word" (eVar 0)) (eC (.str "sum")))) (bT (eOpW (eqoW bopTs [("Block",zeb),("Program",zsb)] true) (eVar 0) (eFn zxb (aCons (eTup (aCons (eC (.str "sum")) (aCons (eC (.int 0)) (aCons (eB zxo (aCons (eVar 1) aNil)) aNil)))) aNil)))))) (sRet (eC (.bl false))) sNext)
    (sSeq (sAsg (eC (.int 1)) (gNm 2))
    (sSeq (sFor (iSeq (eVar 1)) (gNm 3) z5e)
    (sRet (eOp eqD (eProp "Program" zog (eVar 0)) (eVar 2))))))
def z4p:DF:=runF 4 zqm
def zxe:DF:=lenF 2 z4p
theorem z22 (T:Tx K mg):∃fd,FunD K "_law_right" "_law_right" (defArgs zgd) (defBody zgd) (defScope zgd) [] [] (He.ga K "_law_right") fd∧FnG P w K mg base 153 (He.ga K "_law_right") fd ["_law_program_here", "_law_trees"] (spD K 2 z4p):=by
 obtain⟨fd,Fn⟩:=T.z25
 exact⟨fd,Fn,fn_D (N:=zeq) (ps:=["_law_program_here", "_law_trees"]) (k:=152) (g:=zqm) Fn zgk (fun cdv A outer s H E hr=>by
  have tk:yk (cxOf (L2N.CX P w) P w K mg base zeq "_law_right" (defScope zgd) (He.ga K "_law_right") cdv A outer s H E) (fun c d _ H=>E c d H):=yi rfl rfl rfl rfl
  exact (zi (ds_if (PW.pt (dw_or (zfb (z8k hr.units) (zbd (Cs:=["Program"]) T.z5t (ze (pv 0))) (zl) (nomark _) bl_ne) (ztw (zddb (zr8 (k:=75) (ts:=bopTs) (t:=[("Block",zeb),("Program",zsb)]) (neg:=true) tk (eqs_T T (by decide)) (rmo hr)) zfhb (ze (pv 0)) (de_fn tk (zgg T) (rmo hr) (by rfl) T.z4e T.z3e (zb (zwb (zb (zl) (zb (zo) (zb (zee z7l (by rfl) T.zy3 (by decide +kernel) (zb (ze (pv 1)) zg)) zg)))) zg)) (nomark _))))) (zj (zq (de_bl))) z0b)
  (zi (zmb (zo) (dgn 2 zgk.nd))
  (zi (zrr (passes_of rfl) rfl (z6f (ze (pv 1))) (dgn 3 zgk.nd) (zi (ds_if (zddb (zr8 (k:=75) (ts:=bopTs) (t:=[("Block",zeb),("Program",zsb)]) (neg:=true) tk (eqs_T T (by decide)) (rmo hr)) zfhb (zr7 (C:="Program") tk T.zrj (zsy T.zk4) (zb3 T) (rmo hr) (ze (pv 0)) (zb (ze (pv 2)) zg)) (de_fn tk (zgg T) (rmo hr) (by rfl) T.z4e T.z3e (zb (ze (pv 3)) zg)) (nomark _)) (zj (zq (de_bl))) z0b)
  (zj (zgdb (i:=2) zgk.nd rfl (Or.inl rfl) (zag (k:=2) (t:=[("Block",zn)]) tk (zlf T (by decide)) (rmo hr) (by rfl) T.b_len (zb (de_fn tk (za3 T) (rmo hr) (by rfl) T.zow T.zkw (zb (ze (pv 3)) zg)) zg))))))
  (zj (zq (zx5 (zvc hr.units) (zuv (C:="Program") T.zrj T.z7o (zqo T) (rmo hr) (ze (pv 0))) (ze (pv 2)) (nomark _))))))))⟩
theorem zzn (T:Tx K mg):FnD P w K mg base 153 (He.ga K "_law_right") zxe:=by
 obtain⟨fd,Fn,Fg⟩:=z22 (P:=P) (w:=w) (base:=base) T
 exact z7 Fg (Fn.bindsN fun _ _ _ _ _ _ us hl=>match us,hl with |[_,_],_=>rfl)
abbrev zzh:List Str:=["self", "at", "line"]
theorem z7q:FnScope zzh ["self", "at", "line"] (defScope z4):=⟨rfl,rfl,rfl,by decide +kernel,rfl,by decide +kernel,by decide +kernel⟩
def zig:DS:=
    (sSeq (sIf (bNot (bT (eFn zaj (aCons (eVar 1) (aCons (eLen [] (aCons (eFldH ["Block"] "rows" (eVar 0)) aNil)) aNil))))) (zvf "NoLine" "value" 25 (eVar 1)) sNext)
    (sSeq (sIf (bNot (bT (eFn zpn (aCons (eVar 2) aNil)))) (zvf "BadLine" "value" 41 (eVar 2)) sNext)
    (sSetL (eBM "str" z2u (eVar 2) (aCons (eC (.str " ")) aNil)) (eFldH ["Block"] "rows" (eVar 0)) (eVar 1))))
def zxh:DF:=runF 3 zig
def zpb:DF:=lenF 3 zxh
theorem zar (T:Tx K mg):∃fd,FunD K "__setitem__" "Block.__setitem__" (defArgs z4) (defBody z4) (defScope z4) [] [] (He.ma K (He.ga K "Block") "__setitem__") fd∧FnG P w K mg base 3 (He.ma K (He.ga K "Block") "__setitem__") fd ["self", "at", "line"] (spD K 3 zxh):=by
 obtain⟨fd,Fn⟩:=T.zus
 exact⟨fd,Fn,fn_D (N:=zzh) (ps:=["self", "at", "line"]) (k:=2) (g:=zig) Fn z7q (fun cdv A outer s H E hr=>by
  have tk:yk (cxOf (L2N.CX P w) P w K mg base zzh "Block.__setitem__" (defScope z4) (He.ma K (He.ga K "Block") "__setitem__") cdv A outer s H E) (fun c d _ H=>E c d H):=yi rfl rfl rfl rfl
  exact (zi (ds_if (zif (zsd (de_fn tk (zls T) (rmo hr) (by rfl) T.zgv T.zav (zb (ze (pv 1)) (zb (zag (k:=0) (t:=[]) tk (fun _ z=>nomatch z) (rmo hr) (by rfl) T.b_len (zb (zts (Cs:=["Block"]) T.z4g (ze (pv 0))) zg)) zg))))) (zj (zsp zgl rfl tk T.z9t (z7t T).choose_spec.1 (z7t T).choose_spec.2 (rmo hr) (by rfl) T.z98 (ze (pv 1)))) z0b)
  (zi (ds_if (zif (zsd (de_fn tk (zlv T) (rmo hr) (by rfl) T.z6y T.zyy (zb (ze (pv 2)) zg)))) (zj (zwe rfl tk T.zgh (z9d T).choose_spec.1 (z9d T).choose_spec.2 (rmo hr) (by rfl) T.zbl (ze (pv 2)))) z0b)
  (zj (zm7 (de_bm yx yfd ygd z7r (ze (pv 2)) (zb (zl) zg)) (zts (Cs:=["Block"]) T.z4g (ze (pv 0))) (ze (pv 1)))))))⟩
theorem zdr (T:Tx K mg):FnD P w K mg base 3 (He.ma K (He.ga K "Block") "__setitem__") zpb:=by
 obtain⟨fd,Fn,Fg⟩:=zar (P:=P) (w:=w) (base:=base) T
 exact z7 Fg (Fn.bindsN fun _ _ _ _ _ _ us hl=>match us,hl with |[_,_,_],_=>rfl)
theorem zjib (T:Tx K mg):∀q∈([("Block",zpb)]:Tbl),yvd K (He.ga K q.1)=true:=
 (zcd T.z0eb zrh)
theorem zoy (T:Tx K mg) {k:Nat} (hk:3≤k):∀q∈([("Block",zpb)]:Tbl),OwnM P w K mg base k "__setitem__" q.1 q.2:=
 (zcd ⟨_,(z8d T.zmf).1,(z8d T.zmf).2.1,(z8d T.zmf).2.2.1,(z8d T.zmf).2.2.2,(zdr T).mono (yy (by decide) hk)⟩ zrh)
abbrev zqf:List Str:=["self", "n", "line"]
theorem z6g:FnScope zqf ["self", "n"] (defScope zu):=⟨rfl,rfl,rfl,by decide +kernel,rfl,by decide +kernel,by decide +kernel⟩
def z4f:DE:=(eFn zzd (aCons (eVar 2) (aCons (eVar 1) aNil)))
def zjg:DS:=
    (sSeq (sIf (bNot (bT (eFn z6e (aCons (eVar 1) aNil)))) (zvf "BadAmount" "value" 15 (eVar 1)) sNext)
    (sSeq (sFldH ["Block"] "rows" (eLcLH (eFldH ["Block"] "rows" (eVar 0)) (gNm 2) bYes z4f [2]) (eVar 0))
    (sRet (eVar 0))))
def zyh:DF:=runF 3 zjg
def zpc:DF:=lenF 2 zyh
theorem zbr (T:Tx K mg):∃fd,FunD K "__irshift__" "Block.__irshift__" (defArgs zu) (defBody zu) (defScope zu) [] [] (He.ma K (He.ga K "Block") "__irshift__") fd∧FnG P w K mg base 4 (He.ma K (He.ga K "Block") "__irshift__") fd ["self", "n"] (spD K 2 zyh):=by
 obtain⟨fd,Fn⟩:=T.zvs
 exact⟨fd,Fn,fn_D (N:=zqf) (ps:=["self", "n"]) (k:=3) (g:=zjg) Fn z6g (fun cdv A outer s H E hr=>by
  have tk:yk (cxOf (L2N.CX P w) P w K mg base zqf "Block.__irshift__" (defScope zu) (He.ma K (He.ga K "Block") "__irshift__") cdv A outer s H E) (fun c d _ H=>E c d H):=yi rfl rfl rfl rfl
  exact (zi (ds_if (zif (zsd (de_fn tk (z3l T) (rmo hr) (by rfl) T.zxn T.zvn (zb (ze (pv 1)) zg)))) (zj (zwe rfl tk T.zuh (zhf T).choose_spec.1 (zhf T).choose_spec.2 (rmo hr) (by rfl) T.zyn (ze (pv 1)))) z0b)
  (zi (zn7 (Cs:=["Block"]) T.z4g (ze (pv 0)) (zsjb (own:=[("line",2)]) rfl z6g.nd (zts (Cs:=["Block"]) T.z4g (ze (pv 0))) (blkOk_by (N:=zqf) (sc:=defScope zu) (own:=[("line",2)]) (by decide +kernel)) (fun _ _ _ _ _=>(dgn 2 z6g.nd)) (fun _ _ _ _ _=>zei) (fun _ _ _ _ _=>(de_fn zxj (zci T) (rmo hr) (by rfl) T.zgj T.zfj (zb (ze (pv 2)) (zb (ze (pv 1)) zg)))) (by decide)))
  (zj (zq (ze (pv 0)))))))⟩
theorem zer (T:Tx K mg):FnD P w K mg base 4 (He.ma K (He.ga K "Block") "__irshift__") zpc:=by
 obtain⟨fd,Fn,Fg⟩:=zbr (P:=P) (w:=w) (base:=base) T
 exact z7 Fg (Fn.bindsN fun _ _ _ _ _ _ us hl=>match us,hl with |[_,_],_=>rfl)
theorem z3w (T:Tx K mg) {k:Nat} (hk:4≤k):∀q∈([("Block",zpc)]:Tbl),IopM P w K mg base k .RShift q.1 q.2:=
 (zcd (z3gb T.z9q ((zer T).mono (yy (by decide) hk))) zrh)
abbrev z8j:List Str:=["self", "other"]
theorem z1u:FnScope z8j ["self", "other"] (defScope zvb):=⟨rfl,rfl,rfl,by decide +kernel,rfl,by decide +kernel,by decide +kernel⟩
def zji:DS:=
    (sSeq (sIf (bNot (bT (eIsi (isfT znd) (eVar 1)))) (zj8) sNext)
    (sSeq (sFldH ["Block"] "rows" (eAddH (eFldH ["Block"] "rows" (eVar 0)) (eFn z9i (aCons (eVar 1) aNil))) (eVar 0))
    (sRet (eVar 0))))
def z5j:DF:=runF 2 zji
def ztd:DF:=lenF 2 z5j
theorem zjv (T:Tx K mg):∃fd,FunD K "__iadd__" "Block.__iadd__" (defArgs zvb) (defBody zvb) (defScope zvb) [] [] (He.ma K (He.ga K "Block") "__iadd__") fd∧FnG P w K mg base 7 (He.ma K (He.ga K "Block") "__iadd__") fd ["self", "other"] (spD K 2 z5j):=by
 obtain⟨fd,Fn⟩:=T.znx
 exact⟨fd,Fn,fn_D (N:=z8j) (ps:=["self", "other"]) (k:=6) (g:=zji) Fn z1u (fun cdv A outer s H E hr=>by
  have tk:yk (cxOf (L2N.CX P w) P w K mg base z8j "Block.__iadd__" (defScope zvb) (He.ma K (He.ga K "Block") "__iadd__") cdv A outer s H E) (fun c d _ H=>E c d H):=yi rfl rfl rfl rfl
  exact (zi (ds_if (zif (zsd (zs7 (by rfl) T.zlb (ze (pv 1)) (pe_glob (v:=.ref (He.ga K "Block")) (by rfl) T.zth rfl) (pe_bltn (v:=.ty "str") (by rfl) T.b_str (by decide +kernel) rfl) (.own (He.ga K "Block")) (.ty "str") T.znd))) (zj (zg3)) z0b)
  (zi (zn7 (Cs:=["Block"]) T.z4g (ze (pv 0)) (zvjb (zts (Cs:=["Block"]) T.z4g (ze (pv 0))) (de_fn tk (zhp T) (rmo hr) (by rfl) T.zfs T.zbs (zb (ze (pv 1)) zg))))
  (zj (zq (ze (pv 0)))))))⟩
theorem zov (T:Tx K mg):FnD P w K mg base 7 (He.ma K (He.ga K "Block") "__iadd__") ztd:=by
 obtain⟨fd,Fn,Fg⟩:=zjv (P:=P) (w:=w) (base:=base) T
 exact z7 Fg (Fn.bindsN fun _ _ _ _ _ _ us hl=>match us,hl with |[_,_],_=>rfl)
theorem zo2 (T:Tx K mg) {k:Nat} (hk:7≤k):∀q∈([("Block",ztd)]:Tbl),IopM P w K mg base k .Add q.1 q.2:=
 (zcd (z3gb T.zev ((zov T).mono (yy (by decide) hk))) zrh)
abbrev z7j:List Str:=["self", "other", "rows"]
theorem zbn:FnScope z7j ["self", "other"] (defScope zub):=⟨rfl,rfl,rfl,by decide +kernel,rfl,by decide +kernel,by decide +kernel⟩
def z6l:DS:=
    (sSeq (sIf (bNot (bT (eIsi (isfT zde) (eVar 1)))) (zj8) sNext)
    (sSeq (sAsg (eOp addD (eFn z9i (aCons (eVar 1) aNil)) (eFld ["Block"] "rows" (eVar 0))) (gNm 2))
    (sRet (eMk "Block" zfc (eC (.cls "Block")) (zuo (eVar 2))))))
def zvo:DF:=runF 3 z6l
def z9j:DF:=lenF 2 zvo
theorem ziv (T:Tx K mg):∃fd,FunD K "__radd__" "Block.__radd__" (defArgs zub) (defBody zub) (defScope zub) [] [] (He.ma K (He.ga K "Block") "__radd__") fd∧FnG P w K mg base 7 (He.ma K (He.ga K "Block") "__radd__") fd ["self", "other"] (spD K 2 zvo):=by
 obtain⟨fd,Fn⟩:=T.zlx
 exact⟨fd,Fn,fn_D (N:=z7j) (ps:=["self", "other"]) (k:=6) (g:=z6l) Fn zbn (fun cdv A outer s H E hr=>by
  have tk:yk (cxOf (L2N.CX P w) P w K mg base z7j "Block.__radd__" (defScope zub) (He.ma K (He.ga K "Block") "__radd__") cdv A outer s H E) (fun c d _ H=>E c d H):=yi rfl rfl rfl rfl
  exact (zi (ds_if (zif (zsd (zek (by rfl) T.zlb (ze (pv 1)) (pe_bltn (v:=.ty "str") (by rfl) T.b_str (by decide +kernel) rfl) (.ty "str") T.zde))) (zj (zg3)) z0b)
  (zi (zmb (de_op z0 (de_fn tk (zhp T) (rmo hr) (by rfl) T.zfs T.zbs (zb (ze (pv 1)) zg)) (zbd (Cs:=["Block"]) T.z4g (ze (pv 0)))) (dgn 2 zbn.nd))
  (zj (zq (zt1 (C:="Block") tk T.zas (zie T) (rmo hr) (zqj (C:="Block") (by rfl) T.zth) (ze (pv 2))))))))⟩
theorem znv (T:Tx K mg):FnD P w K mg base 7 (He.ma K (He.ga K "Block") "__radd__") z9j:=by
 obtain⟨fd,Fn,Fg⟩:=ziv (P:=P) (w:=w) (base:=base) T
 exact z7 Fg (Fn.bindsN fun _ _ _ _ _ _ us hl=>match us,hl with |[_,_],_=>rfl)
abbrev zoi:List Str:=["self", "other"]
theorem z3r:FnScope zoi ["self", "other"] (defScope zcb):=⟨rfl,rfl,rfl,by decide +kernel,rfl,by decide +kernel,by decide +kernel⟩
def z7g:DS:=
    (sRet (eFn zwu (aCons (eFn zsc (aCons (eVar 1) aNil)) (aCons (eVar 0) aNil))))
def zmi:DF:=runF 2 z7g
def zyb:DF:=lenF 2 zmi
theorem zis (T:Tx K mg):∃fd,FunD K "__radd__" "Program.__radd__" (defArgs zcb) (defBody zcb) (defScope zcb) [] [] (He.ma K (He.ga K "Program") "__radd__") fd∧FnG P w K mg base 78 (He.ma K (He.ga K "Program") "__radd__") fd ["self", "other"] (spD K 2 zmi):=by
 obtain⟨fd,Fn⟩:=T.ziu
 exact⟨fd,Fn,fn_D (N:=zoi) (ps:=["self", "other"]) (k:=77) (g:=z7g) Fn z3r (fun cdv A outer s H E hr=>by
  have tk:yk (cxOf (L2N.CX P w) P w K mg base zoi "Program.__radd__" (defScope zcb) (He.ma K (He.ga K "Program") "__radd__") cdv A outer s H E) (fun c d _ H=>E c d H):=yi rfl rfl rfl rfl
  exact (zj (zq (de_fn tk (zm5 T) (rmo hr) (by rfl) T.z78 T.z28 (zb (de_fn tk (zjp T) (rmo hr) (by rfl) T.zor T.zmr (zb (ze (pv 1)) zg)) (zb (ze (pv 0)) zg))))))⟩
theorem zdl (T:Tx K mg):FnD P w K mg base 78 (He.ma K (He.ga K "Program") "__radd__") zyb:=by
 obtain⟨fd,Fn,Fg⟩:=zis (P:=P) (w:=w) (base:=base) T
 exact z7 Fg (Fn.bindsN fun _ _ _ _ _ _ us hl=>match us,hl with |[_,_],_=>rfl)
theorem zej (T:Tx K mg) {k:Nat} (hk:78≤k):∀q∈([("Block",z9j),("Program",zyb)]:Tbl),RopO .Add ropTs P w K mg base k q.1 q.2:=
 (zcd (zm6 T.rO_Block___radd__ z9cb z8cb ((znv T).mono (yy (by decide) hk))) (zcd (zm6 T.rO_Program___radd__ z9cb z8cb ((zdl T).mono (yy (by decide) hk))) zrh))
abbrev binB:Tbl:=[("Block",zff),("Program",zt)]
abbrev binRt:Tbl:=[("Block",z9j),("Program",zyb)]
abbrev binA:Acc:=[(("Program", "Block"),zt)]
abbrev binD:Dcl:=[(("Block", "Program"),(zyf,zyb))]
theorem zu9 (T:Tx K mg):∀q∈binA,BopA P w K mg base 78 .Add q.1.1 q.1.2 q.2:=fun q hq=>by
 rw[yj.mp hq]
 exact z2jb (zur (op:=.Add) T.zki ((zdi T).mono (by decide))) (zur (op:=.Add) T.zmh ((z1j T).mono (by decide))) T.zvw
theorem zt9 (T:Tx K mg):∀q∈binD,BopN P w K mg base 78 .Add q.1.1 q.1.2 q.2.1 q.2.2:=fun q hq=>by
 rw[yj.mp hq]
 exact z1jb (op:=.Add) T.zmh ((zkv T).mono (by decide)) (zur (op:=.Add) T.zmh ((z1j T).mono (by decide))) (zur (op:=.Add) T.zki ((zdi T).mono (by decide))) (zm6 T.rO_Program___radd__ z9cb z8cb ((zdl T).mono (by decide))) T.zww
abbrev N_law:List Str:=["_law_script", "_law_state", "_law_names_here", "_law_first", "_law_program_here", "_law_trees", "_law_blocks", "_law_turn", "_law_kind", "_law_tree_here", "_law_thing_here", "_law_block", "_law_lines", "_law_both"]
theorem sc_law:FnScope N_law ["_law_script"] (defScope st_law):=⟨rfl,rfl,rfl,by decide +kernel,rfl,by decide +kernel,by decide +kernel⟩
def z7v:DS:=(sSeq (sAsg (eFn zye (aCons (eVar 1) (aCons (eVar 2) aNil))) (gTp 2 (zve (gNm 8) (zve (gNm 9) gNil_))))
    (sSeq (sAsg (eFn zhe (aCons (eVar 8) (aCons (eVar 9) aNil))) (gNm 10))
    (sSeq (sIf (bT (eFn z3b (aCons (eVar 1) (aCons (eC (.int 2)) aNil)))) (sSeq (sAsg (eBinR bopTs binB binA binD ropTs binRt addD (eVar 4) (eVar 10)) (gNm 4))
    (sAsg (eOp addD (eVar 5) (eLst (aCons (eVar 9) aNil))) (gNm 5))) (sSeq (sAsg (eBinR bopTs binB binA binD ropTs binRt addD (eVar 10) (eVar 4)) (gNm 4))
    (sAsg (eOp addD (eLst (aCons (eVar 9) aNil)) (eVar 5)) (gNm 5))))
    (sIf (bT (eOp eqD (eVar 8) (eC (.str "block")))) (sDrop (eAppL (eVar 6) (aCons (eTupH (aCons (eVar 10) (aCons (eB listD (aCons (eProp "Block" zqb (eVar 10)) aNil)) aNil))) aNil))) sNext))))
def zd0:DS:=(sSeq (sSetO [("Block",zpb)] (eC (.str "late")) (eVar 11) (eC (.int 0)))
    (sSeq (sAugO 11 [("Block",zpc)] (eC (.int 3)))
    (sSeq (sAugO 11 [("Block",ztd)] (eC (.str "more")))
    (sIf (bT (eOp neD (eIx [("Block",zf)] (eB listD (aCons (eProp "Block" zqb (eVar 11)) aNil)) (eC (.int 0))) (eC (.str "   late")))) (sRet (eC (.bl false))) sNext))))
def den_law:DS:=
    (sSeq (sAsg (eFn zvj (aCons (eVar 0) aNil)) (gNm 1))
    (sSeq (sAsg (eLstH (aCons (eC (.str "c")) (aCons (eC (.str "b")) (aCons (eC (.str "a")) aNil)))) (gNm 2))
    (sSeq (sAsg (eFn z7e (aCons (eVar 1) (aCons (eVar 2) (aCons (eC (.int 1)) aNil)))) (gNm 3))
    (sSeq (sAsg (eFn zxb (aCons (eVar 3) aNil)) (gNm 4))
    (sSeq (sAsg (eLst (aCons (eVar 3) aNil)) (gNm 5))
    (sSeq (sAsg (eLstH (aNil)) (gNm 6))
    (sSeq (sFor (zfv (aCons (eOp addD (eC (.int 1)) (eFn z3b (aCons (eVar 1) (aCons (eC (.int 4)) aNil)))) aNil)) (gNm 7) z7v)
    (sSeq (sIf (bNot (bT (eFn zxe (aCons (eVar 4) (aCons (eVar 5) aNil))))) (sRet (eC (.bl false))) sNext)
    (sSeq (zk8 (eVar 6) (gTpH 2 (zyt (gNm 11) (zyt (gNm 12) gNilH))) zd0)
    (sSeq (sAsg (eBinR bopTs binB binA binD ropTs binRt addD (eVar 4) (eBinR bopTs binB binA binD ropTs binRt addD (eC (.str "m")) (eFn zxb (aCons (eTup (aCons (eC (.str "fixed")) (aCons (eTup (aCons (eC (.str "n")) (aCons (eC (.str "  p")) aNil))) (aCons (eTup (aNil)) aNil)))) aNil)))) (gNm 13))
    (sRet ((eAnd (eFn zxe (aCons (eVar 4) (aCons (eVar 5) aNil))) (eFn zxe (aCons (eVar 13) (aCons (eOp addD (eVar 5) (eLst (aCons (eTup (aCons (eC (.str "fixed")) (aCons (eTup (aCons (eC (.str "m")) aNil)) (aCons (eTup (aNil)) aNil)))) (aCons (eTup (aCons (eC (.str "fixed")) (aCons (eTup (aCons (eC (.str "n")) (aCons (eC (.str "  p")) aNil))) (aCons (eTup (aNil)) aNil)))) aNil)))) aNil))))))))))))))))
def R_law:DF:=runF 14 den_law
def F_law:DF:=lenF 1 R_law
theorem fg_law (T:Tx K mg):∃fd,FunD K "law" "law" (defArgs st_law) (defBody st_law) (defScope st_law) [] [] (He.ga K "law") fd∧FnG P w K mg base 154 (He.ga K "law") fd ["_law_script"] (spD K 1 R_law):=by
 obtain⟨fd,Fn⟩:=T.d_law
 exact⟨fd,Fn,fn_D (N:=N_law) (ps:=["_law_script"]) (k:=153) (g:=den_law) Fn sc_law (fun cdv A outer s H E hr=>by
  have tk:yk (cxOf (L2N.CX P w) P w K mg base N_law "law" (defScope st_law) (He.ga K "law") cdv A outer s H E) (fun c d _ H=>E c d H):=yi rfl rfl rfl rfl
  exact (zi (zmb (de_fn tk (z92 T) (rmo hr) (by rfl) T.z34 T.zv4 (zb (ze (pv 0)) zg)) (dgn 1 sc_law.nd))
  (zi (zmb (zk3 (zb (zl) (zb (zl) (zb (zl) zg)))) (dgn 2 sc_law.nd))
  (zi (zmb (de_fn tk (zsw T) (rmo hr) (by rfl) T.z8y T.z0y (zb (ze (pv 1)) (zb (ze (pv 2)) (zb (zo) zg)))) (dgn 3 sc_law.nd))
  (zi (zmb (de_fn tk (zgg T) (rmo hr) (by rfl) T.z4e T.z3e (zb (ze (pv 3)) zg)) (dgn 4 sc_law.nd))
  (zi (zmb (zzi (zb (ze (pv 3)) zg)) (dgn 5 sc_law.nd))
  (zi (zmb (zk3 (zg)) (dgn 6 sc_law.nd))
  (zi (zrr (passes_of rfl) rfl (zjz (by rfl) T.z87 (zb (de_op z0 (zo) (de_fn tk (znc T) (rmo hr) (by rfl) T.z9c T.z8c (zb (ze (pv 1)) (zb (zo) zg)))) zg)) (dgn 7 sc_law.nd) (zi (zmb (de_fn tk (zs0 T) (rmo hr) (by rfl) T.zt2 T.zm2 (zb (ze (pv 1)) (zb (ze (pv 2)) zg))) (zr1 rfl (z7f (dgn 8 sc_law.nd) (z7f (dgn 9 sc_law.nd) zsv))))
  (zi (zmb (de_fn tk (z82 T) (rmo hr) (by rfl) T.z24 T.zu4 (zb (ze (pv 8)) (zb (ze (pv 9)) zg))) (dgn 10 sc_law.nd))
  (zi (ds_if (zsd (de_fn tk (znc T) (rmo hr) (by rfl) T.z9c T.z8c (zb (ze (pv 1)) (zb (zo) zg)))) (zi (zmb (zm3 (k:=78) (ts:=bopTs) (rts:=ropTs) (t:=binB) (acc:=binA) (dec:=binD) (rt:=binRt) zlt tk (zsj T (by decide)) (zu9 T) (zt9 T) (zej T (by decide)) (rmo hr) z0 (ze (pv 4)) (ze (pv 10))) (dgn 4 sc_law.nd))
  (zj (zmb (de_op z0 (ze (pv 5)) (zzi (zb (ze (pv 9)) zg))) (dgn 5 sc_law.nd)))) (zi (zmb (zm3 (k:=78) (ts:=bopTs) (rts:=ropTs) (t:=binB) (acc:=binA) (dec:=binD) (rt:=binRt) zlt tk (zsj T (by decide)) (zu9 T) (zt9 T) (zej T (by decide)) (rmo hr) z0 (ze (pv 10)) (ze (pv 4))) (dgn 4 sc_law.nd))
  (zj (zmb (de_op z0 (zzi (zb (ze (pv 9)) zg)) (ze (pv 5))) (dgn 5 sc_law.nd)))))
  (zj (ds_if (zfb (zvc hr.units) (ze (pv 8)) (zl) (nomark _) bl_eq) (zj (zqv (zujb (ze (pv 6)) (zb (zpjb (zb (ze (pv 10)) (zb (zee zil (by rfl) T.z95 (by decide +kernel) (zb (zuv (C:="Block") T.z77 T.zsn (znm T) (rmo hr) (ze (pv 10))) zg)) zg))) zg)))) z0b))))))
  (zi (ds_if (zif (zsd (de_fn tk (zzn T) (rmo hr) (by rfl) T.zdp T.zap (zb (ze (pv 4)) (zb (ze (pv 5)) zg))))) (zj (zq (de_bl))) z0b)
  (zi (ztfb (passes_of rfl) rfl (ze (pv 6)) (znjb rfl (zv5 (dgn 11 sc_law.nd) (zv5 (dgn 12 sc_law.nd) zwfb))) (zi (zmjb (k:=3) (t:=[("Block",zpb)]) tk (zoy T (by decide)) (zjib T) (rmo hr) (zl) (ze (pv 11)) (zo))
  (zi (zfdb (k:=4) (i:=11) (t:=[("Block",zpc)]) tk (z3w T (by decide)) (rmo hr) sc_law.nd rfl (Or.inl rfl) (zo))
  (zi (zfdb (k:=7) (i:=11) (t:=[("Block",ztd)]) tk (zo2 T (by decide)) (rmo hr) sc_law.nd rfl (Or.inl rfl) (zl))
  (zj (ds_if (zfb (z8k hr.units) (de_ix (k:=3) (t:=[("Block",zf)]) tk (zp T (by decide)) (rmo hr) (zee zil (by rfl) T.z95 (by decide +kernel) (zb (zuv (C:="Block") T.z77 T.zsn (znm T) (rmo hr) (ze (pv 11))) zg)) (zo) (fun _ _=>rfl) (fun _ _=>by with_unfolding_all rfl)) (zl) (nomark _) bl_ne) (zj (zq (de_bl))) z0b))))))
  (zi (zmb (zm3 (k:=78) (ts:=bopTs) (rts:=ropTs) (t:=binB) (acc:=binA) (dec:=binD) (rt:=binRt) zlt tk (zsj T (by decide)) (zu9 T) (zt9 T) (zej T (by decide)) (rmo hr) z0 (ze (pv 4)) (zm3 (k:=78) (ts:=bopTs) (rts:=ropTs) (t:=binB) (acc:=binA) (dec:=binD) (rt:=binRt) zlt tk (zsj T (by decide)) (zu9 T) (zt9 T) (zej T (by decide)) (rmo hr) z0 (zl) (de_fn tk (zgg T) (rmo hr) (by rfl) T.z4e T.z3e (zb (zwb (zb (zl) (zb (zwb (zb (zl) (zb (zl) zg))) (zb (zwb (zg)) zg)))) zg)))) (dgn 13 sc_law.nd))
  (zj (zq ((zlz (de_fn tk (zzn T) (rmo hr) (by rfl) T.zdp T.zap (zb (ze (pv 4)) (zb (ze (pv 5)) zg))) (zs1 (de_fn tk (zzn T) (rmo hr) (by rfl) T.zdp T.zap (zb (ze (pv 13)) (zb (de_op z0 (ze (pv 5)) (zzi (zb (zwb (zb (zl) (zb (zwb (zb (zl) zg)) (zb (zwb (zg)) zg)))) (zb (zwb (zb (zl) (zb (zwb (zb (zl) (zb (zl) zg))) (zb (zwb (zg)) zg)))) zg)))) zg)))))))))))))))))))⟩
theorem fd_law (T:Tx K mg):FnD P w K mg base 154 (He.ga K "law") F_law:=by
 obtain⟨fd,Fn,Fg⟩:=fg_law (P:=P) (w:=w) (base:=base) T
 exact z7 Fg (Fn.bindsN fun _ _ _ _ _ _ us hl=>match us,hl with |[_],_=>rfl)
end
end LK
namespace LK
open PySem PySem.Spec L2 DL TM SX
structure Wd (w:List Nat):Prop where
 hd:∃c t,w=c::t∧c≠32
 la:∃t c,w=t++[c]∧c≠32
 all:∀c∈w,32≤c∧c<127
theorem Wd.one {c:Nat} (h:33≤c∧c<127):Wd [c]:=⟨⟨c,[],rfl,by omega⟩,⟨[],c,rfl,by omega⟩,fun x hx=>by simp at hx;omega⟩
theorem Wd.app {w u:List Nat} (h:Wd w) (hu:Wd u) (j:Nat):Wd (w++yn j 32++u):=by
 obtain⟨c,t,e,hc⟩:=h.hd
 obtain⟨t2,c2,e2,hc2⟩:=hu.la
 refine⟨⟨c,t++yn j 32++u,by rw[e];simp,hc⟩,⟨w++yn j 32++t2,c2,by rw[e2];simp,hc2⟩,fun x hx=>?_⟩
 simp only[yz,ygc] at hx
 rcases hx with (hx |hx) |hx
 ·exact h.all x hx
 ·omega
 ·exact hu.all x hx
theorem Wd.rep {w:List Nat} (h:Wd w):∀j:Nat,Wd (yn (j+1) w).flatten
 | 0=>by simpa using h
 |j+1=>by
  have:=h.app (Wd.rep h j) 0
  rw[y5b,y1c]
  simpa using this
abbrev Row:=Int × List Nat
def zm (r:Row):List Nat:=yn r.1.toNat 32++r.2
/-- a blank line, or a margin up to B and a word of up to L signs -/
def RowIn (B L:Nat) (r:Row):Prop:=(r.1 = -1∧r.2=[])∨(0≤r.1∧r.1≤B∧Wd r.2∧r.2.length≤L)
theorem RowIn.mono {B L B' L':Nat} {r:Row} (h:RowIn B L r) (hb:B≤B') (hl:L≤L'):RowIn B' L' r:=by
 rcases h with h |⟨h1,h2,h3,h4⟩
 ·exact .inl h
 ·exact .inr ⟨h1,by omega,h3,by omega⟩
theorem RowIn.w {B L:Nat} {r:Row} (h:RowIn B L r):r.2.length≤L:=by
 rcases h with ⟨_,h⟩ |⟨_,_,_,h⟩
 ·rw[h];simp
 ·exact h
theorem RowIn.t {B L:Nat} {r:Row} (h:RowIn B L r) : -1≤r.1∧r.1≤B:=by
 rcases h with ⟨h,_⟩ |⟨h,h2,_,_⟩ <;> omega
theorem RowIn.len {B L:Nat} {r:Row} (h:RowIn B L r):(zm r).length≤B+L:=by
 have:=h.w
 have:=h.t
 unfold zm
 rw[yg,y0b]
 omega
theorem RowIn.chr {B L:Nat} {r:Row} (h:RowIn B L r):∀c∈zm r,32≤c∧c<127:=fun c hc=>by
 unfold zm at hc
 rcases yz.mp hc with hc |hc
 ·have:=(ygc.mp hc).2
  omega
 ·rcases h with ⟨_,h⟩ |⟨_,_,h,_⟩
  ·rw[h] at hc;cases hc
  ·exact h.all c hc
theorem RowIn.nil {B L:Nat} {r:Row} (h:RowIn B L r):zm r=[]↔r.1 = -1:=by
 rcases h with ⟨h1,h2⟩ |⟨h1,_,h2,_⟩
 ·constructor
  ·exact fun _=>h1
  ·intro _
   unfold zm
   rw[h1,h2]
   rfl
 ·constructor
  ·intro e
   obtain⟨c,t,e2,_⟩:=h2.hd
   unfold zm at e
   rw[e2] at e
   simp at e
  ·omega
theorem zokb {w:List Nat} (h:Wd w) (p:List Nat):rdw (p++w)=p++w:=by
 obtain⟨t,c,rfl,hc⟩:=h.la
 unfold rdw
 rw[←y3b,yad,List.reverse_singleton,List.singleton_append,y6b,if_neg (by simp[sp,hc])]
 simp
theorem za2 {B L:Nat} {r:Row} (h:RowIn B L r):rdw (zm r)=zm r:=by
 rcases h with ⟨h1,h2⟩ |⟨_,_,h,_⟩
 ·unfold zm;rw[h1,h2];rfl
 ·exact zokb h _
/-- data that isinstance knows: no object of an own class but a block -/
def Plain (x:D):Prop:=match x with
 |.cls _=>False
 |.obj _ _ _=>False
 |.dic _ _=>False
 |.opq=>False
 |.tk _=>False
 |_=>True
def intIn (x:D) (n:Int):Bool:=match x with
 |.int i=>decide (0≤i)&&decide (i<n)
 |_=>false
def z68:D→Bool
 |.int _=>true
 |_=>false
theorem zlw {x:D} (h:Plain x) (m:Mem):zmo [.d x] m = .ok (.d (.bl (z68 x))) m:=by
 cases x <;> first |exact h.elim |simp[zmo,z2s,z5n,zwn,zkk,isfT,z68]
theorem zds {x:D} (h:Plain x) (n:Int) (m:Mem):zaj [.d x,.d (.int n)] m = .ok (.d (.bl (intIn x n))) m:=by
 cases x with
 |int i=>by_cases hi:0≤i <;> simp[zaj,z6q,z5l,zlw (x:=.int i) True.intro,z68,intIn,hi]
 |cls _=>exact h.elim
 |obj _ _ _=>exact h.elim
 |dic _ _=>exact h.elim
 |opq=>exact h.elim
 |tk _=>exact h.elim
 |_=>simp[zaj,z6q,z5l,zlw h,z68,intIn]
def Line (a:List Nat):Prop:=Txt8 a∧10 ∉ a
theorem zcv {a:List Nat} (h:Line a) (m:Mem):zpn [.d (.str (S a))] m = .ok (.d (.bl true)) m:=by
 have e:ninSD (.str (S [10])) (.str (S a))=some (.bl true):=by
  show some (D.bl (!(!(Builtin.Str.occurrences (S a) (S [10]) 0 (S a).length 1).isEmpty)))=_
  rw[nl_S,decide_eq_false h.2]
  rfl
 simp[zpn,z4z,zqs,zde,isfT,e_nl,e]
theorem RowIn.line {B L:Nat} {r:Row} (h:RowIn B L r) (hz:B+L≤100000):Line (zm r):=
 ⟨⟨fun c hc=>by have:=h.chr c hc;omega,by have:=h.len;omega⟩,fun hc=>by have:=h.chr 10 hc;omega⟩
def blk (ls:List (List Nat)):D:=.obj "Block" ["rows"] [.lst (lnD ls)]
def rowsOf (ls:List (List Nat)):List (List Nat):=if ls=[] then [[]] else ls.map TM.rdw
@[simp] theorem z1ob (x:D):fldD ["Block"] "rows" (.obj "Block" ["rows"] [x])=some x:=by
 show (if (("Block" : Str))∈([("Block" : Str)]:List Str) then fldL ["rows"] [x] "rows" else none)=_
 rw[if_pos (yj.mpr rfl)]
 show (if (("rows" : Str)) = "rows" then some x else _)=_
 rw[if_pos rfl]
theorem zbfb (rs:List Row):lnD (rs.map zm)=rs.map fun r=>.str (S (zm r)):=by unfold lnD;rw[y6];rfl
theorem z7cb {α : Type} (enc : α → D) (xs:List α):enumD (xs.map enc)=xs.zipIdx.map fun p=>.tup [.int (p.2:Int),enc p.1]:=by
 unfold enumD
 refine List.ext_getElem? fun i=>?_
 simp[List.getElem?_mapIdx,List.getElem?_zipIdx]
 cases xs[i]? <;> rfl
@[simp] theorem gtp2 (i j:Nat) (x y:D) (dl:DL.Env):gTp 2 (zve (gNm i) (zve (gNm j) gNil_)) (.d (.tup [x,y])) dl=some ((dl.set i (some (.d x))).set j (some (.d y))):=rfl
@[simp] theorem gtp3 (i j l:Nat) (x y z:D) (dl:DL.Env):gTp 3 (zve (gNm i) (zve (gNm j) (zve (gNm l) gNil_))) (.d (.tup [x,y,z])) dl=some (((dl.set i (some (.d x))).set j (some (.d y))).set l (some (.d z))):=rfl
@[simp] theorem z3qb (e:DE) (n:Nat) (gs:DGs) (dl:DL.Env) (m:Mem):sAsg e (gTp n gs) dl m=(e dl m).thenS dl fun w m1=>(match gTp n gs w dl with
 |some dl1=>.nx dl1 m1
 |none=>.no):=nr rfl
@[simp] theorem znob:(Str.ofString "flush" = Str.ofString "rows")=False:=eq_false (by decide)
@[simp] theorem zoob:(Str.ofString "first" = Str.ofString "rows")=False:=eq_false (by decide)
@[simp] theorem zjqb:(Str.ofString "rest" = Str.ofString "rows")=False:=eq_false (by decide)
@[simp] theorem zanb:(Str.ofString "tagged" = Str.ofString "rows")=False:=eq_false (by decide)
def mar (a:List Nat):Int:=if TM.rdw (TM.ldw a)=[] then -1 else (a.length:Int)-((TM.ldw a).length:Int)
theorem zclb {a:List Nat} (ha:Txt8 a) (m:Mem):z1h [.d (.str (S a))] m = .ok (.d (.int (mar a))) m:=by
 by_cases h:TM.rdw (TM.ldw a)=[]
 ·simp[-zk,z1h,z8n,zmk,e_sp,e_em,z11 ha.sz,eq_str,h,mar]
 ·simp[-zk,z1h,z8n,zmk,e_sp,e_em,z11 ha.sz,zi2 ha.sz,len_str ha.sz,len_str ha.ldw.sz,eq_str,h,mar]
end LK
namespace LK
open PySem PySem.Spec L2 DL TM SX NT
theorem e_a:Str.ofString "a" = S [97]:=by decide
theorem e_z:Str.ofString "z" = S [122]:=by decide
theorem e_col:Str.ofString ":" = S [58]:=by decide
theorem le_1 (a b:Nat):leD (.str (S [a])) (.str (S [b]))=some (.bl (decide (a≤b))):=by
 show some (D.bl (!decide (([b]:List Nat) < [a])))=_
 congr 2
 by_cases h:a≤b
 ·rw[decide_eq_true h,decide_eq_false]
  ·rfl
  ·intro z
   cases (show List.Lex (· < ·) [b] [a] from z) with
   |rel h2=>omega
   |cons h2=>cases h2
 ·rw[decide_eq_false h,decide_eq_true]
  ·rfl
  ·exact List.Lex.rel (by omega)
theorem chr_S (w:List Nat):chrD (S w)=w.map fun c=>.str (S [c]):=rfl
theorem z7jb (bs:List Bool):allD [.lst (bs.map D.bl)]=some (.bl (bs.all id)):=by
 show (match asBls (bs.map D.bl) with |some ns=>some (D.bl (ns.all id)) |none=>none)=_
 rw[za6]
theorem zbv {w:List Nat} (hl:w.length≤100000) (m:Mem):zlo [.d (.str (S w))] m = .ok (.d (.bl (isTag w))) m:=by
 have e1:=len_str (a:=w) (by unfold sizeLine;omega)
 have ec:=zpk (g:=gNm 1) (e:=zat) (wd:=[some (.d (.str (S w))),none]) (m:=m) (enc:=fun c:Nat=>.str (S [c])) (dec:=fun c=>D.bl (z7d c)) w (fun c _=>⟨_,rfl,by
  by_cases h:97≤c <;> simp[zat,e_a,e_z,le_1,z7d,h]⟩) (by unfold sizeLine;omega)
 have e2:w.map (fun c=>D.bl (z7d c))=(w.map z7d).map D.bl:=by rw[y6];rfl
 rw[e2,←chr_S] at ec
 have e3:=z7jb (w.map z7d)
 have e4:(w.map z7d).all id=w.all z7d:=by rw[List.all_map];rfl
 rw[e4] at e3
 generalize (w.map z7d).map D.bl=bs at *
 unfold isTag
 by_cases h1:1≤w.length
 ·by_cases h2:w.length≤8
  ·have h1':(1:Int)≤(w.length:Int):=by omega
   have h2':(w.length:Int)≤8:=by omega
   simp[zlo,zuu,zjn,zde,isfT,e1,h1',h2',h1,h2,ec,e3]
  ·have h1':(1:Int)≤(w.length:Int):=by omega
   have h2':¬(w.length:Int)≤8:=by omega
   simp[zlo,zuu,zjn,zde,isfT,e1,h1',h2',h1,h2]
 ·have h1':¬(1:Int)≤(w.length:Int):=by omega
  simp[zlo,zuu,zjn,zde,isfT,e1,h1',h1]
structure Ln where
 m:Nat
 ts:Segs
 l:List Nat
structure LnOk (B L:Nat) (x:Ln):Prop where
 hm:x.m≤B
 ht:∀p∈x.ts,TagW p.1
 hl:x.l=[]∨(Wd x.l∧NoTag x.l)
 hL:(txt x.ts x.l).length≤L
def Ln.text (x:Ln):List Nat:=yn x.m 32++txt x.ts x.l
def Ln.row (x:Ln):Row:=if wrd x.ts x.l=[] then (-1,[]) else ((x.m:Int),wrd x.ts x.l)
theorem Wd.trim {w:List Nat} (h:Wd w):Trim w:=⟨h.hd,h.la⟩
theorem LnOk.tr {B L:Nat} {x:Ln} (h:LnOk B L x):x.l=[]∨Trim x.l:=h.hl.imp id fun z=>z.1.trim
theorem z1ab {l:List Nat} (hl:∀c∈l,32≤c∧c<127):∀{ts:Segs},(∀p∈ts,TagW p.1)→∀c∈txt ts l,32≤c∧c<127
 |[],_=>hl
 |(t,j)::ts,h=>fun c hc=>by
  have ih:=z1ab hl (ts:=ts) fun p hp=>h p (yd _ hp)
  have ht:=(h (t,j) yb).al
  unfold txt at hc
  simp only[yz,yo,ygc] at hc
  rcases hc with hc |rfl |hc |hc
  ·have:=ht c hc;omega
  ·omega
  ·omega
  ·exact ih c hc
theorem zxab {l:List Nat} (hl:∀c∈l,32≤c∧c<127):∀{ts:Segs},(∀p∈ts,TagW p.1)→∀c∈wrd ts l,32≤c∧c<127
 |[],_=>hl
 |(t,j)::ts,h=>fun c hc=>by
  have ih:=zxab hl (ts:=ts) fun p hp=>h p (yd _ hp)
  have ht:=(h (t,j) yb).al
  unfold wrd at hc
  split at hc
  ·simp only[yz,yj] at hc
   rcases hc with hc |rfl
   ·have:=ht c hc;omega
   ·omega
  ·simp only[yz,yo,ygc] at hc
   rcases hc with hc |rfl |hc |hc
   ·have:=ht c hc;omega
   ·omega
   ·omega
   ·exact ih c hc
theorem LnOk.lc {B L:Nat} {x:Ln} (h:LnOk B L x):∀c∈x.l,32≤c∧c<127:=by
 rcases h.hl with e |⟨e,_⟩
 ·rw[e];exact fun c hc=>by cases hc
 ·exact e.all
theorem LnOk.row {B L:Nat} {x:Ln} (h:LnOk B L x):RowIn B L x.row:=by
 unfold Ln.row
 rcases zb8 h.tr h.ht with ⟨e,_,_⟩ |tr
 ·rw[if_pos e];exact .inl ⟨rfl,rfl⟩
 ·rw[if_neg tr.ne]
  refine .inr ⟨Int.natCast_nonneg _,Int.ofNat_le.mpr h.hm,⟨tr.hd,tr.la,zxab h.lc h.ht⟩,?_⟩
  have:=zwab (l:=x.l) x.ts
  have:=h.hL
  simp only[]
  omega
theorem LnOk.line {B L:Nat} {x:Ln} (h:LnOk B L x) (hz:B+L≤100000):Line x.text:=by
 have hc:∀c∈x.text,32≤c∧c<127:=fun c hc=>by
  unfold Ln.text at hc
  rcases yz.mp hc with hc |hc
  ·have:=(ygc.mp hc).2;omega
  ·exact z1ab h.lc h.ht c hc
 refine⟨⟨fun c z=>by have:=hc c z;omega,?_⟩,fun z=>by have:=hc 10 z;omega⟩
 have:=h.hm
 have:=h.hL
 unfold Ln.text
 rw[yg,y0b]
 omega
theorem LnOk.len {B L:Nat} {x:Ln} (h:LnOk B L x):x.text.length≤B+L:=by
 have:=h.hm
 have:=h.hL
 unfold Ln.text
 rw[yg,y0b]
 omega
end LK
namespace LK
open PySem PySem.Spec L2 DL TM SX NT LV
@[simp] theorem zgnb (o:Option Nat):zmw (oN o) .non=some (.bl (decide (o=none))):=by cases o <;> rfl
@[simp] theorem z0kb (o:Option Nat):ztn (oN o) .non=some (.bl (decide (o≠none))):=by cases o <;> rfl
end LK
namespace LK
open PySem PySem.Spec L2 DL TM SX NT PG
section
variable (l:Lab) (ms:List D) (sz sp:Nat)
theorem zzt (f:Str):fldD ["Program"] f (obD l ms sz sp)=fldL fns [.str l.w,.tup ms,nmD l,amD l,tgD l,bkD l,ctD l,.int (sz:Int),.int (sp:Int)] f:=by
 unfold obD fldD
 simp only[]
 rw[if_pos (yj.mpr rfl)]
@[simp] theorem zyob:fldD ["Program"] "word" (obD l ms sz sp)=some (.str l.w):=by
 rw[zzt]
 simp only[fldL,fns]
 repeat (first |rw[if_pos True.intro] |rw[if_neg (by decide)])
@[simp] theorem zakb:fldD ["Program"] "members" (obD l ms sz sp)=some (.tup ms):=by
 rw[zzt]
 simp only[fldL,fns]
 repeat (first |rw[if_pos True.intro] |rw[if_neg (by decide)])
@[simp] theorem z0ob:fldD ["Program"] "name" (obD l ms sz sp)=some (nmD l):=by
 rw[zzt]
 simp only[fldL,fns]
 repeat (first |rw[if_pos True.intro] |rw[if_neg (by decide)])
@[simp] theorem zxlb:fldD ["Program"] "amount" (obD l ms sz sp)=some (amD l):=by
 rw[zzt]
 simp only[fldL,fns]
 repeat (first |rw[if_pos True.intro] |rw[if_neg (by decide)])
@[simp] theorem zuqb:fldD ["Program"] "tag" (obD l ms sz sp)=some (tgD l):=by
 rw[zzt]
 simp only[fldL,fns]
 repeat (first |rw[if_pos True.intro] |rw[if_neg (by decide)])
@[simp] theorem zjnb:fldD ["Program"] "block" (obD l ms sz sp)=some (bkD l):=by
 rw[zzt]
 simp only[fldL,fns]
 repeat (first |rw[if_pos True.intro] |rw[if_neg (by decide)])
@[simp] theorem zvqb:fldD ["Program"] "cut" (obD l ms sz sp)=some (ctD l):=by
 rw[zzt]
 simp only[fldL,fns]
 repeat (first |rw[if_pos True.intro] |rw[if_neg (by decide)])
@[simp] theorem zzob:fldD ["Program"] "size" (obD l ms sz sp)=some (.int (sz:Int)):=by
 rw[zzt]
 simp only[fldL,fns]
 repeat (first |rw[if_pos True.intro] |rw[if_neg (by decide)])
@[simp] theorem zinb:fldD ["Program"] "spots" (obD l ms sz sp)=some (.int (sp:Int)):=by
 rw[zzt]
 simp only[fldL,fns]
 repeat (first |rw[if_pos True.intro] |rw[if_neg (by decide)])
end
section
variable (p:Pg)
@[simp] theorem zhs:fldD ["Program"] "word" (pgD p)=some (.str p.lab.w):=by rw[z7h];simp
@[simp] theorem z1q:fldD ["Program"] "members" (pgD p)=some (.tup (p.ms.map pgD)):=by rw[z7h];simp
@[simp] theorem zw2:fldD ["Program"] "name" (pgD p)=some (nmD p.lab):=by rw[z7h];simp
@[simp] theorem z84:fldD ["Program"] "amount" (pgD p)=some (amD p.lab):=by rw[z7h];simp
@[simp] theorem z5gb:fldD ["Program"] "tag" (pgD p)=some (tgD p.lab):=by rw[z7h];simp
@[simp] theorem za9:fldD ["Program"] "block" (pgD p)=some (bkD p.lab):=by rw[z7h];simp
@[simp] theorem ztqb:fldD ["Program"] "cut" (pgD p)=some (ctD p.lab):=by rw[z7h];simp
@[simp] theorem zc7:fldD ["Program"] "size" (pgD p)=some (.int (size p:Int)):=by rw[z7h];simp
@[simp] theorem znfb:fldD ["Program"] "spots" (pgD p)=some (.int (spots p:Int)):=by rw[z7h];simp
end
theorem zk2 {g:DG} {b:DS} {d:D} {ds:List D} {dl dl1 dl2:DL.Env} {m m2:Mem} (h1:g (.d d) dl=some dl1) (h2:b dl1 m = .nx dl2 m2):loopD g b (d::ds) dl m=loopD g b ds dl2 m2:=by
 conv=>lhs;unfold loopD
 rw[h1]
 simp only[]
 rw[h2]
theorem addL {a b:List D} (h:a.length+b.length≤sizeLine):addD (.lst a) (.lst b)=some (.lst (a++b)):=by
 show chk _ _=_
 rw[zdc h]
theorem z3db {F:DF} {m:Mem} (x0:Option W):∀(ms:List Pg) (acc:List D) (x:Option W),(∀q∈ms,F [.d (pgD q)] m = .ok (.d (.lst ((parts q).map pgD))) m)→acc.length+sizes ms≤sizeLine →
  ∃x',loopD (gNm 2) (zwk F) (ms.map pgD) [x0,some (.d (.lst acc)),x] m = .nx [x0,some (.d (.lst (acc++(ms.flatMap parts).map pgD))),x'] m
 |[],acc,x,_,_=>⟨x,by simp[loopD]⟩
 |q::ms,acc,x,h,hz=>by
  unfold sizes at hz
  have e:=h q yb
  have ea:addD (.lst acc) (.lst ((parts q).map pgD))=some (.lst (acc++(parts q).map pgD)):=addL (by rw[ye,zeg];omega)
  obtain⟨x',ih⟩:=z3db (F:=F) (m:=m) x0 ms (acc++(parts q).map pgD) (some (.d (pgD q))) (fun z hz=>h z (yd _ hz)) (by rw[yg,ye,zeg];omega)
  refine⟨x',?_⟩
  have e2:acc++((q::ms).flatMap parts).map pgD=acc++(parts q).map pgD++(ms.flatMap parts).map pgD:=by rw[yvb,yob,y3b]
  have hb:zwk F [x0,some (.d (.lst acc)),some (.d (pgD q))] m = .nx [x0,some (.d (.lst (acc++(parts q).map pgD))),some (.d (pgD q))] m:=by
   generalize (parts q).map pgD=pq at *
   generalize pgD q=Q at *
   simp[zwk,e,ea]
  rw[e2,yr,zk2 (dl1:=[x0,some (.d (.lst acc)),some (.d (pgD q))]) rfl hb]
  exact ih
theorem z1z:∀(n:Nat) (p:Pg),size p<n→size p≤10000→∀m:Mem,zqg n [.d (pgD p)] m = .ok (.d (.lst ((parts p).map pgD))) m
 | 0,p,h,_,m=>by omega
 |n+1,p,h,hz,m=>by
  have ih:∀q∈p.ms,zqg n [.d (pgD q)] m = .ok (.d (.lst ((parts q).map pgD))) m:=fun q hq=>z1z n q (by have:=z0r hq;omega) (by have:=z0r hq;omega) m
  have hsz:size p=1+sizes p.ms:=by
   cases p with
   |node l ms=>unfold size;rfl
  obtain⟨x',el⟩:=z3db (some (.d (pgD p))) p.ms [pgD p] none ih (by simp;unfold sizeLine;omega)
  have e2:[pgD p]++(p.ms.flatMap parts).map pgD=(parts p).map pgD:=by rw[z8h p];rfl
  rw[e2] at el
  generalize (parts p).map pgD=pp at *
  have em:=z1q p
  generalize p.ms.map pgD=msD at *
  generalize pgD p=P at *
  simp[zqg,z6n,em,el]
theorem z8l {p:Pg} (h:size p≤23) (m:Mem):zne [.d (pgD p)] m = .ok (.d (.lst ((parts p).map pgD))) m:=by
 unfold zne
 exact z1z _ p (by omega) (by omega) m
theorem inT_2 (s a b:Str):inTD (.str s) (.tup [.str a,.str b])=some (.bl (decide (s=a∨s=b))):=by
 have:=znb s [a,b]
 simpa using this
def znw:Lab→Bool
 |.hole _=>true
 |_=>false
theorem zfgb:∀l:Lab,decide (l.w = "hole")=znw l
 |.fixed _=>(by decide:decide (Str.ofString "fixed" = Str.ofString "hole")=false)
 |.hole _=>(by decide:decide (Str.ofString "hole" = Str.ofString "hole")=true)
 |.each _=>(by decide:decide (Str.ofString "each" = Str.ofString "hole")=false)
 |.sum=>(by decide:decide (Str.ofString "sum" = Str.ofString "hole")=false)
 |.sh .in_ _=>(by decide:decide (Str.ofString "in" = Str.ofString "hole")=false)
 |.sh .out _=>(by decide:decide (Str.ofString "out" = Str.ofString "hole")=false)
 |.sh .first _=>(by decide:decide (Str.ofString "first" = Str.ofString "hole")=false)
 |.sh .rest _=>(by decide:decide (Str.ofString "rest" = Str.ofString "hole")=false)
 |.ded=>(by decide:decide (Str.ofString "dedent" = Str.ofString "hole")=false)
 |.flu=>(by decide:decide (Str.ofString "flush" = Str.ofString "hole")=false)
 |.tg true _=>(by decide:decide (Str.ofString "tag" = Str.ofString "hole")=false)
 |.tg false _=>(by decide:decide (Str.ofString "raw" = Str.ofString "hole")=false)
theorem w_wei:∀l:Lab,decide (l.w = "hole" ∨ l.w = "each")=wei l
 |.fixed _=>(by decide:decide (Str.ofString "fixed" = Str.ofString "hole" ∨ Str.ofString "fixed" = Str.ofString "each")=false)
 |.hole _=>(by decide:decide (Str.ofString "hole" = Str.ofString "hole" ∨ Str.ofString "hole" = Str.ofString "each")=true)
 |.each _=>(by decide:decide (Str.ofString "each" = Str.ofString "hole" ∨ Str.ofString "each" = Str.ofString "each")=true)
 |.sum=>(by decide:decide (Str.ofString "sum" = Str.ofString "hole" ∨ Str.ofString "sum" = Str.ofString "each")=false)
 |.sh .in_ _=>(by decide:decide (Str.ofString "in" = Str.ofString "hole" ∨ Str.ofString "in" = Str.ofString "each")=false)
 |.sh .out _=>(by decide:decide (Str.ofString "out" = Str.ofString "hole" ∨ Str.ofString "out" = Str.ofString "each")=false)
 |.sh .first _=>(by decide:decide (Str.ofString "first" = Str.ofString "hole" ∨ Str.ofString "first" = Str.ofString "each")=false)
 |.sh .rest _=>(by decide:decide (Str.ofString "rest" = Str.ofString "hole" ∨ Str.ofString "rest" = Str.ofString "each")=false)
 |.ded=>(by decide:decide (Str.ofString "dedent" = Str.ofString "hole" ∨ Str.ofString "dedent" = Str.ofString "each")=false)
 |.flu=>(by decide:decide (Str.ofString "flush" = Str.ofString "hole" ∨ Str.ofString "flush" = Str.ofString "each")=false)
 |.tg true _=>(by decide:decide (Str.ofString "tag" = Str.ofString "hole" ∨ Str.ofString "tag" = Str.ofString "each")=false)
 |.tg false _=>(by decide:decide (Str.ofString "raw" = Str.ofString "hole" ∨ Str.ofString "raw" = Str.ofString "each")=false)
def chS (c:Nat):D:=.str (S [c])
theorem z1kb (p:Pg):((parts p).filter fun q=>znw q.lab).map (fun q=>nmD q.lab)=(nms p).map chS:=by
 unfold nms
 induction parts p with
 |nil=>rfl
 |cons q qs ih=>
  have key:(znw q.lab=true∧∃c,hol q.lab=some c∧nmD q.lab=chS c)∨(znw q.lab=false∧hol q.lab=none):=by
   cases q.lab with
   |hole c=>exact .inl ⟨rfl,c,rfl,rfl⟩
   |_=>exact .inr ⟨rfl,rfl⟩
  rcases key with ⟨h1,c,h2,h3⟩ |⟨h1,h2⟩
  ·rw[ypc (by exact h1),yub (f:=fun q:Pg=>hol q.lab) h2,yr,yr,ih,h3]
  ·rw[ymb (by rw[h1];exact y4),ydb (f:=fun q:Pg=>hol q.lab) h2,ih]
theorem ziw {p:Pg} (h:size p≤23) (m:Mem):zvl [.d (pgD p)] m = .ok (.d (.lst ((nms p).map chS))) m:=by
 have e1:=z8l h m
 have ec:=z7n (m:=m) (g:=gNm 1) (t:=z5m) (e:=z7m) (wd:=[some (.d (pgD p)),none]) (enc:=pgD) (dec:=fun q=>nmD q.lab) (fun q=>znw q.lab) (parts p) (fun q _=>⟨_,rfl,by
  have ew:=zhs q
  have e2:=zk q.lab.w "hole"
  rw[zfgb] at e2
  generalize pgD q=Q at *
  simp[z5m,ew,e2],fun _=>by
  have ew:=zw2 q
  generalize pgD q=Q at *
  simp[z7m,ew]⟩) (by rw[zeg];unfold sizeLine;omega)
 rw[z1kb] at ec
 generalize (parts p).map pgD=pp at *
 generalize (nms p).map chS=nn at *
 generalize pgD p=P at *
 simp[zvl,z1s,z4n,e1,ec]
theorem zzab {p:Pg} (h:size p≤23) (m:Mem):zko [.d (pgD p)] m = .ok (.d (.int (weight p:Int))) m:=by
 have e1:=z8l h m
 have ec:=z7n (m:=m) (g:=gNm 1) (t:=z4m) (e:=z6m) (wd:=[some (.d (pgD p)),none]) (enc:=pgD) (dec:=pgD) (fun q=>wei q.lab) (parts p) (fun q _=>⟨_,rfl,by
  have ew:=zhs q
  have e2:=inT_2 q.lab.w "hole" "each"
  rw[w_wei] at e2
  generalize pgD q=Q at *
  simp[z4m,ew,e2],fun _=>by
  simp[z6m]⟩) (by rw[zeg];unfold sizeLine;omega)
 have hl:(((parts p).filter fun q=>wei q.lab).map pgD).length=weight p:=by rw[ye];rfl
 generalize (parts p).map pgD=pp at *
 generalize ((parts p).filter fun q=>wei q.lab).map pgD=nn at *
 generalize pgD p=P at *
 simp[zko,zzs,z2n,e1,ec,hl]
theorem zkib (p:Pg):(nms p).length≤weight p:=by
 unfold nms weight
 induction parts p with
 |nil=>simp
 |cons q qs ih=>
  have key:(∃c,hol q.lab=some c∧wei q.lab=true)∨hol q.lab=none:=by
   cases q.lab with
   |hole c=>exact .inl ⟨c,rfl,rfl⟩
   |_=>exact .inr rfl
  rcases key with ⟨c,h1,h2⟩ |h1
  ·rw[yub (f:=fun q:Pg=>hol q.lab) h1,ypc (by exact h2),yw,yw]
   omega
  ·rw[ydb (f:=fun q:Pg=>hol q.lab) h1,List.filter_cons]
   split
   ·rw[yw];omega
   ·exact ih
theorem zyjb (cs:List Nat):cs.map chS=(cs.map fun c=>S [c]).map D.str:=by rw[y6];rfl
theorem zsmb {a b:Nat} (h:S [a]=S [b]):a=b:=by
 have:=zsu h
 simpa using this
theorem names_nodup {cs:List Nat} (h:cs.Nodup):(sortS (cs.map fun c=>S [c])).Nodup:=by
 refine ((zpq _).nodup_iff).mpr ?_
 exact List.Pairwise.map _ (fun a b hab e=>hab (zsmb e)) h
theorem zzk {p:Pg} (h:size p≤16) (hn:(nms p).Nodup) (hw:weight p≤3) (m:Mem):zqi [.d (pgD p)] m = .ok (.d (pgD p)) m:=by
 have e1:=ziw (p:=p) (by omega) m
 have e2:=zzab (p:=p) (by omega) m
 have hnl:=zkib p
 rw[zyjb] at e1
 have e3:=zb4 ((nms p).map fun c=>S [c]) (by rw[ye];omega)
 have nd:=names_nodup hn
 have hl:(sortS ((nms p).map fun c=>S [c])).length≤3:=by rw[(zpq _).length_eq,ye];omega
 generalize sortS ((nms p).map fun c=>S [c])=ss at *
 have ec:compD (gTp 2 (zve (gNm 3) (zve (gNm 4) gNil_))) zwj zmq [some (.d (pgD p)),some (.d (.lst (ss.map D.str))),none,none,none] (enumD (ss.map D.str)) [] m = .ok [] m:=by
  rw[z7cb]
  have:=z7n (m:=m) (g:=gTp 2 (zve (gNm 3) (zve (gNm 4) gNil_))) (t:=zwj) (e:=zmq) (wd:=[some (.d (pgD p)),some (.d (.lst (ss.map D.str))),none,none,none]) (enc:=fun q:Str × Nat=>.tup [.int (q.2:Int),.str q.1]) (dec:=fun _=>D.non) (fun _=>false) ss.zipIdx (fun q hq=>⟨_,gtp2 _ _ _ _ _,by
   obtain⟨s,i⟩:=q
   have hi:=List.mk_mem_zipIdx_iff_getElem?.mp hq
   cases i with
   |zero=>simp[zwj]
   |succ i=>
    have hlt:=(yc.mp hi).1
    have h1:ss[i]?=some ss[i]:=yt (by omega)
    have hne:¬ss[i]=s:=fun e=>by
     have h2:ss[i]?=ss[i+1]?:=by rw[h1,hi,e]
     have:=(List.getElem?_inj (by omega) nd).mp h2
     omega
    have h3:ixD (.lst (ss.map D.str)) (.int (i:Int))=some (.str ss[i]):=by
     show atI _ _=_
     rw[DL.atI_nat,yjb,h1]
     rfl
    have h4:((i+1:Nat):Int)-1=(i:Int):=by omega
    have h5:decide ((0:Int)<((i+1:Nat):Int))=true:=decide_eq_true (by omega)
    generalize ss.map D.str=sd at *
    generalize ss[i]=si at *
    generalize ((i+1:Nat):Int)=I at *
    simp[zwj,h5,h4,h3,hne],fun z=>nomatch z⟩) (by rw[List.length_zipIdx];unfold sizeLine;omega)
  rw[this]
  simp
 have h1:¬(3:Int)<(weight p:Int):=by omega
 have h2:¬(16:Int)<(size p:Int):=by omega
 have es:=zc7 p
 generalize ss.map D.str=sd at *
 generalize ((nms p).map fun c=>S [c]).map D.str=nd0 at *
 generalize (weight p:Int)=wp at *
 generalize (size p:Int)=sp at *
 generalize pgD p=P at *
 simp[zqi,z6z,zrs,e1,e2,e3,ec,h1,h2,es]
theorem zy8 (m:Mem) (x0:Option W):∀(k:Nat) (w:List Nat),w.length<k→w.length≤50000→∀(n c:Nat) (acc:List D) (x4 x5 x6:Option W),w.length+1<n→acc.length+w.length+1<sizeLine →
  ∃r,zch zzf zge n [x0,some (.c m.length),some (.d (.int (c:Int))),some (.d (.str (S w))),x4,x5,x6] (m++[.lst acc])=r ∧
   (r = .rt (.c m.length) (m++[.lst (acc++(lnF k c w).map PG.ndP)])∨∃dl,r = .nx dl (m++[.lst (acc++(lnF k c w).map PG.ndP)])∧dl[1]?=some (some (.c m.length)))
 | 0,w,h,_,n,c,acc,x4,x5,x6,_,_=>by omega
 |k+1,w,hk,hz,n,c,acc,x4,x5,x6,h,hs=>by
  obtain⟨n,rfl⟩:∃k,n=k+1:=⟨n-1,by omega⟩
  have hcol:¬(S [58]=S []):=fun z=>by cases zsu z
  have ha:acc.length<sizeLine:=by omega
  by_cases hw0:w=[]
  ·subst hw0
   refine⟨_,rfl,.inr ⟨[x0,some (.c m.length),some (.d (.int (c:Int))),some (.d (.str (S []))),x4,x5,x6],?_,rfl⟩⟩
   have e:zzf [x0,some (.c m.length),some (.d (.int (c:Int))),some (.d (.str (S []))),x4,x5,x6] (m++[.lst acc]) = .ok false (m++[.lst acc]):=by
    simp[zzf,e_em]
   rw[z19 e]
   simp[lnF]
  ·have hne:¬(S w=S []):=fun z=>hw0 (zsu z)
   have e:zzf [x0,some (.c m.length),some (.d (.int (c:Int))),some (.d (.str (S w))),x4,x5,x6] (m++[.lst acc]) = .ok true (m++[.lst acc]):=by
    simp[zzf,e_em,hne]
   cases hc:cutC w with
   |none=>
    have hen:lnF (k+1) c w=[(c,w)]:=by
     unfold lnF
     rw[if_neg hw0,hc]
    rw[hen]
    refine⟨_,rfl,.inl (z53 e ?_)⟩
    have ep:=zbib (z75.mp hc) (show w.length≤sizeLine by unfold sizeLine;omega)
    simp[zge,e_em,e_col,ep,ha,PG.ndP]
   |some p=>
    obtain⟨t,y⟩:=p
    obtain⟨e1,e2⟩:=ztz.mp hc
    have hlen:t.length+1+y.length=w.length:=by rw[e1];simp;omega
    have ep:=zq6 (t:=y) e2 (by rw[←e1];unfold sizeLine;omega)
    rw[←e1] at ep
    have et:=zbv (w:=t) (by omega) (m++[.lst acc])
    have et':=fun a=>zbv (w:=t) (by omega) (m++[.lst a])
    by_cases hgo:isTag t=true∧(y=[]∨y.head?=some 32)
    ·obtain⟨htg,hyn⟩:=hgo
     have hen:lnF (k+1) c w=(c,t++[58])::lnF k (c+t.length+1+(y.length-(ldw y).length)) (ldw y):=by
      conv=>lhs;unfold lnF
      rw[if_neg hw0,hc]
      exact if_pos ⟨htg,hyn⟩
     rw[hen]
     rw[htg] at et
     have hly:(ldw y).length≤y.length:=(yqb _).length_le
     have ea:addD (.str (S t)) (.str (S [58]))=some (.str (S (t++[58]))):=add_str (by simp;unfold sizeLine;omega)
     have els:=zi2 (a:=y) (show y.length≤sizeLine by unfold sizeLine;omega)
     have l1:=len_str (a:=t) (by unfold sizeLine;omega)
     have l2:=len_str (a:=y) (by unfold sizeLine;omega)
     have l3:=len_str (a:=ldw y) (by unfold sizeLine;omega)
     have e3:zge [x0,some (.c m.length),some (.d (.int (c:Int))),some (.d (.str (S w))),x4,x5,x6] (m++[.lst acc])
       = .nx [x0,some (.c m.length),some (.d (.int ((c:Int)+(t.length:Int)+1+(y.length:Int)-((ldw y).length:Int)))),some (.d (.str (S (ldw y)))),some (.d (.str (S t))),some (.d (.str (S [58]))),some (.d (.str (S y)))] (m++[.lst (acc++[PG.ndP (c,t++[58])])]):=by
      rcases hyn with hyn |hyn
      ·have hye:S y=S []:=by rw[hyn]
       rw[hye] at els l2
       simp[zge,e_em,e_col,e_sp,ep,ha,PG.ndP,hcol,et,hye,ea,els,l1,l2,l3]
      ·have hye:¬(S y=S []):=fun z=>by rw[zsu z] at hyn;cases hyn
       have es:=z70 y 32
       rw[decide_eq_true hyn] at es
       simp[zge,e_em,e_col,e_sp,ep,ha,PG.ndP,hcol,et,hye,es,ea,els,l1,l2,l3]
     rw[z29 e e3]
     have ec:(c:Int)+(t.length:Int)+1+(y.length:Int)-((ldw y).length:Int)=((c+t.length+1+(y.length-(ldw y).length):Nat):Int):=by
      omega
     rw[ec]
     obtain⟨r,er,hr⟩:=zy8 m x0 k (ldw y) (by omega) (by omega) n (c+t.length+1+(y.length-(ldw y).length)) (acc++[PG.ndP (c,t++[58])]) (some (.d (.str (S t)))) (some (.d (.str (S [58])))) (some (.d (.str (S y)))) (by omega) (by simp only[yg,yec];omega)
     refine⟨r,er,?_⟩
     have en:acc++((c,t++[58])::lnF k (c+t.length+1+(y.length-(ldw y).length)) (ldw y)).map PG.ndP=acc++[PG.ndP (c,t++[58])]++(lnF k (c+t.length+1+(y.length-(ldw y).length)) (ldw y)).map PG.ndP:=by simp
     rw[en]
     exact hr
    ·have hen:lnF (k+1) c w=[(c,w)]:=by
      conv=>lhs;unfold lnF
      rw[if_neg hw0,hc]
      exact if_neg hgo
     rw[hen]
     refine⟨_,rfl,.inl (z53 e ?_)⟩
     by_cases htg:isTag t=false
     ·rw[htg] at et
      simp[zge,e_em,e_col,ep,ha,PG.ndP,hcol,et]
     ·have htg':isTag t=true:=by simpa using htg
      have hy1:¬y=[]:=fun z=>hgo ⟨htg',.inl z⟩
      have hy2:¬y.head?=some 32:=fun z=>hgo ⟨htg',.inr z⟩
      rw[htg'] at et
      have hte:¬(S y=S []):=fun z=>hy1 (zsu z)
      have es:=z70 y 32
      rw[decide_eq_false hy2] at es
      simp[zge,e_em,e_col,e_sp,ep,ha,PG.ndP,hcol,et,hte,es]
/-- line_nodes of a word without blanks at its ends -/
theorem zo4 {w:List Nat} (hz:w.length≤50000) (h8:Txt8 w) (h0:w≠[]) (h1:word w=w) (h2:ldw w=w) (m:Mem):zuj [.d (.str (S w))] m = .ok (.d (.lst ((zoo w).map PG.ndP))) m:=by
 have em:=zclb h8 (m++[.lst []])
 have emm:mar w=((0:Nat):Int):=by
  unfold mar
  rw[show TM.rdw (TM.ldw w)=w from h1,if_neg h0,h2]
  omega
 rw[emm] at em
 have es:=z11 (a:=w) h8.sz
 rw[show TM.rdw (TM.ldw w)=w from h1] at es
 obtain⟨r,er,hr⟩:=zy8 m (some (.d (.str (S w)))) (w.length+1) w (by omega) hz 100000 0 [] none none none (by omega) (by simp only[yzb];unfold sizeLine;omega)
 rw[ymc] at hr
 have hl:zoo w=lnF (w.length+1) 0 w:=rfl
 rw[←hl] at hr
 rw[show ((0:Nat):Int)=0 from rfl] at em er
 generalize (zoo w).map PG.ndP=rs at *
 rcases hr with rfl |⟨dl,rfl,hd⟩
 ·simp[zuj,z9l,zij,em,e_sp,es,za8,er]
 ·simp[zuj,z9l,zij,em,e_sp,es,za8,er,hd]
theorem zk7 (p:Nat→Bool):∀l:List Nat,(l.dropWhile p).dropWhile p=l.dropWhile p
 |[]=>rfl
 |a::l=>by
  by_cases h:p a=true
  ·rw[List.dropWhile_cons_of_pos h]
   exact zk7 p l
  ·rw[y3c h,y3c h]
theorem zefb (l:List Nat):ldw (ldw l)=ldw l:=zk7 sp l
theorem zkeb (l:List Nat):rdw (rdw l)=rdw l:=by
 unfold rdw
 rw[y5c,zk7]
theorem zjbb:∀l:List Nat,∃t,l=rdw l++t∧∀c∈t,sp c=true:=fun l=>by
 refine⟨(l.reverse.takeWhile sp).reverse,?_,fun c hc=>?_⟩
 ·unfold rdw
  rw[←yad,List.takeWhile_append_dropWhile,y5c]
 ·have key:∀(l:List Nat) (c:Nat),c∈l.takeWhile sp→sp c=true:=by
   intro l
   induction l with
   |nil=>intro c hc;simp at hc
   |cons a l ih=>
    intro c hc
    rw[List.takeWhile_cons] at hc
    split at hc
    ·rename_i ha
     rcases yo.mp hc with rfl |hc
     ·exact ha
     ·exact ih c hc
    ·simp at hc
  exact key _ c (List.mem_reverse.mp hc)
/-- no blank at the beginning: so when the end is cut -/
theorem z3ib {l:List Nat} (h:ldw l=l):ldw (rdw l)=rdw l:=by
 obtain⟨t,e,ht⟩:=zjbb l
 cases hr:rdw l with
 |nil=>rfl
 |cons a r=>
  rw[hr] at e
  have ha:¬sp a=true:=fun z=>by
   have h2:ldw l=ldw (r++t):=by
    rw[e]
    exact List.dropWhile_cons_of_pos z
   rw[h] at h2
   have:=congrArg List.length h2
   have h3:(ldw (r++t)).length≤(r++t).length:=(yqb _).length_le
   rw[e] at this
   simp at this h3
   omega
  exact y3c ha
theorem zc8 (l:List Nat):ldw (word l)=word l:=z3ib (zefb l)
theorem zyab (l:List Nat):word (word l)=word l:=by
 show rdw (ldw (word l))=_
 rw[zc8]
 exact zkeb _
theorem z9db (l:List Nat):(word l).length≤l.length:=by
 have h1:(ldw l).length≤l.length:=(yqb _).length_le
 obtain⟨t,e,_⟩:=zjbb (ldw l)
 have:=congrArg List.length e
 rw[yg] at this
 unfold word
 omega
theorem zthb {l:List Nat} (h:Line l) (hz:l.length≤5000) (x0 x3:Option W) (m:Mem) (acc:List D) (ha:acc.length<sizeLine) :
  zkh [x0,some (.c m.length),some (.d (.str (S l))),x3] (m++[.lst acc]) = .nx [x0,some (.c m.length),some (.d (.str (S l))),some (.d (.str (S (word l))))] (m++[.lst (acc++[cutL l])]):=by
 have es:=z11 (a:=l) h.1.sz
 have es:z9x (.str (S l)) [.str (S [32])]=some (.str (S (word l))):=es
 by_cases hw:word l=[]
 ·have hS:S (word l)=S []:=by rw[hw]
  have hc:cutL l = .non:=if_pos hw
  rw[hc]
  rw[hS] at es ⊢
  simp[zkh,e_sp,e_em,es,ha]
 ·have hS:¬S (word l)=S []:=fun z=>hw (zsu z)
  have hl:=z9db l
  have h8:Txt8 (word l):=h.1.ldw.rdw
  have en:=zo4 (w:=word l) (by omega) h8 hw (zyab l) (zc8 l) (m++[.lst acc])
  have hc:cutL l = .tup [.int (((l.length-(ldw l).length:Nat)):Int),.tup ((zoo (word l)).map PG.ndP)]:=if_neg hw
  rw[hc]
  have els:=zi2 (a:=l) h.1.sz
  have l1:=len_str (a:=l) (by unfold sizeLine;omega)
  have h3:(ldw l).length≤l.length:=(yqb _).length_le
  have l2:=len_str (a:=ldw l) (by unfold sizeLine;omega)
  have e4:(l.length:Int)-((ldw l).length:Int)=((l.length-(ldw l).length:Nat):Int):=by omega
  rw[←e4]
  generalize (zoo (word l)).map PG.ndP=ns at *
  generalize S (word l)=sw at *
  simp[zkh,e_sp,e_em,es,ha,hS,els,l1,l2,en]
theorem z8ab (x0:Option W) (m:Mem):∀(ls:List (List Nat)) (acc:List D) (x2 x3:Option W),(∀l∈ls,Line l∧l.length≤5000)→acc.length+ls.length<sizeLine →
  ∃y2 y3,loopD (gNm 2) zkh (lnD ls) [x0,some (.c m.length),x2,x3] (m++[.lst acc]) = .nx [x0,some (.c m.length),y2,y3] (m++[.lst (acc++cutLs ls)])
 |[],acc,x2,x3,_,_=>⟨x2,x3,by simp[loopD,lnD,cutLs]⟩
 |l::ls,acc,x2,x3,h,hz=>by
  obtain⟨h1,h2⟩:=h l yb
  have hb:=zthb h1 h2 x0 x3 m acc (by simp at hz;omega)
  obtain⟨y2,y3,ih⟩:=z8ab x0 m ls (acc++[cutL l]) (some (.d (.str (S l)))) (some (.d (.str (S (word l))))) (fun z hz=>h z (yd _ hz)) (by simp at hz ⊢;omega)
  refine⟨y2,y3,?_⟩
  have e1:lnD (l::ls) = .str (S l)::lnD ls:=rfl
  have e2:acc++cutLs (l::ls)=acc++[cutL l]++cutLs ls:=by unfold cutLs;simp
  rw[e1,e2,zk2 (dl1:=[x0,some (.c m.length),some (.d (.str (S l))),x3]) rfl hb]
  exact ih
theorem z31 {ls:List (List Nat)} (h:∀l∈ls,Line l∧l.length≤5000) (hne:ls≠[]) (hn:ls.length≤3000) (m:Mem):zcm [.d (.str (S (ybb [10] ls)))] m = .ok (.d (.lst (cutLs ls))) m:=by
 have e1:=zi6 (s:=10) (ls:=ls) hne (fun l hl=>(h l hl).1.2) (fun l hl=>(h l hl).2) hn (by decide)
 obtain⟨y2,y3,el⟩:=z8ab (some (.d (.str (S (ybb [10] ls))))) m ls [] none none h (by simp only[yzb];unfold sizeLine;omega)
 rw[ymc] at el
 generalize S (ybb [10] ls)=tx at *
 generalize cutLs ls=cs at *
 generalize lnD ls=ld at *
 simp[zcm,z1p,zom,e_nl,e1,el]
def isTg:Lab→Bool
 |.tg _ _=>true
 |_=>false
theorem w_tg:∀l:Lab,decide (l.w = "tag" ∨ l.w = "raw")=isTg l
 |.fixed _=>(by decide:decide (Str.ofString "fixed" = Str.ofString "tag" ∨ Str.ofString "fixed" = Str.ofString "raw")=false)
 |.hole _=>(by decide:decide (Str.ofString "hole" = Str.ofString "tag" ∨ Str.ofString "hole" = Str.ofString "raw")=false)
 |.each _=>(by decide:decide (Str.ofString "each" = Str.ofString "tag" ∨ Str.ofString "each" = Str.ofString "raw")=false)
 |.sum=>(by decide:decide (Str.ofString "sum" = Str.ofString "tag" ∨ Str.ofString "sum" = Str.ofString "raw")=false)
 |.sh .in_ _=>(by decide:decide (Str.ofString "in" = Str.ofString "tag" ∨ Str.ofString "in" = Str.ofString "raw")=false)
 |.sh .out _=>(by decide:decide (Str.ofString "out" = Str.ofString "tag" ∨ Str.ofString "out" = Str.ofString "raw")=false)
 |.sh .first _=>(by decide:decide (Str.ofString "first" = Str.ofString "tag" ∨ Str.ofString "first" = Str.ofString "raw")=false)
 |.sh .rest _=>(by decide:decide (Str.ofString "rest" = Str.ofString "tag" ∨ Str.ofString "rest" = Str.ofString "raw")=false)
 |.ded=>(by decide:decide (Str.ofString "dedent" = Str.ofString "tag" ∨ Str.ofString "dedent" = Str.ofString "raw")=false)
 |.flu=>(by decide:decide (Str.ofString "flush" = Str.ofString "tag" ∨ Str.ofString "flush" = Str.ofString "raw")=false)
 |.tg true _=>(by decide:decide (Str.ofString "tag" = Str.ofString "tag" ∨ Str.ofString "tag" = Str.ofString "raw")=true)
 |.tg false _=>(by decide:decide (Str.ofString "raw" = Str.ofString "tag" ∨ Str.ofString "raw" = Str.ofString "raw")=true)
section
variable (m:Mem)
theorem sf0 ( d:D):sFldW ["Program"] "word" (.d d) (.c m.length) (m++[.obj "Program" [] []])=some (m++[.obj "Program" ["word"] [d]]):=
 z6h m d (yj.mpr rfl) (by decide) rfl (by decide)
theorem sf1 (d0 d:D):sFldW ["Program"] "members" (.d d) (.c m.length) (m++[.obj "Program" ["word"] [d0]])=some (m++[.obj "Program" ["word", "members"] [d0,d]]):=
 z6h m d (yj.mpr rfl) (by decide) rfl (by decide)
theorem sf2 (d0 d1 d:D):sFldW ["Program"] "name" (.d d) (.c m.length) (m++[.obj "Program" ["word", "members"] [d0,d1]])=some (m++[.obj "Program" ["word", "members", "name"] [d0,d1,d]]):=
 z6h m d (yj.mpr rfl) (by decide) rfl (by decide)
theorem sf3 (d0 d1 d2 d:D):sFldW ["Program"] "amount" (.d d) (.c m.length) (m++[.obj "Program" ["word", "members", "name"] [d0,d1,d2]])=some (m++[.obj "Program" ["word", "members", "name", "amount"] [d0,d1,d2,d]]):=
 z6h m d (yj.mpr rfl) (by decide) rfl (by decide)
theorem sf4 (d0 d1 d2 d3 d:D):sFldW ["Program"] "tag" (.d d) (.c m.length) (m++[.obj "Program" ["word", "members", "name", "amount"] [d0,d1,d2,d3]])=some (m++[.obj "Program" ["word", "members", "name", "amount", "tag"] [d0,d1,d2,d3,d]]):=
 z6h m d (yj.mpr rfl) (by decide) rfl (by decide)
theorem sf5 (d0 d1 d2 d3 d4 d:D):sFldW ["Program"] "block" (.d d) (.c m.length) (m++[.obj "Program" ["word", "members", "name", "amount", "tag"] [d0,d1,d2,d3,d4]])=some (m++[.obj "Program" ["word", "members", "name", "amount", "tag", "block"] [d0,d1,d2,d3,d4,d]]):=
 z6h m d (yj.mpr rfl) (by decide) rfl (by decide)
theorem sf6 (d0 d1 d2 d3 d4 d5 d:D):sFldW ["Program"] "cut" (.d d) (.c m.length) (m++[.obj "Program" ["word", "members", "name", "amount", "tag", "block"] [d0,d1,d2,d3,d4,d5]])=some (m++[.obj "Program" ["word", "members", "name", "amount", "tag", "block", "cut"] [d0,d1,d2,d3,d4,d5,d]]):=
 z6h m d (yj.mpr rfl) (by decide) rfl (by decide)
theorem sf7 (d0 d1 d2 d3 d4 d5 d6 d:D):sFldW ["Program"] "size" (.d d) (.c m.length) (m++[.obj "Program" ["word", "members", "name", "amount", "tag", "block", "cut"] [d0,d1,d2,d3,d4,d5,d6]])=some (m++[.obj "Program" ["word", "members", "name", "amount", "tag", "block", "cut", "size"] [d0,d1,d2,d3,d4,d5,d6,d]]):=
 z6h m d (yj.mpr rfl) (by decide) rfl (by decide)
theorem sf8 (d0 d1 d2 d3 d4 d5 d6 d7 d:D):sFldW ["Program"] "spots" (.d d) (.c m.length) (m++[.obj "Program" ["word", "members", "name", "amount", "tag", "block", "cut", "size"] [d0,d1,d2,d3,d4,d5,d6,d7]])=some (m++[.obj "Program" ["word", "members", "name", "amount", "tag", "block", "cut", "size", "spots"] [d0,d1,d2,d3,d4,d5,d6,d7,d]]):=
 z6h m d (yj.mpr rfl) (by decide) rfl (by decide)
end
theorem z4ab (ms:List Pg):(1:Int)+(ms.map fun p=>(size p:Int)).sum=((1+sizes ms:Nat):Int):=by
 rw[zc4]
 induction ms with
 |nil=>rfl
 |cons p ms ih=>simp only[yr,yfc] at ih ⊢;omega
theorem z3ab (ms:List Pg):(ms.map fun p=>(spots p:Int)).sum=((zyo ms:Nat):Int):=by
 rw[z80]
 induction ms with
 |nil=>rfl
 |cons p ms ih=>simp only[yr,yfc] at ih ⊢;omega
def own (l:Lab):Nat:=if znw l=true then 1 else if isTg l=true then 1 else 0
theorem zwdb (ms:List Pg) (hz:ms.length≤1000) (wd:DL.Env) (hw:wd.length=11) (M:Mem):compD (gNm 9) bYes ztg wd (ms.map pgD) [] M = .ok ((ms.map fun p=>(size p:Int)).map D.int) M:=by
 rw[y6]
 exact zpk (enc:=pgD) (dec:=fun p=>D.int (size p:Int)) ms (fun p _=>⟨_,rfl,by
  have e:=zc7 p
  have hg:(wd.set 9 (some (.d (pgD p))))[9]?=some (some (.d (pgD p))):=yu (by omega)
  generalize pgD p=P at *
  simp[ztg,eVar,hg,e]⟩) (by unfold sizeLine;omega)
theorem zpab (ms:List Pg) (hz:ms.length≤1000) (wd:DL.Env) (hw:wd.length=11) (M:Mem):compD (gNm 9) bYes zrg wd (ms.map pgD) [] M = .ok ((ms.map fun p=>(spots p:Int)).map D.int) M:=by
 rw[y6]
 exact zpk (enc:=pgD) (dec:=fun p=>D.int (spots p:Int)) ms (fun p _=>⟨_,rfl,by
  have e:=znfb p
  have hg:(wd.set 9 (some (.d (pgD p))))[9]?=some (some (.d (pgD p))):=yu (by omega)
  generalize pgD p=P at *
  simp[zrg,eVar,hg,e]⟩) (by unfold sizeLine;omega)
/-- without a block -/
theorem init0 (l:Lab) (ms:List Pg) (hz:ms.length≤1000) (nm am tg:D) (m:Mem) :
  zyc [.c m.length,.d (.str l.w),.d (.tup (ms.map pgD)),.d nm,.d am,.d tg,.d .non] (m++[.obj "Program" [] []]) =
   .ok (.d .non) (m++[.obj "Program" fns [.str l.w,.tup (ms.map pgD),nm,am,tg,.non,.non,.int ((1+sizes ms:Nat):Int),.int ((own l+zyo ms:Nat):Int)]]):=by
 have c1:=fun wd hw M=>zwdb ms hz wd hw M
 have c2:=fun wd hw M=>zpab ms hz wd hw M
 have s1:=z8x (ms.map fun p=>(size p:Int))
 have s2:=z8x (ms.map fun p=>(spots p:Int))
 have t1:=z4ab ms
 have t2:=z3ab ms
 have e1:=zk l.w "hole"
 rw[zfgb] at e1
 have e2:=inT_2 l.w "tag" "raw"
 rw[w_tg] at e2
 have ho:own l=if znw l=true then 1 else if isTg l=true then 1 else 0:=rfl
 have s3:sumD [.lst []]=some (.int 0):=rfl
 generalize (ms.map fun p=>(size p:Int)).map D.int=z1 at *
 generalize (ms.map fun p=>(spots p:Int)).map D.int=z2 at *
 generalize (ms.map fun p=>(size p:Int)).sum=n1 at *
 generalize (ms.map fun p=>(spots p:Int)).sum=n2 at *
 generalize ms.map pgD=msD at *
 have hM:(m++[Cell.obj "Program" [] []]).length=m.length+1:=by simp
 have t3:((own l+zyo ms:Nat):Int)=(own l:Int)+n2:=by rw[t2];omega
 rw[t3,←t1]
 unfold fns
 cases h1:znw l <;> cases h2:isTg l <;> rw[h1] at e1 ho <;> rw[h2] at e2 ho <;> simp at ho <;> rw[ho] <;>
  simp[zyc,z8e,sf0,sf1,sf2,sf3,sf4,sf5,sf6,sf7,sf8,c1,c2,s1,s2,s3,e1,e2,zmw,hM]
theorem z0jb {ls:List (List Nat)} (h:∀l∈ls,Line l∧l.length≤5000) (hn:ls.length≤3000) (m:Mem):zec [.d (blkD ls)] m = .ok (.d (.str (S (ybb [10] ls)))) m:=by
 have ej:joinD (.str (S [10])) [.lst (lnD ls)]=some (.str (S (ybb [10] ls))):=zmlb (fun y hy=>(h y hy).2) hn
 unfold blkD
 generalize lnD ls=ld at *
 simp[zec,zni,zyg,e_nl,ej]
theorem fcut (a b c d e f g h:D):fldD ["Program"] "cut" (.obj "Program" ["word", "members", "name", "amount", "tag", "block", "cut", "size"] [a,b,c,d,e,f,g,h])=some g:=by
 unfold fldD
 simp only[]
 rw[if_pos (yj.mpr rfl)]
 simp only[fldL]
 repeat (first |rw[if_pos True.intro] |rw[if_neg (by decide)])
theorem zqab {ls:List (List Nat)} (hn:ls.length≤3000) (wd:DL.Env) (hw:wd.length=11) (M:Mem):compD (gNm 10) z2e zsg wd (cutLs ls) [] M = .ok (((ls.filter fun l=>decide (word l≠[])).map fun l=>(spL l:Int)).map D.int) M:=by
 rw[y6]
 exact z7n (enc:=cutL) (dec:=fun l=>D.int (spL l:Int)) (fun l=>decide (word l≠[])) ls (fun l _=>⟨_,rfl,by
  have hg:(wd.set 10 (some (.d (cutL l))))[10]?=some (some (.d (cutL l))):=yu (by omega)
  by_cases hl:word l=[]
  ·have:cutL l = .non:=if_pos hl
   rw[this] at hg ⊢
   simp[z2e,eVar,hg,ztn,hl]
  ·have:cutL l = .tup [.int (((l.length-(ldw l).length:Nat)):Int),.tup ((zoo (word l)).map PG.ndP)]:=if_neg hl
   rw[this] at hg ⊢
   simp[z2e,eVar,hg,ztn,hl],fun hc=>by
  have hl:¬word l=[]:=by simpa using hc
  have hg:(wd.set 10 (some (.d (cutL l))))[10]?=some (some (.d (cutL l))):=yu (by omega)
  have:cutL l = .tup [.int (((l.length-(ldw l).length:Nat)):Int),.tup ((zoo (word l)).map PG.ndP)]:=if_neg hl
  rw[this] at hg ⊢
  have hs:spL l=(zoo (word l)).length:=if_neg hl
  have hi:∀a b:D,ixD (.tup [a,b]) (.int 1)=some b:=fun a b=>rfl
  have hlen:((zoo (word l)).map PG.ndP).length=spL l:=by rw[ye,hs]
  generalize (zoo (word l)).map PG.ndP=ns at *
  simp[zsg,eVar,hg,hi,hlen]⟩) (by unfold sizeLine;omega)
theorem z5ab (ls:List (List Nat)):((ls.filter fun l=>decide (word l≠[])).map fun l=>(spL l:Int)).sum=(((ls.map spL).sum:Nat):Int):=by
 induction ls with
 |nil=>rfl
 |cons l ls ih=>
  by_cases hl:word l=[]
  ·have h0:spL l=0:=if_pos hl
   rw[ymb (by simp[hl]),yr,yfc,h0,ih]
   omega
  ·rw[ypc (by simp[hl]),yr,yr,yfc,yfc,ih]
   omega
theorem initF {ls:List (List Nat)} (h:∀l∈ls,Line l∧l.length≤5000) (hne:ls≠[]) (hn:ls.length≤3000) (m:Mem) :
  zyc [.c m.length,.d (.str "fixed"),.d (.tup []),.d .non,.d .non,.d .non,.d (blkD ls)] (m++[.obj "Program" [] []]) =
   .ok (.d .non) (m++[.obj "Program" fns [.str "fixed",.tup [],.non,.non,.non,blkD ls,.lst (cutLs ls),.int 1,.int (((ls.map spL).sum:Nat):Int)]]):=by
 have b1:=fun M=>z0jb h hn M
 have b2:=fun M=>z31 h hne hn M
 have c3:=fun wd hw M=>zqab hn wd hw M
 have s4:=z8x ((ls.filter fun l=>decide (word l≠[])).map fun l=>(spL l:Int))
 have t4:=z5ab ls
 rw[t4] at s4
 have s3:sumD [.lst []]=some (.int 0):=rfl
 have e1:eqD (.str "fixed") (.str "hole")=some (.bl false):=by rw[zk];rfl
 have e2:inTD (.str "fixed") (.tup [.str "tag",.str "raw"])=some (.bl false):=by rw[inT_2];rfl
 have hM:(m++[Cell.obj "Program" [] []]).length=m.length+1:=by simp
 have bk:zmw (blkD ls) .non=some (.bl false):=rfl
 have est:∀M,(eStr [("Block",zec)] (aCons (eVar 6) aNil)) [some (.c m.length),some (.d (.str "fixed")),some (.d (.tup [])),some (.d .non),some (.d .non),some (.d .non),some (.d (blkD ls)),none,none,none,none] M = .ok (.d (.str (S (ybb [10] ls)))) M:=fun M=>by
  have hb:=b1 M
  unfold blkD at hb ⊢
  simp[hb,look]
 generalize ((ls.filter fun l=>decide (word l≠[])).map fun l=>(spL l:Int)).map D.int=z1 at *
 generalize (((ls.map spL).sum:Nat):Int)=n1 at *
 generalize cutLs ls=cs at *
 generalize S (ybb [10] ls)=tx at *
 generalize blkD ls=B at *
 unfold fns
 simp[-zadb,-zk,zyc,z8e,sf0,sf1,sf2,sf3,sf4,sf5,sf6,sf7,sf8,s3,s4,e1,e2,bk,hM,est,b2,c3,fcut,compD]
/-- not too large -/
structure POk (p:Pg):Prop where
 sz:size p≤16
 nd:(nms p).Nodup
 wt:weight p≤3
def plain:Lab→Bool
 |.fixed _=>false
 |_=>true
theorem zykb {l:Lab} (h:plain l=true):own l=l.sp:=by
 cases l <;> first |(cases h;done) |rfl
theorem zhmb {l:Lab} (h:plain l=true):bkD l = .non∧ctD l = .non:=by
 cases l <;> first |(cases h;done) |exact⟨rfl,rfl⟩
theorem z9r {l:Lab} (hp:plain l=true) (ms:List Pg) (hz:ms.length≤1000) (F:DF) (ws:List W) (m:Mem)
  (hF:∀M,F (.c m.length::ws) M=zyc [.c m.length,.d (.str l.w),.d (.tup (ms.map pgD)),.d (nmD l),.d (amD l),.d (tgD l),.d .non] M) :
  makeW "Program" F ws m = .ok (.d (pgD (.node l ms))) m:=by
 unfold makeW
 rw[hF,init0 l ms hz (nmD l) (amD l) (tgD l) m]
 obtain⟨b1,b2⟩:=zhmb hp
 have e:pgD (.node l ms)=obD l (ms.map pgD) (1+sizes ms) (own l+zyo ms):=by
  rw[zykb hp]
  conv=>lhs;unfold pgD
  rw[zc2]
 rw[e]
 unfold obD
 rw[b1,b2]
 simp[madeW]
theorem zrib (c:Nat) (m:Mem):makeW "Program" zgb [.d (.str "hole"),.d (.tup []),.d (.str (S [c]))] m = .ok (.d (pgD (.node (.hole c) []))) m:=
 z9r (l:=.hole c) rfl [] (by simp) _ _ m fun M=>by
  unfold zgb
  rw[x_kwF]
  rfl
theorem zsib (c:Nat) (p:Pg) (m:Mem):makeW "Program" zgb [.d (.str "each"),.d (.tup [pgD p]),.d (.str (S [c]))] m = .ok (.d (pgD (.node (.each c) [p]))) m:=
 z9r (l:=.each c) rfl [p] (by simp) _ _ m fun M=>by
  unfold zgb
  rw[x_kwF]
  rfl
theorem z7eb (w:Sh) (n:Nat) (p:Pg) (m:Mem):makeW "Program" zad [.d (.str w.w),.d (.tup [pgD p]),.d (.int (n:Int))] m = .ok (.d (pgD (.node (.sh w n) [p]))) m:=
 z9r (l:=.sh w n) rfl [p] (by simp) _ _ m fun M=>by
  unfold zad
  rw[x_kwF]
  rfl
theorem z4kb (h:Bool) (t:List Nat) (p:Pg) (m:Mem):makeW "Program" zgc [.d (.str (Lab.tg h t).w),.d (.tup [pgD p]),.d (.str (S t))] m = .ok (.d (pgD (.node (.tg h t) [p]))) m:=
 z9r (l:=.tg h t) rfl [p] (by simp) _ _ m fun M=>by
  unfold zgc
  rw[x_kwF]
  rfl
theorem z7kb (p:Pg) (m:Mem):makeW "Program" z8 [.d (.str "dedent"),.d (.tup [pgD p])] m = .ok (.d (pgD (.node .ded [p]))) m:=
 z9r (l:=.ded) rfl [p] (by simp) _ _ m fun M=>by
  unfold z8
  rw[x_kwF]
  rfl
theorem z6kb (p:Pg) (m:Mem):makeW "Program" z8 [.d (.str "flush"),.d (.tup [pgD p])] m = .ok (.d (pgD (.node .flu [p]))) m:=
 z9r (l:=.flu) rfl [p] (by simp) _ _ m fun M=>by
  unfold z8
  rw[x_kwF]
  rfl
theorem z5kb (ms:List Pg) (hz:ms.length≤1000) (m:Mem):makeW "Program" z8 [.d (.str "sum"),.d (.tup (ms.map pgD))] m = .ok (.d (pgD (.node .sum ms))) m:=
 z9r (l:=.sum) rfl ms hz _ _ m fun M=>by
  unfold z8
  rw[x_kwF]
  rfl
theorem zv8 {ls:List (List Nat)} (h:∀l∈ls,Line l∧l.length≤5000) (hne:ls≠[]) (hn:ls.length≤3000) (m:Mem):makeW "Program" zoc [.d (.str "fixed"),.d (.tup []),.d (blkD ls)] m = .ok (.d (pgD (.node (.fixed ls) []))) m:=by
 have hF:∀M,zoc [.c m.length,.d (.str "fixed"),.d (.tup []),.d (blkD ls)] M=zyc [.c m.length,.d (.str "fixed"),.d (.tup []),.d .non,.d .non,.d .non,.d (blkD ls)] M:=fun M=>by
  unfold zoc
  rw[x_kwF]
  rfl
 unfold makeW
 rw[hF,initF h hne hn m]
 have e:pgD (.node (.fixed ls) [])=obD (.fixed ls) [] 1 ((ls.map spL).sum):=by
  conv=>lhs;unfold pgD
  unfold pgDs sizes zyo
  rfl
 rw[e]
 unfold obD
 simp[madeW]
 exact⟨rfl,rfl,rfl,rfl,rfl,rfl⟩
theorem zh1 {c:Nat} (h:z7d c=true) (m:Mem):zkq [.d (.str (S [c]))] m = .ok (.d (.bl true)) m:=by
 unfold z7d at h
 rw[yab,decide_eq_true_eq,decide_eq_true_eq] at h
 have l1:=len_str (a:=[c]) (by unfold sizeLine;simp)
 simp[zkq,z3z,zps,zde,isfT,l1,znp,e_a,e_z,le_1,h.1,h.2]
theorem z9ib {c:Nat} (h:z7d c=true) (m:Mem):zw9 [.d (.str (S [c]))] m = .ok (.d (pgD (.node (.hole c) []))) m:=by
 have e1:=zh1 h m
 have e2:=zrib c m
 simp[zw9,z4db,zi3,e1,e2]
theorem z66 {n:Nat} (h:n≤20) (m:Mem):z6e [.d (.int (n:Int))] m = .ok (.d (.bl true)) m:=by
 have e:=zds (x:=.int (n:Int)) True.intro 21 m
 have e2:intIn (.int (n:Int)) 21=true:=by unfold intIn;simp;omega
 rw[e2] at e
 simp[z6e,z9n,znk,e]
theorem zqq {w:Sh} {n:Nat} {p:Pg} (hn:n≤20) (h:POk (.node (.sh w n) [p])) (m:Mem):zmg [.d (pgD p),.d (.str w.w),.d (.int (n:Int))] m = .ok (.d (pgD (.node (.sh w n) [p]))) m:=by
 have e1:=z66 hn m
 have e2:=z7eb w n p m
 have e3:=zzk h.sz h.nd h.wt m
 generalize pgD (.node (.sh w n) [p])=Q at *
 generalize pgD p=P at *
 generalize (n:Int)=N at *
 simp[zmg,z2z,zos,e1,e2,e3]
theorem zfbb {n:Nat} {p:Pg} (hn:n≤20) (h:POk (.node (.sh .in_ n) [p])) (m:Mem):zwc [.d (pgD p),.d (.int (n:Int))] m = .ok (.d (pgD (.node (.sh .in_ n) [p]))) m:=by
 have e:zmg [.d (pgD p),.d (.str "in"),.d (.int (n:Int))] m=_:=zqq (w:=.in_) hn h m
 generalize pgD (.node (.sh .in_ n) [p])=Q at *
 generalize pgD p=P at *
 generalize (n:Int)=N at *
 simp[zwc,z8g,z2f,e]
theorem zecb {n:Nat} {p:Pg} (hn:n≤20) (h:POk (.node (.sh .out n) [p])) (m:Mem):zxc [.d (pgD p),.d (.int (n:Int))] m = .ok (.d (pgD (.node (.sh .out n) [p]))) m:=by
 have e:zmg [.d (pgD p),.d (.str "out"),.d (.int (n:Int))] m=_:=zqq (w:=.out) hn h m
 generalize pgD (.node (.sh .out n) [p])=Q at *
 generalize pgD p=P at *
 generalize (n:Int)=N at *
 simp[zxc,z9g,z3f,e]
theorem zvbb {n:Nat} {p:Pg} (hn:n≤20) (h:POk (.node (.sh .first n) [p])) (m:Mem):zsi [.d (pgD p),.d (.int (n:Int))] m = .ok (.d (pgD (.node (.sh .first n) [p]))) m:=by
 have e:zmg [.d (pgD p),.d (.str "first"),.d (.int (n:Int))] m=_:=zqq (w:=.first) hn h m
 generalize pgD (.node (.sh .first n) [p])=Q at *
 generalize pgD p=P at *
 generalize (n:Int)=N at *
 simp[zsi,zml,z3i,e]
theorem zveb {n:Nat} {p:Pg} (hn:n≤20) (h:POk (.node (.sh .rest n) [p])) (m:Mem):zmj [.d (pgD p),.d (.int (n:Int))] m = .ok (.d (pgD (.node (.sh .rest n) [p]))) m:=by
 have e:zmg [.d (pgD p),.d (.str "rest"),.d (.int (n:Int))] m=_:=zqq (w:=.rest) hn h m
 generalize pgD (.node (.sh .rest n) [p])=Q at *
 generalize pgD p=P at *
 generalize (n:Int)=N at *
 simp[zmj,zwm,z3j,e]
theorem z8hb {p:Pg} (h:POk (.node .ded [p])) (m:Mem):zxd [.d (pgD p)] m = .ok (.d (pgD (.node .ded [p]))) m:=by
 have e2:=z7kb p m
 have e3:=zzk h.sz h.nd h.wt m
 generalize pgD (.node .ded [p])=Q at *
 generalize pgD p=P at *
 simp[zxd,z5i,zvh,e2,e3]
theorem zubb {p:Pg} (h:POk (.node .flu [p])) (m:Mem):zri [.d (pgD p)] m = .ok (.d (pgD (.node .flu [p]))) m:=by
 have e2:=z6kb p m
 have e3:=zzk h.sz h.nd h.wt m
 generalize pgD (.node .flu [p])=Q at *
 generalize pgD p=P at *
 simp[zri,zll,z2i,e2,e3]
theorem ze1 {hang:Bool} {t:List Nat} {p:Pg} (ht:isTag t=true) (h:POk (.node (.tg hang t) [p])) (m:Mem):zqe [.d (pgD p),.d (.str (S t)),.d (.bl hang)] m = .ok (.d (pgD (.node (.tg hang t) [p]))) m:=by
 have e1:=zbv (w:=t) (by unfold isTag at ht;simp at ht;omega) m
 rw[ht] at e1
 have e2:=z4kb hang t p m
 have e3:=zzk h.sz h.nd h.wt m
 generalize pgD (.node (.tg hang t) [p])=Q at *
 generalize pgD p=P at *
 cases hang with
 |true=>
  have e2:makeW "Program" zgc [.d (.str "tag"),.d (.tup [P]),.d (.str (S t))] m = .ok (.d Q) m:=e2
  simp[zqe,znh,z8f,e1,e2,e3]
 |false=>
  have e2:makeW "Program" zgc [.d (.str "raw"),.d (.tup [P]),.d (.str (S t))] m = .ok (.d Q) m:=e2
  simp[zqe,znh,z8f,e1,e2,e3]
end LK
namespace LK
open PySem PySem.Spec L2 DL TM SX
theorem zzib {ls:List (List Nat)} (h:∀l∈ls,Line l) (hn:ls.length≤10000) (m:Mem):makeW "Block" zfc ((lnD ls).map W.d) m = .ok (.d (blk (rowsOf ls))) m:=by
 obtain⟨M,hM⟩:∃M,M=m++[Cell.obj "Block" [] []]:=⟨_,rfl⟩
 have el:∃x,loopD (gNm 2) zcg (lnD ls) [some (.c m.length),some (.d (.tup (lnD ls))),none,none] M = .nx [some (.c m.length),some (.d (.tup (lnD ls))),x,none] M:=by
  have:=zty (g:=gNm 2) (b:=zcg) (m:=M) (enc:=fun l=>D.str (S l)) (fun _=>false) (fun dl=>∃x,dl=[some (.c m.length),some (.d (.tup (lnD ls))),x,none]) (fun _ _=>True) ls [some (.c m.length),some (.d (.tup (lnD ls))),none,none] ⟨none,rfl⟩ (fun l hl dl hd=>by
   obtain⟨x,rfl⟩:=hd
   exact⟨_,rfl,(fun z=>nomatch z),fun _=>⟨_,by simp[zcg,zcv (h l hl)];rfl,_,rfl⟩⟩)
  rw[List.find?_eq_none.mpr (fun _ _=>y4)] at this
  obtain⟨dl2,e,x,rfl⟩:=this
  exact⟨x,e⟩
 obtain⟨x,el⟩:=el
 have ec:=zpk (g:=gNm 2) (e:=ztf) (wd:=[some (.c m.length),some (.d (.tup (lnD ls))),none,none]) (m:=M) (enc:=fun l=>D.str (S l)) (dec:=fun l=>D.str (S (TM.rdw l))) ls (fun l hl=>⟨_,rfl,by simp[ztf,e_sp,z81 (h l hl).1.sz]⟩) (by unfold sizeLine;omega)
 have e5:ls.map (fun l=>D.str (S (TM.rdw l)))=lnD (ls.map TM.rdw):=by
  unfold lnD
  rw[y6]
  rfl
 rw[e5] at ec
 have ec:compD (gNm 2) bYes ztf [some (.c m.length),some (.d (.tup (lnD ls))),none,none] (lnD ls) [] M = .ok (lnD (ls.map TM.rdw)) M:=ec
 have e6:z5g ((lnD ls).map W.d)=some (lnD ls):=zvv _
 have e7:=ne_nil (ls:=ls.map TM.rdw) fun l hl=>by
  obtain⟨a,ha,rfl⟩:=yfb.mp hl
  exact (h a ha).1.rdw
 have hz:ls.length≤sizeLine:=by unfold sizeLine;omega
 have hg:M[m.length]?=some (Cell.obj "Block" [] []):=by rw[hM];simp
 have es:∀d:D,sFldW ["Block"] "rows" (.d d) (.c m.length) M=some (m++[Cell.obj "Block" ["rows"] [d]]):=fun d=>by
  unfold sFldW
  simp only[hg]
  rw[if_pos ⟨yj.mpr rfl,by decide⟩,hM]
  simp[putL]
 have hML:M.length=m.length+1:=by rw[hM];simp
 have er:zoh [.c m.length,.d (.tup (lnD ls))] M = .ok (.d .non) (m++[.obj "Block" ["rows"] [.lst (lnD (rowsOf ls))]]):=by
  by_cases hls:ls=[]
  ·have e8:rowsOf ls=[[]]:=if_pos hls
   have e9:lnD [[]]=[D.str (S [])]:=rfl
   have e7':neD (.lst (lnD (ls.map TM.rdw))) (.lst [])=some (.bl false):=by rw[e7];simp[hls]
   rw[e8,e9]
   simp[zoh,z9f,el,ec,e7',es,e_em,hML]
  ·have e8:rowsOf ls=ls.map TM.rdw:=if_neg hls
   have e7':neD (.lst (lnD (ls.map TM.rdw))) (.lst [])=some (.bl true):=by rw[e7];simp[hls]
   rw[e8]
   simp[zoh,z9f,el,ec,e7',es,hML]
 unfold makeW zfc starF
 rw[←hM]
 simp[e6,hz,er,madeW,blk]
/-- from rows as the law has them -/
theorem z9bb {B L:Nat} {rs:List Row} (h:∀r∈rs,RowIn B L r) (hz:B+L≤100000) (hne:rs≠[]) (hn:rs.length≤10000) (m:Mem):makeW "Block" zfc ((lnD (rs.map zm)).map W.d) m = .ok (.d (blk (rs.map zm))) m:=by
 rw[zzib (fun l hl=>by
  obtain⟨r,hr,rfl⟩:=yfb.mp hl
  exact (h r hr).line hz) (by rw[ye];exact hn)]
 have e:rowsOf (rs.map zm)=rs.map zm:=by
  unfold rowsOf
  rw[if_neg (by simp[hne]),y6]
  exact List.map_congr_left fun r hr=>za2 (h r hr)
 rw[e]
theorem zo6 {B L:Nat} {rs:List Row} (h:∀r∈rs,RowIn B L r) (hz:B+L≤5000) (hne:rs≠[]) (hn:rs.length≤3000) (m:Mem):z4h [.d (.cls "Block"),.d (.str (S (ybb [10] (rs.map zm))))] m = .ok (.d (blk (rs.map zm))) m:=by
 have h5:∀y∈rs.map zm,y.length≤5000:=fun y hy=>by
  obtain⟨r,hr,rfl⟩:=yfb.mp hy
  have:=(h r hr).len
  omega
 have e1:=zi6 (s:=10) (ls:=rs.map zm) (by simp[hne]) (fun l hl=>by
  obtain⟨r,hr,rfl⟩:=yfb.mp hl
  exact ((h r hr).line (by omega)).2) h5 (by rw[ye];exact hn) (by decide)
 have e2:=z9bb h (by omega) hne (by omega) m
 obtain⟨ls,hls⟩:∃ls,ls=rs.map zm:=⟨_,rfl⟩
 rw[←hls] at e1 e2 ⊢
 have e3:∀f:DA,eMk "Block" zfc (eVar 0) f [some (.d (.cls "Block")),some (.d (.str (S (ybb [10] ls)))),some (.d (.lst (lnD ls)))] m=_:=fun f=>zljb rfl
 simp[z4h,z7p,zum,zde,isfT,e_nl,e1,e2,e3]
theorem zi4 (ls:List (List Nat)) (m:Mem):zqb [.d (blk ls)] m = .ok (.d (.tup (lnD ls))) m:=by
 simp[zqb,ztk,zii,blk]
end LK
namespace LK
open PySem PySem.Spec L2 DL TM SX NT PG
def isSum:Lab→Bool
 |.sum=>true
 |_=>false
theorem w_sum:∀l:Lab,decide (l.w = "sum")=isSum l
 |.fixed _=>(by decide:decide (Str.ofString "fixed" = Str.ofString "sum")=false)
 |.hole _=>(by decide:decide (Str.ofString "hole" = Str.ofString "sum")=false)
 |.each _=>(by decide:decide (Str.ofString "each" = Str.ofString "sum")=false)
 |.sum=>(by decide:decide (Str.ofString "sum" = Str.ofString "sum")=true)
 |.sh .in_ _=>(by decide:decide (Str.ofString "in" = Str.ofString "sum")=false)
 |.sh .out _=>(by decide:decide (Str.ofString "out" = Str.ofString "sum")=false)
 |.sh .first _=>(by decide:decide (Str.ofString "first" = Str.ofString "sum")=false)
 |.sh .rest _=>(by decide:decide (Str.ofString "rest" = Str.ofString "sum")=false)
 |.ded=>(by decide:decide (Str.ofString "dedent" = Str.ofString "sum")=false)
 |.flu=>(by decide:decide (Str.ofString "flush" = Str.ofString "sum")=false)
 |.tg true _=>(by decide:decide (Str.ofString "tag" = Str.ofString "sum")=false)
 |.tg false _=>(by decide:decide (Str.ofString "raw" = Str.ofString "sum")=false)
/-- what a program gives to a sum -/
def sms (p:Pg):List Pg:=if isSum p.lab=true then p.ms else [p]
theorem zjr (p:Pg) (m:Mem):z1g [.d (pgD p)] m = .ok (.d (.tup ((sms p).map pgD))) m:=by
 have e1:=zk p.lab.w "sum"
 rw[w_sum] at e1
 have e2:=zhs p
 have e3:=z1q p
 unfold sms
 cases h:isSum p.lab with
 |true=>
  rw[h] at e1
  rw[if_pos rfl]
  generalize p.ms.map pgD=msD at *
  generalize pgD p=P at *
  simp[-zk,z1g,zrk,zfi,e1,e2,e3]
 |false=>
  rw[h] at e1
  rw[if_neg y4]
  have e4:[p].map pgD=[pgD p]:=rfl
  rw[e4]
  generalize pgD p=P at *
  simp[-zk,z1g,zrk,zfi,e1,e2]
theorem z7x {p q:Pg} (hp:sms p≠[]) (hq:sms q≠[]) (h:POk (.node .sum (sms p++sms q))) (m:Mem):zwu [.d (pgD p),.d (pgD q)] m = .ok (.d (pgD (.node .sum (sms p++sms q)))) m:=by
 have e1:=zjr p m
 have e2:=zjr q m
 have hl:(sms p++sms q).length≤16:=by
  have h1:=h.sz
  have h2:(sms p++sms q).length≤sizes (sms p++sms q):=by
   generalize sms p++sms q=l
   induction l with
   |nil=>simp
   |cons a l ih=>unfold sizes;have:=size_pos a;simp;omega
  have h3:size (.node .sum (sms p++sms q))=1+sizes (sms p++sms q):=by conv=>lhs;unfold size
  omega
 have e3:=z5kb (sms p++sms q) (by omega) m
 have e4:=zzk h.sz h.nd h.wt m
 have ea:addD (.tup ((sms p).map pgD)) (.tup ((sms q).map pgD))=some (.tup ((sms p++sms q).map pgD)):=by
  show chk _ _=_
  rw[zdc ⟨by simpa using hp,by simpa using hq,by rw[yg] at hl;rw[ye,ye];unfold sizeLine;omega⟩,yob]
 generalize pgD (.node .sum (sms p++sms q))=R at *
 generalize (sms p++sms q).map pgD=A at *
 generalize (sms p).map pgD=B at *
 generalize (sms q).map pgD=C at *
 generalize pgD p=P at *
 generalize pgD q=Q at *
 simp[zwu,z03,ztv,e1,e2,ea,e3,e4]
theorem z93 (p:Pg):tagD (pgD p)=some (.own "Program"):=by
 rw[z7h]
 rfl
theorem zv2 (p:Pg) (m:Mem):zsc [.d (pgD p)] m = .ok (.d (pgD p)) m:=by
 have e:=z93 p
 have n:¬(Str.ofString "Block" = Str.ofString "Program"):=by decide
 generalize pgD p=P at *
 simp[zsc,zih,zwf,zwd,isfT,e,n]
theorem zcib {p q:Pg} (hp:sms p≠[]) (hq:sms q≠[]) (h:POk (.node .sum (sms p++sms q))) (m:Mem):zt [.d (pgD p),.d (pgD q)] m = .ok (.d (pgD (.node .sum (sms p++sms q)))) m:=by
 have e1:=zv2 q m
 have e2:=z7x hp hq h m
 generalize pgD (.node .sum (sms p++sms q))=R at *
 generalize pgD p=P at *
 generalize pgD q=Q at *
 simp[zt,zzg,zof,e1,e2]
theorem zh2 {ns:List Int} {b:Int} (h0:ns≠[]) (h:∀n∈ns,n≤b):maxI ns≤b:=by
 have key:∀(ns:List Int) (x:Int),x≤b→(∀n∈ns,n≤b)→ns.foldl (fun x y=>if x<y then y else x) x≤b:=by
  intro ns
  induction ns with
  |nil=>intro x hx _;exact hx
  |cons a l ih=>
   intro x hx hl
   rw[List.foldl_cons]
   refine ih _ ?_ fun n hn=>hl n (yd _ hn)
   split
   ·exact hl a yb
   ·exact hx
 cases ns with
 |nil=>exact absurd rfl h0
 |cons a l=>exact key l a (h a yb) fun n hn=>h n (yd _ hn)
theorem zvgb {ns:List Int} (h:ns≠[]):maxLD [.lst (ns.map D.int)]=some (.int (maxI ns)):=by
 show (match zru (ns.map D.int) with |some ns=>chk (ns≠[]) (D.int (maxI ns)) |none=>none)=_
 rw[zx1]
 exact zdc h
theorem zofb {B L:Nat} {rs:List Row} (h:∀r∈rs,RowIn B L r) (hz:B+L≤60) (hne:rs≠[]) (hn:rs.length≤6) (m:Mem):zlq [.d (.str (S (ybb [10] (rs.map zm))))] m = .ok (.d (pgD (.node (.fixed (rs.map zm)) []))) m:=by
 have hl:∀y∈rs.map zm,Line y∧y.length≤60:=fun y hy=>by
  obtain⟨r,hr,rfl⟩:=yfb.mp hy
  have:=(h r hr).len
  exact⟨(h r hr).line (by omega),by omega⟩
 have e1:=zo6 h (by omega) hne (by omega) m
 have hne2:rs.map zm≠[]:=by simp[hne]
 have hn2:(rs.map zm).length≤6:=by rw[ye];exact hn
 have e3:=zv8 (ls:=rs.map zm) (fun l hx=>⟨(hl l hx).1,by have:=(hl l hx).2;omega⟩) hne2 (by omega) m
 generalize rs.map zm=ls at *
 have e2:propW "Block" zqb (.d (blk ls)) m = .ok (.d (.tup (lnD ls))) m:=by
  rw[show blk ls = .obj "Block" ["rows"] [.lst (lnD ls)] from rfl,zkt]
  rw[show zqb [.d (.obj "Block" ["rows"] [.lst (lnD ls)])] m=_ from zi4 ls m]
  rfl
 have hl2:(lnD ls).length=ls.length:=by unfold lnD;rw[ye]
 have ec:=zpk (m:=m) (g:=gNm 3) (e:=zcj) (wd:=[some (.d (.str (S (ybb [10] ls)))),some (.d (blk ls)),some (.d (.tup (lnD ls))),none]) (enc:=fun l=>D.str (S l)) (dec:=fun l=>D.int (l.length:Int)) ls (fun l hx=>⟨_,rfl,by
  have e:=len_str (a:=l) (by have:=(hl l hx).2;unfold sizeLine;omega)
  simp[zcj,e]⟩) (by unfold sizeLine;omega)
 have em:=zvgb (ns:=ls.map fun l=>(l.length:Int)) (by simpa using hne2)
 rw[y6] at em
 have em:maxLD [.lst (ls.map fun l=>D.int (l.length:Int))]=_:=em
 have hM:=zh2 (ns:=ls.map fun l=>(l.length:Int)) (b:=60) (by simpa using hne2) (fun n hx=>by
  obtain⟨l,hy,rfl⟩:=yfb.mp hx
  have:=(hl l hy).2
  omega)
 have ec:compD (gNm 3) bYes zcj [some (.d (.str (S (ybb [10] ls)))),some (.d (blk ls)),some (.d (.tup (lnD ls))),none] (lnD ls) [] m=_:=ec
 have eb:blkD ls=blk ls:=rfl
 rw[eb] at e3
 have g1:¬((ls.length:Int) > 6):=by omega
 have g2:¬(maxI (ls.map fun l=>(l.length:Int)) > 60):=by omega
 generalize maxI (ls.map fun l=>(l.length:Int))=M at *
 generalize ls.map (fun l=>D.int (l.length:Int))=A at *
 generalize pgD (.node (.fixed ls) [])=R at *
 generalize S (ybb [10] ls)=t at *
 generalize lnD ls=B at *
 generalize blk ls=C at *
 simp[zlq,z13,zeu,zue,zde,isfT,e1,e2,ec,em,hl2,e3,g1,g2]
def zst:Lab→Bool
 |.each _=>true
 |_=>false
theorem zdkb:∀l:Lab,decide (l.w = "each")=zst l
 |.fixed _=>(by decide:decide (Str.ofString "fixed" = Str.ofString "each")=false)
 |.hole _=>(by decide:decide (Str.ofString "hole" = Str.ofString "each")=false)
 |.each _=>(by decide:decide (Str.ofString "each" = Str.ofString "each")=true)
 |.sum=>(by decide:decide (Str.ofString "sum" = Str.ofString "each")=false)
 |.sh .in_ _=>(by decide:decide (Str.ofString "in" = Str.ofString "each")=false)
 |.sh .out _=>(by decide:decide (Str.ofString "out" = Str.ofString "each")=false)
 |.sh .first _=>(by decide:decide (Str.ofString "first" = Str.ofString "each")=false)
 |.sh .rest _=>(by decide:decide (Str.ofString "rest" = Str.ofString "each")=false)
 |.ded=>(by decide:decide (Str.ofString "dedent" = Str.ofString "each")=false)
 |.flu=>(by decide:decide (Str.ofString "flush" = Str.ofString "each")=false)
 |.tg true _=>(by decide:decide (Str.ofString "tag" = Str.ofString "each")=false)
 |.tg false _=>(by decide:decide (Str.ofString "raw" = Str.ofString "each")=false)
/-- the names of the eaches -/
def rowN (p:Pg):D:=match ((parts p).filter fun q=>zst q.lab).map (fun q=>nmD q.lab) with |[]=>.non |d::_=>d
theorem znkb {p:Pg} (h:size p≤23) (m:Mem):z2g [.d (pgD p)] m = .ok (.d (rowN p)) m:=by
 have e1:=z8l h m
 have ec:=z7n (m:=m) (g:=gNm 2) (t:=zak) (e:=zbk) (wd:=[some (.d (pgD p)),none,none]) (enc:=pgD) (dec:=fun q=>nmD q.lab) (fun q=>zst q.lab) (parts p) (fun q _=>⟨_,rfl,by
  have ew:=zhs q
  have e2:=zk q.lab.w "each"
  rw[zdkb] at e2
  generalize pgD q=Q at *
  simp[zak,ew,e2],fun _=>by
  have ew:=zw2 q
  generalize pgD q=Q at *
  simp[zbk,ew]⟩) (by rw[zeg];unfold sizeLine;omega)
 unfold rowN
 generalize (parts p).map pgD=pp at *
 generalize ((parts p).filter fun q=>zst q.lab).map (fun q=>nmD q.lab)=nn at *
 generalize pgD p=P at *
 cases nn with
 |nil=>simp[z2g,zsk,zhi,e1,ec]
 |cons d ds=>
  simp[z2g,zsk,zhi,e1,ec]
theorem zjjb {c:Nat} {p:Pg} (hc:z7d c=true) (h1:nms p=[c]) (h2:rowN p = .non) (h:POk (.node (.each c) [p])) (m:Mem):zx9 [.d (.str (S [c])),.d (pgD p)] m = .ok (.d (pgD (.node (.each c) [p]))) m:=by
 have hs:size p≤23:=by
  have:=h.sz
  have h3:size (.node (.each c) [p])=1+size p:=by
   conv=>lhs;unfold size sizes sizes
   omega
  omega
 have e1:=zh1 hc m
 have e2:=ziw hs m
 rw[h1] at e2
 have e3:propW "Program" z2g (.d (pgD p)) m = .ok (.d .non) m:=by
  have e:=znkb hs m
  rw[h2] at e
  rw[z7h] at e ⊢
  unfold obD at e ⊢
  rw[zkt,e]
  rfl
 have e4:=zsib c p m
 have e5:=zzk h.sz h.nd h.wt m
 have e6:[c].map chS=[.str (S [c])]:=rfl
 rw[e6] at e2
 have e7:neD (.lst [.str (S [c])]) (.lst [.str (S [c])])=some (.bl false):=zlib (k:=1) (.lst fun d hd=>by
  rw[yj.mp hd]
  refine Lay.str 0 fun x hx=>?_
  rw[yj.mp hx]
  unfold z7d at hc
  simp at hc
  omega) (by decide)
 have e8:ztn .non .non=some (.bl false):=rfl
 generalize pgD (.node (.each c) [p])=R at *
 generalize pgD p=P at *
 generalize S [c]=t at *
 simp[zx9,z5db,zj3,e1,e2,e3,e4,e5,e7,e8]
theorem z2db (ys:List (List Nat)):zon (lnD ys)=some (ys.map S):=by
 rw[zuy]
 induction ys with
 |nil=>rfl
 |cons y ys ih=>rw[yr,yr,zon,ih];rfl
theorem sum_S {ys:List (List Nat)} {K:Nat} (h:∀y∈ys,y.length≤K):((ys.map S).map (·.length)).sum≤ys.length*K:=by
 induction ys with
 |nil=>simp
 |cons y ys ih=>
  have h1:=h y yb
  have h2:=ih fun z hz=>h z (yd _ hz)
  simp only[yr,yfc,yw,S_len] at h2 ⊢
  rw[Nat.add_mul]
  omega
theorem zn2 {x:D} {a:List Nat} {ys:List (List Nat)} (hx:seqD x=some (lnD ys)) (h:∀y∈ys,y.length≤20000) (hn:ys.length≤100) (ha:a.length≤10):joinD (.str (S a)) [x]=some (.str (S (ybb a ys))):=by
 have e3:=sum_S h
 have e4:ys.length*a.length≤100*10:=Nat.mul_le_mul hn ha
 unfold joinD
 simp only[hx,z2db]
 rw[zdc (by rw[S_len,ye];omega),join_S]
/-- the signs of a word -/
def tc:Lab→List Nat
 |.fixed _=>[102,105,120,101,100]
 |.hole _=>[104,111,108,101]
 |.each _=>[101,97,99,104]
 |.sum=>[115,117,109]
 |.sh .in_ _=>[105,110]
 |.sh .out _=>[111,117,116]
 |.sh .first _=>[102,105,114,115,116]
 |.sh .rest _=>[114,101,115,116]
 |.ded=>[100,101,100,101,110,116]
 |.flu=>[102,108,117,115,104]
 |.tg true _=>[116,97,103]
 |.tg false _=>[114,97,119]
theorem tc_w:∀l:Lab,l.w=S (tc l)
 |.fixed _=>(by decide:Str.ofString "fixed" = S [102,105,120,101,100])
 |.hole _=>(by decide:Str.ofString "hole" = S [104,111,108,101])
 |.each _=>(by decide:Str.ofString "each" = S [101,97,99,104])
 |.sum=>(by decide:Str.ofString "sum" = S [115,117,109])
 |.sh .in_ _=>(by decide:Str.ofString "in" = S [105,110])
 |.sh .out _=>(by decide:Str.ofString "out" = S [111,117,116])
 |.sh .first _=>(by decide:Str.ofString "first" = S [102,105,114,115,116])
 |.sh .rest _=>(by decide:Str.ofString "rest" = S [114,101,115,116])
 |.ded=>(by decide:Str.ofString "dedent" = S [100,101,100,101,110,116])
 |.flu=>(by decide:Str.ofString "flush" = S [102,108,117,115,104])
 |.tg true _=>(by decide:Str.ofString "tag" = S [116,97,103])
 |.tg false _=>(by decide:Str.ofString "raw" = S [114,97,119])
/-- a number up to 20 as text -/
def decL (n:Nat):List Nat:=if n<10 then [48+n] else [48+n / 10,48+n % 10]
def hdL:Lab→List Nat
 |.each c=>[c,44,32]
 |.sh _ n=>decL n++[44,32]
 |.tg _ t=>t++[44,32]
 |_=>[]
def ltx:Lab→List (List Nat)→List Nat
 |.fixed ls,_=>34::(ybb [124] ls++[34])
 |.hole c,_=>[63,c]
 |l,ts=>tc l++[40]++(hdL l++ybb [44,32] ts)++[41]
mutual
def txt:Pg→List Nat
 |.node l ms=>ltx l (txts ms)
def txts:List Pg→List (List Nat)
 |[]=>[]
 |p::ps=>txt p::txts ps
end
/-- right in its place -/
def lok:Lab→List Pg→Prop
 |.fixed ls,ms=>ms=[]∧ls≠[]∧ls.length≤6∧∀x∈ls,(∃r,RowIn 40 20 r∧zm r=x)∧34 ∉ x∧124 ∉ x
 |.hole c,ms=>ms=[]∧z7d c=true
 |.each c,ms=>z7d c=true∧∃q,ms=[q]∧nms q=[c]∧rowN q = .non
 |.sum,ms=>2≤ms.length∧∀q∈ms,isSum q.lab=false
 |.sh _ n,ms=>n≤20∧∃q,ms=[q]
 |.ded,ms=>∃q,ms=[q]
 |.flu,ms=>∃q,ms=[q]
 |.tg _ t,ms=>isTag t=true∧∃q,ms=[q]
def Good (p:Pg):Prop:=∀q∈parts p,lok q.lab q.ms
theorem Good.here {p:Pg} (h:Good p):lok p.lab p.ms:=h p (by rw[z8h];exact yb)
theorem zly {p q:Pg} (h:q∈p.ms):(parts q).Sublist (parts p):=by
 rw[z8h p]
 refine List.Sublist.cons _ ?_
 generalize p.ms=ms at h
 induction ms with
 |nil=>cases h
 |cons a l ih=>
  rw[yvb]
  rcases yo.mp h with rfl |h
  ·exact List.sublist_append_left _ _
  ·exact (ih h).trans (List.sublist_append_right _ _)
theorem Good.sub {p q:Pg} (h:Good p) (hq:q∈p.ms):Good q:=fun x hx=>h x ((zly hq).subset hx)
theorem POk.sub {p q:Pg} (h:POk p) (hq:q∈p.ms):POk q:=by
 have hs:=zly hq
 refine⟨?_,?_,?_⟩
 ·have:=z0r hq
  have:=h.sz
  omega
 ·exact (hs.filterMap _).nodup h.nd
 ·have h1:=h.wt
  have h2:weight q≤weight p:=(hs.filter _).length_le
  omega
theorem zmy (l:Lab) (q:Pg):parts (.node l [q]) = .node l [q]::parts q:=by
 rw[z8h]
 show _::[q].flatMap parts=_
 rw[yvb,List.flatMap_nil,ygb]
theorem zdeb (l:Lab) (q:Pg):size (.node l [q])=1+size q:=by
 conv=>lhs;unfold size
 unfold sizes sizes
 rfl
theorem zu6 {l:Lab} (h:hol l=none) (q:Pg):nms (.node l [q])=nms q:=by
 unfold nms
 rw[zmy,ydb (f:=fun q:Pg=>hol q.lab) (a:=.node l [q]) h]
theorem z50 {l:Lab} (h:wei l=false) (q:Pg):weight (.node l [q])=weight q:=by
 unfold weight
 rw[zmy,ymb (by show ¬wei l=true;rw[h];exact y4)]
theorem zen (l:Lab):parts (.node l [])=[.node l []]:=by rw[z8h];rfl
theorem size_leaf (l:Lab):size (.node l [])=1:=by
 conv=>lhs;unfold size
 unfold sizes
 rfl
theorem zvx (c:Nat):nms (.node (.hole c) [])=[c]:=by unfold nms;rw[zen];rfl
theorem z3bb (ls:List (List Nat)):nms (.node (.fixed ls) [])=[]:=by unfold nms;rw[zen];rfl
theorem zyr (c:Nat):weight (.node (.hole c) [])=1:=by unfold weight;rw[zen];rfl
theorem z39 (ls:List (List Nat)):weight (.node (.fixed ls) [])=0:=by unfold weight;rw[zen];rfl
theorem zdn (ms:List Pg):parts (.node .sum ms) = .node .sum ms::ms.flatMap parts:=z8h _
theorem zt6 (ms:List Pg):nms (.node .sum ms)=ms.flatMap nms:=by
 unfold nms
 rw[zdn,ydb (f:=fun q:Pg=>hol q.lab) (a:=.node .sum ms) rfl,List.filterMap_flatMap]
theorem z40 (ms:List Pg):weight (.node .sum ms)=(ms.map weight).sum:=by
 unfold weight
 rw[zdn,ymb (by show ¬wei .sum=true;decide),List.filter_flatMap,List.length_flatMap]
theorem zqn (ms:List Pg):size (.node .sum ms)=1+sizes ms:=by conv=>lhs;unfold size
theorem zdf (p:Pg) (ms:List Pg):sizes (p::ms)=size p+sizes ms:=by conv=>lhs;unfold sizes
theorem z5h:sizes []=0:=by unfold sizes;rfl
theorem z9m:∀(a b:List Pg),sizes (a++b)=sizes a+sizes b
 |[],b=>by rw[z5h];simp
 |x::a,b=>by
  rw[List.cons_append,zdf,zdf,z9m a b]
  omega
theorem za1 {p:Pg} (h:isSum p.lab=false):sms p=[p]:=by
 unfold sms
 rw[h,if_neg y4]
theorem zj6 (ms:List Pg):sms (.node .sum ms)=ms:=if_pos rfl
/-- the eaches -/
def rws (p:Pg):List D:=((parts p).filter fun q=>zst q.lab).map fun q=>nmD q.lab
theorem zzhb {l:Lab} (h:zst l=false) (q:Pg):rws (.node l [q])=rws q:=by
 unfold rws
 rw[zmy,ymb (by show ¬zst l=true;rw[h];exact y4)]
theorem zl8 {l:Lab} (h:zst l=false):rws (.node l [])=[]:=by
 unfold rws
 rw[zen,ymb (by show ¬zst l=true;rw[h];exact y4)]
 rfl
end LK
namespace LK
open PySem PySem.Spec L2 DL TM SX
def iH (x:Int):HW:=.d (.int x)
structure HSt (i g s n:Nat) (hs:List HC):Prop where
 st:∃c d:Int,hs[i]?=some (.lst [.h g,.h s,iH c,iH d])∧0≤c∧c+n≤2 ^ 62∧0≤d
 gr:∃G:List Int,hs[g]?=some (.lst (G.map iH))∧(∀x∈G,0≤x)∧G.length≤1000
 sm:∃T:List Int,hs[s]?=some (.lst (T.map iH))∧(∀x∈T,0≤x)∧T.length≤1000
 ig:i≠g
 is_:i≠s
 gs:g≠s
theorem HSt.mono {i g s n k:Nat} {hs:List HC} (h:HSt i g s n hs) (hk:k≤n):HSt i g s k hs:=⟨by obtain⟨c,d,a,b,e,f⟩:=h.st;exact⟨c,d,a,b,by omega,f⟩,h.gr,h.sm,h.ig,h.is_,h.gs⟩
theorem HSt.keep {i g s n:Nat} {hs hs':List HC} {X:List Nat} (h:HSt i g s n hs) (k:Kp X hs hs') (hi:i ∉ X) (hg:g ∉ X) (hs_:s ∉ X):HSt i g s n hs':=by
 obtain⟨c,d,a,b⟩:=h.st
 obtain⟨G,a2,b2⟩:=h.gr
 obtain⟨T,a3,b3⟩:=h.sm
 exact⟨⟨c,d,k.at_ a hi,b⟩,⟨G,k.at_ a2 hg,b2⟩,⟨T,k.at_ a3 hs_,b3⟩,h.ig,h.is_,h.gs⟩
theorem zqlb (xs:List Int):(xs.map iH).map HW.toD=xs.map D.int:=by rw[y6];rfl
theorem zro {i g s n:Nat} {hs:List HC} {q:Int} (r:Mem) (h:HSt i g s (n+1) hs) (h1:1≤q) (h2:q<1073741824) :
  ∃(v:Int) (hs':List HC),z3b [.h i,.d (.int q)] (.hp hs::r) = .ok (.d (.int v)) (.hp hs'::r)∧(0≤v∧v<q)∧HSt i g s n hs'∧Kp [i,g] hs hs':=by
 obtain⟨⟨c,d,hi,c0,c1,d0⟩,⟨G,hg,G0,G1⟩,⟨T,ht,T0,T1⟩,ig,is_,gs⟩:=h
 have hq:0<q:=by omega
 have li:=(yc.mp hi).1
 have lg:=(yc.mp hg).1
 -- the count
 obtain⟨hs1,e1⟩:∃hs1,hs1=hs.set i (.lst [.h g,.h s,iH (c+1),iH d]):=⟨_,rfl⟩
 have hi1:hs1[i]?=some (.lst [.h g,.h s,iH (c+1),iH d]):=by rw[e1,yu li]
 have hg1:hs1[g]?=some (.lst (G.map iH)):=by rw[e1,yq ig,hg]
 have ht1:hs1[s]?=some (.lst (T.map iH)):=by rw[e1,yq is_,ht]
 have k1:Kp [i,g] hs hs1:=by rw[e1];exact Kp.set (by simp) _
 have x0:ixHW [("Block",zf)] (.h i) (.d (.int 0)) (.hp hs::r) = .ok (.h g) (.hp hs::r):=z1y (k:=0) hi rfl
 have x1:ixHW [("Block",zf)] (.h i) (.d (.int 1)) (.hp hs::r) = .ok (.h s) (.hp hs::r):=z1y (k:=1) hi rfl
 have a1:getLW (.h i) (.d (.int 2)) (.hp hs::r) = .ok (.d (.int c)) (.hp hs::r):=zajb (k:=2) hi rfl
 have a2:setLW (.d (.int (c+1))) (.h i) (.d (.int 2)) (.hp hs::r)=some (.hp hs1::r):=by
  rw[e1]
  exact zk6 (k:=2) hi (by simp) rfl
 clear e1 hi hg ht
 -- the great ones
 have key:∀(hs2:List HC) (G2:List Int),hs2[i]?=some (.lst [.h g,.h s,iH (c+1),iH d])→hs2[g]?=some (.lst (G2.map iH))→hs2[s]?=some (.lst (T.map iH))→(∀x∈G2,0≤x)→G2.length≤1000→Kp [i,g] hs hs2 →
   ∃(v:Int) (hs':List HC),((sSeq (sIf (bT (eVar 2)) (sSeq (sAsg (eOp modD (eB intD (aCons (eIx [("Block",zf)] (eVar 2) (eC (.int 0))) aNil)) (eVar 1)) (gNm 4))
  (sSeq (sSetL (eOp fdivD (eIx [("Block",zf)] (eVar 2) (eC (.int 0))) (eVar 1)) (eVar 2) (eC (.int 0)))
  (sRet (eVar 4)))) sNext)
  (sSeq (sAsg (eIf (bT (eVar 3)) (eIx [("Block",zf)] (eVar 3) (eOp modD (eB intD (aCons (eIxH [("Block",zf)] (eVar 0) (eC (.int 2))) aNil)) (eLen [("Block",zn)] (aCons (eVar 3) aNil)))) (eC (.int 5))) (gNm 5))
  (sSeq (sSetL (eOp modD (eB intD (aCons (eOp addD (eOp addD (eOp addD (eOp mulD (eIxH [("Block",zf)] (eVar 0) (eC (.int 3))) (eC (.int 48271))) (eOp mulD (eVar 5) (eC (.int 40692)))) (eOp mulD (eIxH [("Block",zf)] (eVar 0) (eC (.int 2))) (eC (.int 69621)))) (eC (.int 17))) aNil)) (eC (.int 2305843009213693951))) (eVar 0) (eC (.int 3)))
  (sSeq (sAsg (eOp modD (eB intD (aCons (eOp addD (eOp mulD (eIxH [("Block",zf)] (eVar 0) (eC (.int 3))) (eIxH [("Block",zf)] (eVar 0) (eC (.int 3)))) (eOp mulD (eC (.int 1000003)) (eIxH [("Block",zf)] (eVar 0) (eC (.int 2))))) aNil)) (eC (.int 2305843009213693921))) (gNm 6))
  (sRet (eOp modD (eB intD (aCons (eOp fdivD (eVar 6) (eC (.int 4096))) aNil)) (eVar 1))))))) [some (.h i),some (.d (.int q)),some (.h g),some (.h s),none,none,none] (.hp hs2::r)) = .rt (.d (.int v)) (.hp hs'::r)∧(0≤v∧v<q)∧HSt i g s n hs'∧Kp [i,g] hs hs':=by
  intro hs2 G2 hi2 hg2 ht2 G20 G21 kp
  have li2:=(yc.mp hi2).1
  have lg2:=(yc.mp hg2).1
  have tg:=tru_h (r:=r) hg2
  have tt:=tru_h (r:=r) ht2
  cases G2 with
  |cons x G3=>
   have ix:=zqcb (r:=r) [("Block",zf)] (k:=0) (d:=.int x) hg2 rfl
   have ix:ixW [("Block",zf)] (.h g) (.d (.int 0)) (.hp hs2::r) = .ok (.d (.int x)) (.hp hs2::r):=ix
   have em:modD (.int x) (.int q)=some (.int (x % q)):=mod_int hq
   have ed:fdivD (.int x) (.int q)=some (.int (x / q)):=zg9 hq h2
   have st:setLW (.d (.int (x / q))) (.h g) (.d (.int 0)) (.hp hs2::r)=some (.hp (hs2.set g (.lst ((x / q::G3).map iH)))::r):=zk6 (k:=0) hg2 (by simp) rfl
   refine⟨x % q,hs2.set g (.lst ((x / q::G3).map iH)),?_,⟨yjd _ (by omega),ykd _ hq⟩,⟨⟨c+1,d,by rw[yq (Ne.symm ig)];exact hi2,by omega,by omega,d0⟩,⟨x / q::G3,by rw[yu lg2],fun y hy=>?_,G21⟩,⟨T,by rw[yq gs];exact ht2,T0,T1⟩,ig,is_,gs⟩,kp.trans (Kp.set (by simp) _)⟩
   ·generalize hs2.set g (.lst ((x / q::G3).map iH))=hs3 at *
    have tg:tru (.h g) (.hp hs2::r) = .ok true (.hp hs2::r):=tg
    simp[-zct,-z8gb,-rd_h,tg,z8gb,ix,em,ed,st]
   ·rcases yo.mp hy with rfl |hy
    ·exact Int.ediv_nonneg (G20 x yb) (by omega)
    ·exact G20 y (yd _ hy)
  |nil=>
   have tg:tru (.h g) (.hp hs2::r) = .ok false (.hp hs2::r):=tg
   have y2:ixHW [("Block",zf)] (.h i) (.d (.int 2)) (.hp hs2::r) = .ok (.d (.int (c+1))) (.hp hs2::r):=z1y (k:=2) hi2 rfl
   have y3:ixHW [("Block",zf)] (.h i) (.d (.int 3)) (.hp hs2::r) = .ok (.d (.int d)) (.hp hs2::r):=z1y (k:=3) hi2 rfl
   have ln:=zicb (r:=r) [("Block",zn)] ht2
   obtain⟨o,ho0,eo⟩:∃o:Int,0≤o∧eIf (bT (eVar 3)) (eIx [("Block",zf)] (eVar 3) (eOp modD (eB intD (aCons (eIxH [("Block",zf)] (eVar 0) (eC (.int 2))) aNil)) (eLen [("Block",zn)] (aCons (eVar 3) aNil)))) (eC (.int 5)) [some (.h i),some (.d (.int q)),some (.h g),some (.h s),none,none,none] (.hp hs2::r) = .ok (.d (.int o)) (.hp hs2::r):=by
    cases T with
    |nil=>
     have tt:tru (.h s) (.hp hs2::r) = .ok false (.hp hs2::r):=tt
     exact⟨5,by decide,by simp[-zct,tt]⟩
    |cons y T2=>
     have tt:tru (.h s) (.hp hs2::r) = .ok true (.hp hs2::r):=tt
     obtain⟨L,hL⟩:∃L:Nat,L=(y::T2).length:=⟨_,rfl⟩
     have hl0:0<L:=by rw[hL];simp
     have em:modD (.int (c+1)) (.int (L:Int))=some (.int ((c+1) % (L:Int))):=mod_int (by omega)
     obtain⟨k,hk⟩:∃k:Nat,(k:Int)=(c+1) % (L:Int):=⟨((c+1) % (L:Int)).toNat,by have:=yjd (c+1) (b:=(L:Int)) (by omega);omega⟩
     have hkl:k<(y::T2).length:=by have:=ykd (c+1) (b:=(L:Int)) (by omega);omega
     have ix:=zqcb (r:=r) [("Block",zf)] (k:=k) (d:=.int (y::T2)[k]) ht2 (by rw[zqlb,yjb,yt hkl];rfl)
     refine⟨(y::T2)[k],T0 _ (List.getElem_mem hkl),?_⟩
     generalize (y::T2)[k]=o at *
     rw[ye,←hL] at ln
     rw[hk] at ix
     simp[-zct,-rd_h,tt,y2,ln,em,ix]
   obtain⟨d1,e1⟩:∃d1:Int,d1=(d*48271+o*40692+(c+1)*69621+17) % 2305843009213693951:=⟨_,rfl⟩
   have d10:0≤d1:=by rw[e1];exact yjd _ (by decide)
   have d11:d1<2305843009213693951:=by rw[e1];exact ykd _ (by decide)
   obtain⟨hs3,eh3⟩:∃hs3,hs3=hs2.set i (.lst [.h g,.h s,iH (c+1),iH d1]):=⟨_,rfl⟩
   have hi3:hs3[i]?=some (.lst [.h g,.h s,iH (c+1),iH d1]):=by rw[eh3,yu li2]
   have st:setLW (.d (.int d1)) (.h i) (.d (.int 3)) (.hp hs2::r)=some (.hp hs3::r):=by
    rw[eh3]
    exact zk6 (k:=3) hi2 (by simp) rfl
   have z2:ixHW [("Block",zf)] (.h i) (.d (.int 2)) (.hp hs3::r) = .ok (.d (.int (c+1))) (.hp hs3::r):=z1y (k:=2) hi3 rfl
   have z3:ixHW [("Block",zf)] (.h i) (.d (.int 3)) (.hp hs3::r) = .ok (.d (.int d1)) (.hp hs3::r):=z1y (k:=3) hi3 rfl
   have m1:mulD (.int d) (.int 48271)=some (.int (d*48271)):=zg2 (by decide) (by decide)
   have m2:mulD (.int o) (.int 40692)=some (.int (o*40692)):=zg2 (by decide) (by decide)
   have m3:mulD (.int (c+1)) (.int 69621)=some (.int ((c+1)*69621)):=zg2 (by decide) (by decide)
   have m4:mulD (.int d1) (.int d1)=some (.int (d1*d1)):=zu8 (by omega) (by omega)
   have m5:mulD (.int 1000003) (.int (c+1))=some (.int (1000003*(c+1))):=zu8 (by decide) (by decide)
   have o1:modD (.int (d*48271+o*40692+(c+1)*69621+17)) (.int 2305843009213693951)=some (.int d1):=by rw[e1];exact mod_int (by decide)
   obtain⟨d2,e2⟩:∃d2:Int,d2=(d1*d1+1000003*(c+1)) % 2305843009213693921:=⟨_,rfl⟩
   have o2:modD (.int (d1*d1+1000003*(c+1))) (.int 2305843009213693921)=some (.int d2):=by rw[e2];exact mod_int (by decide)
   have o3:fdivD (.int d2) (.int 4096)=some (.int (d2 / 4096)):=zg9 (by decide) (by decide)
   have o4:modD (.int (d2 / 4096)) (.int q)=some (.int (d2 / 4096 % q)):=mod_int hq
   refine⟨d2 / 4096 % q,hs3,?_,⟨yjd _ (by omega),ykd _ hq⟩,⟨⟨c+1,d1,hi3,by omega,by omega,d10⟩,⟨[],by rw[eh3,yq ig];exact hg2,(fun _ z=>nomatch z),y7b _⟩,⟨T,by rw[eh3,yq is_];exact ht2,T0,T1⟩,ig,is_,gs⟩,by rw[eh3];exact kp.trans (Kp.set (by simp) _)⟩
   clear eh3 e1 e2
   simp[-zct,-rd_h,-x_eIf,tg,eo,y2,y3,st,z2,z3,m1,m2,m3,m4,m5,o1,o2,o3,o4]
 have t1:=tru_h (r:=r) hg1
 cases G with
 |nil=>
  have t1:tru (.h g) (.hp hs1::r) = .ok false (.hp hs1::r):=t1
  obtain⟨v,hs',e,hv,hst,kp⟩:=key hs1 [] hi1 hg1 ht1 (fun _ z=>nomatch z) (y7b _) k1
  refine⟨v,hs',?_,hv,hst,kp⟩
  show fin _ (zxg _ _)=_
  unfold zxg
  rw[zxi]
  have p0:(sPar 2 3 (aCons (eIxH [("Block",zf)] (eVar 0) (eC (.int 0))) (aCons (eIxH [("Block",zf)] (eVar 0) (eC (.int 1))) aNil))) (z1k 7 [.h i,.d (.int q)]) (.hp hs::r) = .nx [some (.h i),some (.d (.int q)),some (.h g),some (.h s),none,none,none] (.hp hs::r):=by simp[x0,x1]
  rw[p0,zb1,zxi]
  have p1:(zc1 (eVar 0) (eC (.int 2)) (eC (.int 1))) [some (.h i),some (.d (.int q)),some (.h g),some (.h s),none,none,none] (.hp hs::r) = .nx [some (.h i),some (.d (.int q)),some (.h g),some (.h s),none,none,none] (.hp hs1::r):=by
   unfold zc1
   simp[a1,a2]
  rw[p1,zb1,zxi]
  have p2:(sIf ((bAnd (bT (eVar 2)) (bT (eOp eqD (eIx [("Block",zf)] (eVar 2) (eC (.int 0))) (eC (.int 0)))))) (sDrop (zt5 (eVar 2) (aCons (eC (.int 0)) aNil))) sNext) [some (.h i),some (.d (.int q)),some (.h g),some (.h s),none,none,none] (.hp hs1::r) = .nx [some (.h i),some (.d (.int q)),some (.h g),some (.h s),none,none,none] (.hp hs1::r):=by
   simp[-zct,t1]
  rw[p2,zb1,e]
  simp
 |cons x G3=>
  have t1:tru (.h g) (.hp hs1::r) = .ok true (.hp hs1::r):=t1
  have ix:ixW [("Block",zf)] (.h g) (.d (.int 0)) (.hp hs1::r) = .ok (.d (.int x)) (.hp hs1::r):=zqcb (r:=r) [("Block",zf)] (k:=0) (d:=.int x) hg1 rfl
  have lg1:=(yc.mp hg1).1
  obtain⟨hs2,G2,p2,hi2,hg2,ht2,G20,G21,k2⟩:∃(hs2:List HC) (G2:List Int),(sIf ((bAnd (bT (eVar 2)) (bT (eOp eqD (eIx [("Block",zf)] (eVar 2) (eC (.int 0))) (eC (.int 0)))))) (sDrop (zt5 (eVar 2) (aCons (eC (.int 0)) aNil))) sNext) [some (.h i),some (.d (.int q)),some (.h g),some (.h s),none,none,none] (.hp hs1::r) = .nx [some (.h i),some (.d (.int q)),some (.h g),some (.h s),none,none,none] (.hp hs2::r) ∧
    hs2[i]?=some (.lst [.h g,.h s,iH (c+1),iH d])∧hs2[g]?=some (.lst (G2.map iH))∧hs2[s]?=some (.lst (T.map iH))∧(∀x∈G2,0≤x)∧G2.length≤1000∧Kp [i,g] hs hs2:=by
   by_cases hx:x=0
   ·have po:zh4 (.h g) [.d (.int 0)] (.hp hs1::r) = .ok (.d (.int x)) (.hp (hs1.set g (.lst (G3.map iH)))::r):=z7hb (i:=0) (w:=iH x) hg1 rfl (by rw[ye];omega)
    have ty:=z1gb (r:=r) hg1
    refine⟨hs1.set g (.lst (G3.map iH)),G3,?_,by rw[yq (Ne.symm ig)];exact hi1,yu lg1,by rw[yq gs];exact ht1,fun y hy=>G0 y (yd _ hy),by simp only[yw] at G1;omega,k1.trans (Kp.set (by simp) _)⟩
    generalize hs1.set g (.lst (G3.map iH))=hs2 at *
    subst hx
    simp[-zct,-rd_h,t1,ix,znp,po,ty]
   ·exact⟨hs1,x::G3,by simp[-zct,-rd_h,t1,ix,znp,hx],hi1,hg1,ht1,G0,G1,k1⟩
  obtain⟨v,hs',e,hv,hst,kp⟩:=key hs2 G2 hi2 hg2 ht2 G20 G21 k2
  refine⟨v,hs',?_,hv,hst,kp⟩
  show fin _ (zxg _ _)=_
  unfold zxg
  rw[zxi]
  have p0:(sPar 2 3 (aCons (eIxH [("Block",zf)] (eVar 0) (eC (.int 0))) (aCons (eIxH [("Block",zf)] (eVar 0) (eC (.int 1))) aNil))) (z1k 7 [.h i,.d (.int q)]) (.hp hs::r) = .nx [some (.h i),some (.d (.int q)),some (.h g),some (.h s),none,none,none] (.hp hs::r):=by simp[x0,x1]
  rw[p0,zb1,zxi]
  have p1:(zc1 (eVar 0) (eC (.int 2)) (eC (.int 1))) [some (.h i),some (.d (.int q)),some (.h g),some (.h s),none,none,none] (.hp hs::r) = .nx [some (.h i),some (.d (.int q)),some (.h g),some (.h s),none,none,none] (.hp hs1::r):=by
   unfold zc1
   simp[a1,a2]
  rw[p1,zb1,zxi,p2,zb1,e]
  simp
theorem pow18:powD (.int 10) (.int 18)=some (.int 1000000000000000000):=by
 show chk _ _=_
 rw[zdc ⟨by decide,by decide,by decide⟩]
 rfl
def absI (x:Int):Int:=if x<0 then -x else x
theorem abs_I (x:Int):absD [.int x]=some (.int (absI x)):=by rw[zz3];rfl
theorem zceb {ns:List Int} (hn:ns.length≤63):∃hs,zvj [.d (.fz (ns.map D.int))] [.hp []] = .ok (.h 2) [.hp hs]∧HSt 2 1 0 1000000000000000000 hs∧hs.length=3:=by
 obtain⟨T,hT⟩:∃T,T=(ns.filter fun x=>decide (absI x<1000000000000000000)).map fun x=>x % 2147483629+1:=⟨_,rfl⟩
 obtain⟨G,hG⟩:∃G,G=(ns.filter fun x=>decide (1000000000000000000≤absI x)).map absI:=⟨_,rfl⟩
 have hl:ns.length≤sizeLine:=by unfold sizeLine;omega
 have x0:W:=.d (.fz (ns.map D.int))
 have c1:=zpk (m:=[.hp []]) (g:=gNm 3) (e:=zxl) (wd:=[some (.d (.fz (ns.map D.int))),none,none,none]) (enc:=D.int) (dec:=D.int) ns (fun x _=>⟨_,rfl,by simp[zxl]⟩) hl
 have c2:=z7n (m:=[.hp []]) (g:=gNm 3) (t:=zui) (e:=zwi) (wd:=[some (.d (.fz (ns.map D.int))),some (.d (.lst (ns.map D.int))),none,none]) (enc:=D.int) (dec:=fun x=>D.int (x % 2147483629+1)) (fun x=>decide (absI x<1000000000000000000)) ns (fun x _=>⟨_,rfl,by simp[-zz3,zui,pow18,abs_I],fun _=>by
  have e:modD (.int x) (.int 2147483629)=some (.int (x % 2147483629)):=mod_int (by decide)
  simp[zwi,e]⟩) hl
 have e2:((ns.filter fun x=>decide (absI x<1000000000000000000)).map fun x=>D.int (x % 2147483629+1))=T.map D.int:=by rw[hT,y6];rfl
 rw[e2] at c2
 have c2:=zv3 _ _ _ _ _ c2
 have c3:=z7n (m:=[.hp [.lst ((T.map D.int).map HW.d)]]) (g:=gNm 3) (t:=zti) (e:=zvi) (wd:=[some (.d (.fz (ns.map D.int))),some (.d (.lst (ns.map D.int))),some (.h 0),none]) (enc:=D.int) (dec:=fun x=>D.int (absI x)) (fun x=>decide (1000000000000000000≤absI x)) ns (fun x _=>⟨_,rfl,by simp[-zz3,zti,pow18,abs_I],fun _=>by simp[-zz3,zvi,abs_I]⟩) hl
 have e3:((ns.filter fun x=>decide (1000000000000000000≤absI x)).map fun x=>D.int (absI x))=G.map D.int:=by rw[hG,y6];rfl
 rw[e3] at c3
 have c3:=zv3 _ _ _ _ _ c3
 have hc:cutD (ns.map D.int) none (some 63)=ns.map D.int:=by
  rw[zbmb _ (by decide),ytb (by rw[ye];exact hn)]
 have t1:(T.map D.int).map HW.d=T.map iH:=by rw[y6];rfl
 have g1:(G.map D.int).map HW.d=G.map iH:=by rw[y6];rfl
 have ha:∀x:Int,0≤absI x:=fun x=>by unfold absI;split <;> omega
 have tl:T.length≤1000:=by
  rw[hT,ye]
  have:=List.length_filter_le (fun x=>decide (absI x<1000000000000000000)) ns
  omega
 have gl:G.length≤1000:=by
  rw[hG,ye]
  have:=List.length_filter_le (fun x=>decide (1000000000000000000≤absI x)) ns
  omega
 refine⟨[.lst (T.map iH),.lst (G.map iH),.lst [.h 1,.h 0,iH 0,iH (5+(ns.length:Int))]],?_,⟨⟨0,5+(ns.length:Int),rfl,by omega,by omega,by omega⟩,⟨G,rfl,fun x hx=>?_,gl⟩,⟨T,rfl,fun x hx=>?_,tl⟩,by decide,by decide,by decide⟩,rfl⟩
 ·rw[t1] at c2 c3
  rw[g1] at c3
  have hl':((ns.map D.int).length:Int)=(ns.length:Int):=by rw[ye]
  generalize T.map iH=TT at *
  generalize G.map iH=GG at *
  generalize hN:ns.map D.int=N at *
  have c2:compH (gNm 3) zui zwi [some (.d (.fz N)),some (.d (.lst N)),none,none] N [] [.hp []] = .ok TT [.hp []]:=c2
  have c3:compH (gNm 3) zti zvi [some (.d (.fz N)),some (.d (.lst N)),some (.h 0),none] N [] [.hp [.lst TT]] = .ok GG [.hp [.lst TT]]:=c3
  simp[zvj,z3p,zpm,slD,hc,c1,c2,c3,hl',eLstH,zjw,hwAll,W.hw]
  exact⟨rfl,rfl⟩
 ·rw[hG] at hx
  obtain⟨y,_,rfl⟩:=yfb.mp hx
  exact ha y
 ·rw[hT] at hx
  obtain⟨y,_,rfl⟩:=yfb.mp hx
  have:=yjd y (b:=2147483629) (by decide)
  omega
theorem zt8 {i g s n:Nat} {hs:List HC} {ds:List D} (r:Mem) (h:HSt i g s (n+1) hs) (ha:ds≠[]) (hl:ds.length≤1000) :
  ∃(d:D) (hs':List HC),zwl [.h i,.d (.lst ds)] (.hp hs::r) = .ok (.d d) (.hp hs'::r)∧d∈ds∧HSt i g s n hs'∧Kp [i,g] hs hs':=by
 have hp:=y9c.mpr ha
 obtain⟨v,hs',e,⟨v0,v1⟩,h',k⟩:=zro (q:=(ds.length:Int)) r h (by omega) (by omega)
 have hv:v.toNat<ds.length:=by omega
 have hx:ds[v.toNat]?=some ds[v.toNat]:=yt hv
 refine⟨ds[v.toNat],hs',?_,List.getElem_mem hv,h',k⟩
 have ix:ixD (.lst ds) (.int v)=some ds[v.toNat]:=by
  show atI ds v=_
  obtain⟨j,rfl⟩:∃j:Nat,v=(j:Int):=⟨v.toNat,by omega⟩
  rw[DL.atI_nat]
  exact hx
 generalize ds[v.toNat]=c at *
 simp[zwl,z7z,zss,zx6,e,ix]
end LK
namespace LK
open PySem PySem.Spec L2 DL TM SX NT PG
def lettL:List Nat:=(List.range 26).map (· + 97)
theorem z2lb:Str.ofString "abcdefghijklmnopqrstuvwxyz" = S lettL:=by decide +kernel
theorem z2ib:∀c∈lettL,z7d c=true:=by decide
theorem z48:∀ys:List (List Nat),ybb [] ys=ys.flatten
 |[]=>rfl
 |[y]=>by show y=_;simp
 |y::z::ys=>by
  show y++([]++ybb [] (z::ys))=_
  rw[z48 (z::ys)]
  simp
theorem z6gb:∀cs:List Nat,(cs.map fun c=>[c]).flatten=cs
 |[]=>rfl
 |c::cs=>by rw[yr,y1c,z6gb cs];rfl
theorem zbgb (ys:List (List Nat)):zon (lnD ys)=some (ys.map S):=by
 rw[zuy]
 induction ys with
 |nil=>rfl
 |cons y ys ih=>rw[yr,yr,zon,ih];rfl
theorem sum_1 (cs:List Nat):(((cs.map fun c=>[c]).map S).map (·.length)).sum=cs.length:=by
 induction cs with
 |nil=>rfl
 |cons c cs ih=>
  simp only[yr,yfc,yw] at ih ⊢
  rw[ih,S_len]
  simp only[yw,yzb]
  omega
theorem znlb {cs:List Nat} (hn:cs.length≤1000):joinD (.str (S [])) [.lst (cs.map chS)]=some (.str (S cs)):=by
 have e0:cs.map chS=lnD (cs.map fun c=>[c]):=by unfold lnD;rw[y6];rfl
 have e1:=zbgb (cs.map fun c=>[c])
 have e2:seqD (.lst (lnD (cs.map fun c=>[c])))=some (lnD (cs.map fun c=>[c])):=rfl
 have e3:=sum_1 cs
 rw[e0]
 unfold joinD
 simp only[e2,e1]
 rw[zdc (by rw[S_len,ye,ye,e3];simp only[yzb];omega),join_S,z48,z6gb]
/-- a comprehension that asks the state of family B -/
theorem zdhb {α : Type} {g:DG} {e:DE} {wd:DL.Env} {i gg s:Nat} {enc : α → D} (P : α → Prop) (r:Mem) (hg:∀d:D,∃dl1,g (.d d) wd=some dl1∧∀n hs,HSt i gg s (n+1) hs→∃y hs',e dl1 (.hp hs::r) = .ok (.d (enc y)) (.hp hs'::r)∧P y∧HSt i gg s n hs'∧Kp [i,gg] hs hs') :
  ∀(ds:List D) (acc:List α) (n:Nat) (hs:List HC),HSt i gg s (n+ds.length) hs→acc.length+ds.length≤sizeLine→∃ys hs',compD g bYes e wd ds (acc.map enc) (.hp hs::r) = .ok ((acc++ys).map enc) (.hp hs'::r)∧ys.length=ds.length∧(∀y∈ys,P y)∧HSt i gg s n hs'∧Kp [i,gg] hs hs'
 |[],acc,n,hs,h,_=>⟨[],hs,by simp[compD],rfl,(fun _ z=>nomatch z),h,Kp.refl _ _⟩
 |d::ds,acc,n,hs,h,hz=>by
  obtain⟨dl1,e1,st⟩:=hg d
  obtain⟨y,hs1,e2,p1,h1,k1⟩:=st (n+ds.length) hs h
  have hl:acc.length+(ds.length+1)≤sizeLine:=hz
  obtain⟨ys,hs2,e3,l3,p3,h3,k3⟩:=zdhb P r hg ds (acc++[y]) n hs1 h1 (by rw[yg];show acc.length+1+ds.length≤_;omega)
  refine⟨y::ys,hs2,?_,by rw[yw,yw,l3],fun z hz=>?_,h3,k1.trans k3⟩
  ·unfold compD
   rw[e1]
   simp only[bYes]
   rw[e2]
   show (if (acc.map enc).length<sizeLine then compD g bYes e wd ds (acc.map enc++[enc y]) (.hp hs1::r) else .no)=_
   rw[if_pos (by rw[ye];omega)]
   have e4:acc.map enc++[enc y]=(acc++[y]).map enc:=by simp
   rw[e4,e3,y3b]
   rfl
  ·rcases yo.mp hz with z1 |z1
   ·rw[z1];exact p1
   ·exact p3 z z1
theorem zp4 {i g s n j:Nat} {hs:List HC} (r:Mem) (hj:j≤100) (h:HSt i g s (n+j) hs) :
  ∃(w:List Nat) (hs':List HC),z0f [.h i,.d (.int (j:Int))] (.hp hs::r) = .ok (.d (.str (S w))) (.hp hs'::r)∧(w.length=j∧∀c∈w,z7d c=true)∧HSt i g s n hs'∧Kp [i,g] hs hs':=by
 obtain⟨cs,hs1,ec,hl,hr,h1,k1⟩:=zdhb (i:=i) (gg:=g) (s:=s) (g:=gNm 2) (e:=z3g) (wd:=[some (.h i),some (.d (.int (j:Int))),none]) (enc:=chS) (fun c=>z7d c=true) r (fun d=>⟨_,rfl,fun n hs st=>by
  obtain⟨v,hs',e,⟨v0,v1⟩,h',k⟩:=zro (q:=26) (n:=n) r st (by decide) (by decide)
  have hv:v.toNat<lettL.length:=by show v.toNat<26;omega
  have hx:lettL[v.toNat]?=some lettL[v.toNat]:=yt hv
  exact⟨lettL[v.toNat],hs',by simp[z3g,z2lb,e,ix_str v0 hx (by decide),chS],z2ib _ (List.getElem_mem hv),h',k⟩⟩) (rngD 0 j) [] n hs (by rw[z4o];exact h) (by rw[z4o];unfold sizeLine;simp;omega)
 rw[z4o] at hl
 rw[ymc] at ec
 have er:=zn6 (j:=(j:Int)) (m:=.hp hs::r) (by omega) (by omega)
 rw[ysb] at er
 have ej:=znlb (cs:=cs) (by omega)
 refine⟨cs,hs1,?_,⟨hl,hr⟩,h1,k1⟩
 have ec:compD (gNm 2) bYes z3g [some (.h i),some (.d (.int (j:Int))),none] (rngD 0 j) [] (.hp hs::r)=_:=ec
 generalize cs.map chS=CS at *
 generalize (j:Int)=J at *
 simp[z0f,zvm,z2j,er,ec,e_em,ej]
/-- a word of a line: no blank at its ends, letters of the usual signs -/
structure Wb (w:List Nat):Prop where
 d:Wd w
 l:w.length≤12
def oddL:List (List Nat):=[[97,58,98],[58],[65,98,58,32,99],[97,98,99,100,101,102,103,104,105,58,32,106],[49,58,32,50],[45,32,120],[120,32,32,121],[111]]
def wdB (w:List Nat):Bool:=(match w with |[]=>false |c::_=>c != 32)&&((w.getLast?.getD 32) != 32)&&w.all fun c=>decide (32≤c)&&decide (c<127)
theorem z0ab {w:List Nat} (h:wdB w=true):Wd w:=by
 unfold wdB at h
 simp only[yab] at h
 obtain⟨⟨h1,h2⟩,h3⟩:=h
 cases w with
 |nil=>cases h1
 |cons c t=>
  refine⟨⟨c,t,rfl,by simpa using h1⟩,⟨(c::t).dropLast,(c::t).getLast (by simp),(List.dropLast_concat_getLast (by simp)).symm,?_⟩,fun x hx=>?_⟩
  ·rw[List.getLast?_eq_some_getLast (by simp)] at h2
   simpa using h2
  ·have:=yxb.mp h3 x hx
   simpa using this
theorem zfib:∀w∈oddL,wdB w=true∧w.length≤12:=by decide
theorem e_odd:([.str "a:b",.str ":",.str "Ab: c",.str "abcdefghi: j",.str "1: 2",.str "- x",.str "x  y",.str "o"]:List D)=oddL.map fun w=>D.str (S w):=by
 have e1:Str.ofString "a:b" = S [97,58,98]:=by decide
 have e2:Str.ofString ":" = S [58]:=by decide
 have e3:Str.ofString "Ab: c" = S [65,98,58,32,99]:=by decide
 have e4:Str.ofString "abcdefghi: j" = S [97,98,99,100,101,102,103,104,105,58,32,106]:=by decide
 have e5:Str.ofString "1: 2" = S [49,58,32,50]:=by decide
 have e6:Str.ofString "- x" = S [45,32,120]:=by decide
 have e7:Str.ofString "x  y" = S [120,32,32,121]:=by decide
 have e8:Str.ofString "o" = S [111]:=by decide
 rw[e1,e2,e3,e4,e5,e6,e7,e8]
 rfl
theorem zxgb {w:List Nat} (h0:w≠[]) (h:∀c∈w,z7d c=true):Wd w:=by
 have hc:∀c∈w,97≤c∧c≤122:=fun c hc=>by
  have:=h c hc
  unfold z7d at this
  simpa using this
 refine z0ab ?_
 unfold wdB
 cases w with
 |nil=>exact absurd rfl h0
 |cons a t=>
  have h1:=hc a yb
  have h2:=hc _ (List.getLast_mem (l:=a::t) (by simp))
  rw[List.getLast?_eq_some_getLast (by simp)]
  simp only[yab,bne_iff_ne,ne_eq,Option.getD_some,yxb,decide_eq_true_eq]
  exact⟨⟨by omega,by omega⟩,fun x hx=>by have:=hc x hx;omega⟩
theorem zegb {i g s n:Nat} {hs:List HC} (r:Mem) (h:HSt i g s (n+8) hs) :
  ∃(w:List Nat) (hs':List HC),zbj [.h i] (.hp hs::r) = .ok (.d (.str (S w))) (.hp hs'::r)∧Wb w∧HSt i g s n hs'∧Kp [i,g] hs hs':=by
 obtain⟨v,hs1,e1,⟨v0,v1⟩,h1,k1⟩:=zro (q:=4) (n:=n+7) r h (by decide) (by decide)
 by_cases hv:v=0
 ·obtain⟨d,hs2,e2,hd,h2,k2⟩:=zt8 (n:=n+6) (ds:=oddL.map fun w=>D.str (S w)) r h1 (by simp[oddL]) (by simp[oddL])
  obtain⟨w,hw,rfl⟩:=yfb.mp hd
  obtain⟨o1,o2⟩:=zfib w hw
  refine⟨w,hs2,?_,⟨z0ab o1,o2⟩,h2.mono (by omega),k1.trans k2⟩
  subst hv
  have eo:=e_odd
  have ol:(oddL.map fun w=>D.str (S w)).length≤sizeLine:=by decide
  generalize oddL.map (fun w=>D.str (S w))=OL at *
  generalize S w=W0 at *
  simp[zbj,zao,zok,eo,ol,e1,znp,e2]
 ·obtain⟨u,hs2,e2,⟨u0,u1⟩,h2,k2⟩:=zro (q:=5) (n:=n+6) r h1 (by decide) (by decide)
  obtain⟨j,hj⟩:∃j:Nat,1+u=(j:Int):=⟨(1+u).toNat,by omega⟩
  obtain⟨w,hs3,e3,⟨wl,wc⟩,h3,k3⟩:=zp4 (n:=n) (j:=j) r (by omega) (h2.mono (by omega))
  refine⟨w,hs3,?_,⟨zxgb (fun z=>by rw[z] at wl;simp at wl;omega) wc,by omega⟩,h3,(k1.trans k2).trans k3⟩
  rw[←hj] at e3
  generalize S w=W0 at *
  simp[zbj,zao,zok,e1,znp,hv,e2,e3]
/-- what a tree of the law holds after its word -/
def ltD:Lab→D
 |.fixed ls=>.tup (lnD ls)
 |.hole c=>.str (S [c])
 |.each c=>.str (S [c])
 |.sum=>.int 0
 |.sh _ n=>.int (n:Int)
 |.ded=>.int 0
 |.flu=>.int 0
 |.tg _ t=>.str (S t)
mutual
def tdD:Pg→D
 |.node l ms=>.tup [.str l.w,LK.ltD l,.tup (tdDs ms)]
def tdDs:List Pg→List D
 |[]=>[]
 |p::ps=>tdD p::tdDs ps
end
theorem zf8:∀ps:List Pg,tdDs ps=ps.map tdD
 |[]=>by unfold tdDs;rfl
 |p::ps=>by unfold tdDs;rw[zf8 ps];rfl
theorem zud (l:Lab) (ms:List Pg):tdD (.node l ms) = .tup [.str l.w,LK.ltD l,.tup (ms.map tdD)]:=by
 unfold tdD
 rw[zf8]
theorem zikb (p:Pg):tdD p = .tup [.str p.lab.w,LK.ltD p.lab,.tup (p.ms.map tdD)]:=by
 cases p with
 |node l ms=>exact zud l ms
/-- a line of a fixed block of the law -/
def LineB (x:List Nat):Prop:=∃r,RowIn 20 30 r∧zm r=x
def lokB:Lab→List Pg→Prop
 |.fixed ls,ms=>ms=[]∧ls≠[]∧ls.length≤6∧∀x∈ls,LineB x
 |.hole c,ms=>ms=[]∧z7d c=true
 |.each c,ms=>z7d c=true∧∃q,ms=[q]∧nms q=[c]∧rowN q = .non
 |.sum,ms=>2≤ms.length∧∀q∈ms,isSum q.lab=false
 |.sh _ n,ms=>n≤20∧∃q,ms=[q]
 |.ded,ms=>∃q,ms=[q]
 |.flu,ms=>∃q,ms=[q]
 |.tg _ t,ms=>isTag t=true∧∃q,ms=[q]
def GoodB (p:Pg):Prop:=∀q∈parts p,lokB q.lab q.ms
theorem GoodB.here {p:Pg} (h:GoodB p):lokB p.lab p.ms:=h p (by rw[z8h];exact yb)
theorem GoodB.sub {p q:Pg} (h:GoodB p) (hq:q∈p.ms):GoodB q:=fun x hx=>h x ((zly hq).subset hx)
theorem GoodB.mk {l:Lab} {ms:List Pg} (h:lokB l ms) (hm:∀q∈ms,GoodB q):GoodB (.node l ms):=fun x hx=>by
 rw[z8h] at hx
 rcases yo.mp hx with e |hx
 ·rw[e];exact h
 ·obtain⟨q,hq,hx⟩:=List.mem_flatMap.mp hx
  exact hm q hq x hx
theorem z08 {w:List Nat} (h:Wd w) (hl:w.length≤30) (u:Nat) (hu:u≤20):LineB (yn u 32++w):=
 ⟨((u:Int),w),.inr ⟨by show (0:Int)≤(u:Int);omega,by show (u:Int)≤20;omega,h,hl⟩,by unfold zm;rw[ysb]⟩
theorem z06 {w:List Nat} (h:Wd w) (hl:w.length≤30):LineB w:=z08 h hl 0 (by decide)
theorem zlcb:LineB []:=⟨(-1,[]),.inl ⟨rfl,rfl⟩,rfl⟩
def rwsB (t w far:List Nat):List (List (List Nat)):=[[t++[58]++[32]++w],[w,[]],[w,far],[[],w],[far],[[111,58,32]++(t++[58]),[],far],[[]]]++[[w,w,w,w,w,w]]++yn 6 [w]
theorem e_b1:Str.ofString " " = S [32]:=by decide
theorem e_oc:Str.ofString "o: " = S [111,58,32]:=by decide
theorem z3cb {i g s n wide:Nat} {hs:List HC} (r:Mem) (hw:wide≤20) (h:HSt i g s (n+30) hs) :
  ∃(ls:List (List Nat)) (hs':List HC),zjf [.h i,.d (.int (wide:Int))] (.hp hs::r) = .ok (.d (tdD (.node (.fixed ls) []))) (.hp hs'::r)∧lokB (.fixed ls) []∧HSt i g s n hs'∧Kp [i,g] hs hs':=by
 obtain⟨w,hs1,e1,w1,h1,k1⟩:=zegb (n:=n+22) r h
 obtain⟨v,hs2,e2,⟨v0,v1⟩,h2,k2⟩:=zro (q:=8) (n:=n+21) r h1 (by decide) (by decide)
 obtain⟨j,hj⟩:∃j:Nat,1+v=(j:Int):=⟨(1+v).toNat,by omega⟩
 obtain⟨t,hs3,e3,⟨tl,tc⟩,h3,k3⟩:=zp4 (n:=n+13) (j:=j) r (by omega) (h2.mono (by omega))
 obtain⟨u,hs4,e4,⟨u0,u1⟩,h4,k4⟩:=zro (q:=(wide:Int)+1) (n:=n+12) r h3 (by omega) (by omega)
 obtain⟨w2,hs5,e5,w3,h5,k5⟩:=zegb (n:=n+4) r h4
 have tn:t≠[]:=fun z=>by rw[z] at tl;simp at tl;omega
 have td:=zxgb tn tc
 have t58:Wd (t++[58]):=by simpa using td.app (Wd.one (c:=58) (by decide)) 0
 obtain⟨far,hfar⟩:∃far,far=yn u.toNat 32++w2:=⟨_,rfl⟩
 have hrows:∀ls∈rwsB t w far,ls≠[]∧ls.length≤6∧∀x∈ls,LineB x:=by
  have a1:LineB w:=z06 w1.d (by have:=w1.l;omega)
  have a2:LineB far:=by rw[hfar];exact z08 w3.d (by have:=w3.l;omega) _ (by omega)
  have a3:LineB (t++[58]++[32]++w):=z06 (by simpa using t58.app w1.d 1) (by have:=w1.l;simp;omega)
  have a4:LineB ([111,58,32]++(t++[58])):=z06 (by simpa using (z0ab (w:=[111,58]) (by decide)).app t58 1) (by simp;omega)
  intro ls hls
  unfold rwsB at hls
  simp only[yz,yo,y9b,or_false,ygc] at hls
  have nn:=zlcb
  rcases hls with ((rfl |rfl |rfl |rfl |rfl |rfl |rfl) |rfl) |⟨_,rfl⟩ <;> refine⟨by simp,by simp,?_⟩ <;> simp only[yo,y9b,or_false,forall_eq_or_imp,forall_eq,a1,a2,a3,a4,nn,and_self]
 obtain⟨d,hs6,e6,hd,h6,k6⟩:=zt8 (n:=n+3) (ds:=(rwsB t w far).map fun ls=>D.tup (lnD ls)) r h5 (by simp[rwsB]) (by simp[rwsB])
 obtain⟨ls,hls,rfl⟩:=yfb.mp hd
 obtain⟨b1,b2,b3⟩:=hrows ls hls
 refine⟨ls,hs6,?_,⟨rfl,b1,b2,b3⟩,h6.mono (by omega),((((k1.trans k2).trans k3).trans k4).trans k5).trans k6⟩
 have ea:addD (.str (S t)) (.str (S [58]))=some (.str (S (t++[58]))):=add_str (by unfold sizeLine;simp;omega)
 have eb:addD (.str (S (t++[58]))) (.str (S [32]))=some (.str (S (t++[58]++[32]))):=add_str (by unfold sizeLine;simp;omega)
 have ec:addD (.str (S (t++[58]++[32]))) (.str (S w))=some (.str (S (t++[58]++[32]++w))):=add_str (by have:=w1.l;unfold sizeLine;simp;omega)
 have em:mulD (.str (S [32])) (.int u)=some (.str (S (yn u.toNat 32))):=zsgb (by omega) (by omega)
 have ef:addD (.str (S (yn u.toNat 32))) (.str (S w2))=some (.str (S far)):=by
  rw[hfar]
  exact add_str (by have:=w3.l;unfold sizeLine;rw[y0b];omega)
 have eg:addD (.str (S [111,58,32])) (.str (S (t++[58])))=some (.str (S ([111,58,32]++(t++[58])))):=add_str (by unfold sizeLine;simp;omega)
 have et:mulTD (.tup [.str (S w)]) (.int 6)=some (.tup [.str (S w),.str (S w),.str (S w),.str (S w),.str (S w),.str (S w)]):=by
  show chk _ _=_
  rw[zdc ⟨by simp,by decide,by decide,by simp⟩]
  rfl
 have el:mulD (.lst [.tup [.str (S w)]]) (.int 6)=some (.lst [.tup [.str (S w)],.tup [.str (S w)],.tup [.str (S w)],.tup [.str (S w)],.tup [.str (S w)],.tup [.str (S w)]]):=by
  have:=zoib (a:=[.tup [.str (S w)]]) (i:=6) 6 rfl (by show 1*6≤sizeLine;decide) (by decide)
  rw[this]
  rfl
 have eR:(rwsB t w far).map (fun ls=>D.tup (lnD ls))=[.tup [.str (S (t++[58]++[32]++w))],.tup [.str (S w),.str (S [])],.tup [.str (S w),.str (S far)],.tup [.str (S []),.str (S w)],.tup [.str (S far)],.tup [.str (S ([111,58,32]++(t++[58]))),.str (S []),.str (S far)],.tup [.str (S [])],.tup [.str (S w),.str (S w),.str (S w),.str (S w),.str (S w),.str (S w)],.tup [.str (S w)],.tup [.str (S w)],.tup [.str (S w)],.tup [.str (S w)],.tup [.str (S w)],.tup [.str (S w)]]:=rfl
 have ed:tdD (.node (.fixed ls) []) = .tup [.str "fixed",.tup (lnD ls),.tup []]:=zud _ _
 rw[eR] at e6
 rw[ed]
 rw[←hj] at e3
 clear eR ed hrows hfar td t58 tc tl tn h6 h5 h4 h3 h2 h1 h k1 k2 k3 k4 k5 k6
 have hz:∀k:Nat,k≤30→k≤sizeLine:=fun k hk=>by unfold sizeLine;omega
 have al:∀{a b:List D},a.length+b.length≤sizeLine→addD (.lst a) (.lst b)=some (.lst (a++b)):=fun h=>zdc h
 generalize lnD ls=LS at *
 generalize S (t++[58]++[32]++w)=A1 at *
 generalize S (t++[58]++[32])=A2 at *
 generalize S ([111,58,32]++(t++[58]))=A4 at *
 generalize S (t++[58])=A3 at *
 generalize S far=A5 at *
 generalize S t=A6 at *
 generalize S w=W1 at *
 generalize S w2=W2 at *
 generalize S (yn u.toNat 32)=A7 at *
 simp[zjf,z5p,zsm,e_col,e_b1,e_oc,e_em,e1,e2,e3,e4,e5,ea,eb,ec,em,ef,eg,et,el,e6,hz,al]
mutual
def dep:Pg→Nat
 |.node _ ms=>1+deps ms
def deps:List Pg→Nat
 |[]=>0
 |p::ps=>max (dep p) (deps ps)
end
theorem zcu (l:Lab) (ms:List Pg):dep (.node l ms)=1+deps ms:=by conv=>lhs;unfold dep
theorem zh3:deps []=0:=by unfold deps;rfl
theorem zkz (p:Pg) (ps:List Pg):deps (p::ps)=max (dep p) (deps ps):=by conv=>lhs;unfold deps
theorem zxfb {p:Pg} {ps:List Pg} (h:p∈ps):dep p≤deps ps:=by
 induction ps with
 |nil=>cases h
 |cons q ps ih=>
  rw[zkz]
  rcases yo.mp h with rfl |h
  ·exact Nat.le_max_left _ _
  ·exact yy (ih h) (Nat.le_max_right _ _)
theorem zidb {ps:List Pg} {k:Nat} (h:∀p∈ps,dep p≤k):deps ps≤k:=by
 induction ps with
 |nil=>rw[zh3];exact y7b _
 |cons q ps ih=>
  rw[zkz]
  exact Nat.max_le.mpr ⟨h q yb,ih fun p hp=>h p (yd _ hp)⟩
theorem zahb (p:Pg):dep p=1+deps p.ms:=by cases p;exact zcu _ _
theorem z9gb {p q:Pg} (h:q∈p.ms):dep q<dep p:=by
 have:=zxfb h
 rw[zahb p]
 omega
theorem zjdb (p:Pg):1≤dep p:=by rw[zahb];omega
theorem zbhb:∀ds:List D,datH (ds.map HW.d)=some ds
 |[]=>rfl
 |d::ds=>by rw[yr,datH,zbhb ds]
theorem zagb (m:Mem) (a b:List D) (y:W) (hy:y.rd (m++[.lst a])=some (.lst b)) (h:a.length+b.length≤sizeLine):augW (.c m.length) y (m++[.lst a]) = .ok (.c m.length) (m++[.lst (a++b)]):=by
 have e1:(Loc.c m.length).get (m++[.lst a])=some (a.map HW.d):=by
  show (match (m++[Cell.lst a])[m.length]? with |some (.lst ds)=>some (ds.map HW.d) |_=>none)=_
  rw[zr2]
 have e2:(Loc.c m.length).put (a.map HW.d++b.map HW.d) (m++[.lst a])=some (m++[.lst (a++b)]):=by
  show (match datH (a.map HW.d++b.map HW.d) with |some ds=>some ((m++[Cell.lst a]).set m.length (.lst ds)) |none=>none)=_
  rw[←yob,zbhb]
  simp only[]
  rw[zi8]
 unfold augW W.loc
 simp only[e1,hy]
 rw[if_pos (by rw[ye];exact h),e2]
theorem ztib (d:D) (m:Mem):mkCel [.d d] m = .ok (.c m.length) (m++[.lst [d]]):=by
 unfold mkCel
 simp[z5g,sizeLine]
theorem zx8:∀(n:Nat) (p:Pg),dep p≤n→size p≤10000→∀m:Mem,zsf n [.d (tdD p)] m = .ok (.d (.lst ((parts p).map tdD))) m
 | 0,p,h,_,m=>by have:=zjdb p;omega
 |n+1,p,h,hz,m=>by
  have hsz:size p=1+sizes p.ms:=by
   cases p with
   |node l ms=>unfold size;rfl
  have pl:=PG.zeg p
  rw[z8h,yw] at pl
  have lp:=zj2 (g:=gNm 2) (b:=z3m (zsf n)) (fun ds dl m'=>∃(done rest:List Pg) (x:Option W),ds=rest.map tdD∧p.ms=done++rest∧dl=[some (.d (tdD p)),some (.c m.length),x]∧m'=m++[.lst (tdD p::(done.flatMap parts).map tdD)]) (fun d ds dl m' hI=>by
   obtain⟨done,rest,x,hd,hm,rfl,rfl⟩:=hI
   cases rest with
   |nil=>cases hd
   |cons q rest=>
    rw[yr] at hd
    injection hd with h1 h2
    subst h1
    have hq:q∈p.ms:=by rw[hm];simp
    have e:=zx8 n q (by have:=z9gb hq;omega) (by have:=z0r hq;omega) (m++[.lst (tdD p::(done.flatMap parts).map tdD)])
    have hl:(done.flatMap parts).length+(parts q).length≤(p.ms.flatMap parts).length:=by
     rw[hm,yqc,yg,yvb,yg]
     omega
    have ea:=zagb m (tdD p::(done.flatMap parts).map tdD) ((parts q).map tdD) (.d (.lst ((parts q).map tdD))) rfl (by simp only[yw,ye];unfold sizeLine;omega)
    refine⟨_,rfl,[some (.d (tdD p)),some (.c m.length),some (.d (tdD q))],_,?_,done++[q],rest,_,h2,by rw[hm];simp,rfl,rfl⟩
    have e3:tdD p::(((done++[q]).flatMap parts).map tdD)=tdD p::(done.flatMap parts).map tdD++(parts q).map tdD:=by simp
    rw[e3]
    generalize tdD p::(done.flatMap parts).map tdD=A at *
    generalize (parts q).map tdD=B at *
    generalize tdD q=Q at *
    simp[z3m,e,ea])
  obtain⟨dl2,m2,el,done,rest,x,hd,hm,rfl,rfl⟩:=lp (p.ms.map tdD) [some (.d (tdD p)),some (.c m.length),none] (m++[.lst [tdD p]]) ⟨[],p.ms,none,rfl,rfl,rfl,rfl⟩
  have hr:rest=[]:=by
   cases rest with
   |nil=>rfl
   |cons=>cases hd
  subst hr
  rw[ygb] at hm
  rw[←hm] at el
  have e2:tdD p::(p.ms.flatMap parts).map tdD=(parts p).map tdD:=by rw[z8h p];rfl
  rw[e2] at el
  have et:=zikb p
  have ei:∀m,ixW [("Block",zf)] (.d (tdD p)) (.d (.int 2)) m = .ok (.d (.tup (p.ms.map tdD))) m:=fun m=>by
   rw[et]
   rfl
  have mk:=ztib (tdD p) m
  clear et
  generalize (parts p).map tdD=pp at *
  generalize p.ms.map tdD=M at *
  generalize tdD p=P at *
  simp[zsf,zrm,mk,ei,el]
theorem zgcb {p:Pg} (h:dep p≤24) (hz:size p≤10000) (m:Mem):zng [.d (tdD p)] m = .ok (.d (.lst ((parts p).map tdD))) m:=zx8 24 p h hz m
/-- a sum of programs that are no sums; one alone is itself -/
def sumL:List Pg→Pg
 |[q]=>q
 |l=>.node .sum l
def sumP (ts:List Pg):Pg:=sumL (ts.flatMap sms)
theorem zdcb (ds:List D) (h:ds.length≤sizeLine):listD [.tup ds]=some (.lst ds):=by
 first |rfl |exact zdc h |simp[listD,h]
theorem znhb (ds:List D) (h:ds.length≤sizeLine):zxo [.lst ds]=some (.tup ds):=by
 first |rfl |exact zdc h |simp[zxo,h]
def chH (c:Nat):HW:=.d (chS c)
/-- the names that are left -/
def Nm (q:Nat) (hs:List HC) (ns:List Nat):Prop:=hs[q]?=some (.lst (ns.map chH))
theorem zskb {q i c:Nat} {hs:List HC} {ns:List Nat} (r:Mem) (h:Nm q hs (ns++[c])) :
  ∃hs',compD (gNm 6) bYes z8m [some (.h i),some (.h q),some (.d (.int 1)),none,none,none,none] (rngD 0 1) [] (.hp hs::r) = .ok [chS c] (.hp hs'::r)∧Nm q hs' ns∧Kp [q] hs hs':=by
 unfold Nm at h
 rw[yob] at h
 have lq:=(yc.mp h).1
 have po:=ztkb (r:=r) (w:=chH c) h
 have ty:=z1gb (r:=r) h
 refine⟨hs.set q (.lst (ns.map chH)),?_,yu lq,Kp.set (by simp) _⟩
 generalize hs.set q (.lst (ns.map chH))=hs1 at *
 have e0:rngD 0 1=[.int 0]:=rfl
 have po:popLW (.h q) (.hp hs::r) = .ok (.d (chS c)) (.hp hs1::r):=po
 have hz:0<sizeLine:=by decide
 rw[e0]
 simp[compD,bYes,z8m,ty,po,hz]
/-- a part of the law's trees: what it holds of the names taken, how large it is -/
structure Pt (p:Pg) (us:List Nat) (z d:Nat):Prop where
 g:GoodB p
 nd:(nms p).Nodup
 su:∀c∈nms p,c∈us
 wt:weight p≤us.length
 sz:size p≤z
 dp:dep p≤d
theorem zn9 (l:Lab):dep (.node l [])=1:=by rw[zcu,zh3]
theorem zojb (l:Lab) (q:Pg):dep (.node l [q])=1+dep q:=by rw[zcu,zkz,zh3,Nat.max_zero]
theorem zn8 {ls:List (List Nat)} (h:lokB (.fixed ls) []):Pt (.node (.fixed ls) []) [] 1 1:=⟨GoodB.mk h (fun _ z=>nomatch z),by rw[z3bb];exact ysc,by rw[z3bb];exact (fun _ z=>nomatch z),by rw[z39];exact y7b _,by rw[size_leaf];exact yp 1,by rw[zn9];exact yp 1⟩
theorem z3hb {c:Nat} (h:z7d c=true):Pt (.node (.hole c) []) [c] 1 1:=⟨GoodB.mk ⟨rfl,h⟩ (fun _ z=>nomatch z),by rw[zvx];simp,by rw[zvx];exact fun _ z=>z,by rw[zyr];exact yp 1,by rw[size_leaf];exact yp 1,by rw[zn9];exact yp 1⟩
theorem Pt.one {p:Pg} {us:List Nat} {z d:Nat} (h:Pt p us z d) {l:Lab} (hl:lokB l [p]) (h1:hol l=none) (h2:wei l=false):Pt (.node l [p]) us (z+1) (d+1):=
 ⟨GoodB.mk hl fun q hq=>by rw[yj.mp hq];exact h.g,by rw[zu6 h1];exact h.nd,by rw[zu6 h1];exact h.su,by rw[z50 h2];exact h.wt,by rw[zdeb];have:=h.sz;omega,by rw[zojb];have:=h.dp;omega⟩
theorem Pt.mono {p:Pg} {us us':List Nat} {z d z' d':Nat} (h:Pt p us z d) (hu:∀c∈us,c∈us') (hl:us.length≤us'.length) (hz:z≤z') (hd:d≤d'):Pt p us' z' d':=⟨h.g,h.nd,fun c hc=>hu c (h.su c hc),yy h.wt hl,yy h.sz hz,yy h.dp hd⟩
/-- the hole of a leaf, with or without a dedent -/
def holeB (a:Int) (c:Nat):Pg:=if a=0 then .node (.hole c) [] else .node .ded [.node (.hole c) []]
theorem zmeb {a:Int} {c:Nat} (h:z7d c=true):Pt (holeB a c) [c] 2 2∧nms (holeB a c)=[c]∧weight (holeB a c)=1∧rws (holeB a c)=[]∧isSum (holeB a c).lab=false:=by
 unfold holeB
 have h0:=z3hb h
 split
 ·exact⟨h0.mono (fun _ z=>z) (yp _) (by decide) (by decide),zvx c,zyr c,zl8 rfl,rfl⟩
 ·exact⟨h0.one ⟨_,rfl⟩ rfl rfl,by rw[zu6 rfl,zvx],by rw[z50 rfl,zyr],by rw[zzhb rfl,zl8 rfl],rfl⟩
/-- the state with the names left -/
theorem HSt.keepN {i g s q n:Nat} {hs hs':List HC} (h:HSt i g s n hs) (k:Kp [q] hs hs') (hi:i≠q) (hg:g≠q) (hs_:s≠q):HSt i g s n hs':=h.keep k (by simpa using hi) (by simpa using hg) (by simpa using hs_)
theorem Nm.keep {q i g:Nat} {hs hs':List HC} {ns:List Nat} (h:Nm q hs ns) (k:Kp [i,g] hs hs') (hi:q≠i) (hg:q≠g):Nm q hs' ns:=k.at_ h (by simp[hi,hg])
theorem zflb {i g s q n:Nat} {hs:List HC} {ns:List Nat} {c:Nat} (r:Mem) (hq:q≠i∧q≠g∧q≠s) (hl:z7d c=true) (h:HSt i g s (n+60) hs) (hn:Nm q hs (ns++[c])) :
  ∃(p:Pg) (hs':List HC),z7e [.h i,.h q,.d (.int 1)] (.hp hs::r) = .ok (.d (tdD p)) (.hp hs'::r)∧(Pt p [c] 2 2∧isSum p.lab=false)∧HSt i g s n hs'∧Kp [i,g,q] hs hs'∧Nm q hs' ns:=by
 obtain⟨hs1,e1,n1,k1⟩:=zskb (i:=i) r hn
 have h1:=h.keepN k1 hq.1.symm hq.2.1.symm hq.2.2.symm
 obtain⟨a,hs2,e2,⟨a0,a1⟩,h2,k2⟩:=zro (q:=3) (n:=n+59) r h1 (by decide) (by decide)
 obtain⟨p1,p2,p3,p4,p5⟩:=zmeb (a:=a) hl
 refine⟨holeB a c,hs2,?_,⟨p1,p5⟩,h2.mono (by omega),(k1.mono (by simp)).trans (k2.mono (by simp)),n1.keep k2 hq.1 hq.2.1⟩
 have ln:=zicb (r:=r) [("Block",zn)] hn
 rw[ye,yg] at ln
 have g0:¬(((ns.length+[c].length:Nat):Int)<1):=by simp;omega
 have er:rngB (.ok [.d (.int 1)] (.hp hs::r)) = .ok (rngD 0 1) (.hp hs::r):=zn6 (j:=1) (by decide) (by decide)
 have ix:ixD (.lst [chS c]) (.int 0)=some (chS c):=rfl
 unfold holeB
 by_cases ha:a=0
 ·subst ha
  rw[if_pos rfl,zud]
  generalize (((ns.length+[c].length:Nat):Int))=L at *
  have e:D.tup [.str (Lab.hole c).w,LK.ltD (Lab.hole c),.tup ([].map tdD)] = .tup [.str "hole",chS c,.tup []]:=rfl
  rw[e]
  generalize chS c=C at *
  simp[z7e,zjl,zgi,ln,g0,er,e1,ix,e2,znp]
 ·rw[if_neg ha,zud]
  generalize (((ns.length+[c].length:Nat):Int))=L at *
  have e:D.tup [.str Lab.ded.w,LK.ltD Lab.ded,.tup ([Pg.node (.hole c) []].map tdD)] = .tup [.str "dedent",.int 0,.tup [.tup [.str "hole",chS c,.tup []]]]:=by
   rw[List.map_singleton,zud]
   rfl
  rw[e]
  generalize chS c=C at *
  simp[z7e,zjl,zgi,ln,g0,er,e1,ix,e2,znp,ha]
theorem zglb {i g s q n many:Nat} {hs:List HC} {ns:List Nat} (r:Mem) (hq:q≠i∧q≠g∧q≠s) (h:HSt i g s (n+60) hs) (hn:Nm q hs ns) (hl:ns.length<many) :
  ∃(p:Pg) (hs':List HC),z7e [.h i,.h q,.d (.int (many:Int))] (.hp hs::r) = .ok (.d (tdD p)) (.hp hs'::r)∧(Pt p [] 1 1∧isSum p.lab=false)∧HSt i g s n hs'∧Kp [i,g,q] hs hs'∧Nm q hs' ns:=by
 obtain⟨ls,hs1,e1,l1,h1,k1⟩:=z3cb (n:=n+30) (wide:=4) r (by decide) h
 refine⟨.node (.fixed ls) [],hs1,?_,⟨zn8 l1,rfl⟩,h1.mono (by omega),k1.mono (by simp),hn.keep k1 hq.1 hq.2.1⟩
 have ln:=zicb (r:=r) [("Block",zn)] hn
 rw[ye] at ln
 have g0:((ns.length:Nat):Int)<(many:Int):=by omega
 generalize tdD (.node (.fixed ls) [])=R at *
 generalize ((ns.length:Nat):Int)=L at *
 generalize (many:Int)=M at *
 have e1:zjf [.h i,.d (.int 4)] (.hp hs::r) = .ok (.d R) (.hp hs1::r):=e1
 simp[z7e,zjl,zgi,ln,g0,e1]
/-- some parts -/
structure PL (L:List Pg) (us:List Nat) (z d:Nat):Prop where
 g:∀p∈L,GoodB p
 ns:∀p∈L,isSum p.lab=false
 nd:(L.flatMap nms).Nodup
 su:∀c∈L.flatMap nms,c∈us
 wt:(L.map weight).sum≤us.length
 sz:sizes L≤z
 dp:∀p∈L,dep p≤d
theorem PL.nil (d:Nat):PL [] [] 0 d:=⟨(fun _ z=>nomatch z),(fun _ z=>nomatch z),ysc,(fun _ z=>nomatch z),y7b _,by rw[z5h];exact yp 0,(fun _ z=>nomatch z)⟩
theorem PL.one {p:Pg} {us:List Nat} {z d:Nat} (h:Pt p us z d) (hs:isSum p.lab=false):PL [p] us z d:=
 ⟨fun q hq=>by rw[yj.mp hq];exact h.g,fun q hq=>by rw[yj.mp hq];exact hs,by simpa using h.nd,by simpa using h.su,by simpa using h.wt,by rw[zdf,z5h];have:=h.sz;omega,fun q hq=>by rw[yj.mp hq];exact h.dp⟩
theorem PL.app {L P:List Pg} {us vs:List Nat} {z w d:Nat} (h:PL L us z d) (hp:PL P vs w d) (hd:(vs++us).Nodup):PL (L++P) (vs++us) (z+w) d:=by
 refine⟨fun q hq=>?_,fun q hq=>?_,?_,fun c hc=>?_,?_,by rw[z9m];have:=h.sz;have:=hp.sz;omega,fun q hq=>?_⟩
 ·rcases yz.mp hq with hq |hq
  ·exact h.g q hq
  ·exact hp.g q hq
 ·rcases yz.mp hq with hq |hq
  ·exact h.ns q hq
  ·exact hp.ns q hq
 ·rw[yqc]
  refine yjc.mpr ⟨h.nd,hp.nd,fun a ha b hb e=>?_⟩
  subst e
  exact (yjc.mp hd).2.2 a (hp.su a hb) a (h.su a ha) rfl
 ·rw[yqc] at hc
  rcases yz.mp hc with hc |hc
  ·exact ybc _ (h.su c hc)
  ·exact ypb _ (hp.su c hc)
 ·rw[yob,List.sum_append,yg]
  have:=h.wt
  have:=hp.wt
  omega
 ·rcases yz.mp hq with hq |hq
  ·exact h.dp q hq
  ·exact hp.dp q hq
theorem PL.mono {L:List Pg} {us:List Nat} {z d z' d':Nat} (h:PL L us z d) (hz:z≤z') (hd:d≤d'):PL L us z' d':=⟨h.g,h.ns,h.nd,h.su,h.wt,yy h.sz hz,fun p hp=>yy (h.dp p hp) hd⟩
theorem z2cb:∀{L:List Pg},(∀p∈L,isSum p.lab=false)→L.flatMap sms=L
 |[],_=>rfl
 |p::L,h=>by
  rw[yvb,za1 (h p yb),z2cb (fun q hq=>h q (yd _ hq))]
  rfl
theorem PL.sum {L:List Pg} {us:List Nat} {z d:Nat} (h:PL L us z d) (h0:L≠[]):Pt (sumP L) us (z+1) (d+1):=by
 unfold sumP
 rw[z2cb h.ns]
 match L,h0 with
 |[q],_=>
  have hq:q∈[q]:=by simp
  have sz:=h.sz
  rw[zdf,z5h] at sz
  exact⟨h.g q hq,by show (nms q).Nodup;simpa using h.nd,by show ∀c∈nms q,c∈us;simpa using h.su,by show weight q≤_;simpa using h.wt,by show size q≤_;omega,by have:=h.dp q hq;show dep q≤_;omega⟩
 |a::b::l,_=>
  refine⟨GoodB.mk ⟨by simp,h.ns⟩ h.g,by show (nms (.node .sum _)).Nodup;rw[zt6];exact h.nd,by show ∀c∈nms (.node .sum _),_;rw[zt6];exact h.su,by show weight (.node .sum _)≤_;rw[z40];exact h.wt,?_,?_⟩
  ·show size (.node .sum _)≤_
   rw[zqn]
   have:=h.sz
   omega
  ·show dep (.node .sum _)≤_
   rw[zcu]
   have:=zidb h.dp
   omega
theorem zqib (p:Pg):p.ms.length<size p:=by
 have e:∀ms:List Pg,ms.length≤sizes ms:=by
  intro ms
  induction ms with
  |nil=>exact y7b _
  |cons a l ih=>
   rw[zdf,yw]
   have:=size_pos a
   omega
 cases p with
 |node l ms=>
  have h:size (.node l ms)=1+sizes ms:=by conv=>lhs;unfold size
  have:=e ms
  show ms.length<_
  omega
/-- as good as before -/
structure Like (p p':Pg):Prop where
 g:GoodB p'
 n:nms p'=nms p
 w:weight p'=weight p
 r:rws p'=rws p
 z:size p'≤size p+1
 d:dep p'≤dep p+1
theorem Like.refl {p:Pg} (h:GoodB p):Like p p:=⟨h,rfl,rfl,rfl,by omega,by omega⟩
theorem z85 {F1 F2:DF} {g:D→D→Option D} (p:Pg) {y:D} (hy:tagIn bopTs "Program" (tagD y)=true) (m:Mem):bopW bopTs [("Block",F1),("Program",F2)] g (.d (pgD p)) (.d y) m=F2 [.d (pgD p),.d y] m:=by
 have hl:look [("Block",F1),("Program",F2)] ("Program" : Str)=some F2:=by
  have h:¬(Str.ofString "Block" = Str.ofString "Program"):=by decide
  unfold look
  rw[if_neg h,zwx]
 have ht:tagOf (.d y) m=tagD y:=rfl
 obtain⟨ns,ds,hd⟩:∃ns ds,pgD p = .obj "Program" ns ds:=⟨_,_,z7h p⟩
 rw[hd]
 unfold bopW
 rw[zvz]
 dsimp only
 rw[hl]
 dsimp only
 rw[ht,if_pos hy]
theorem z2kb {F1 F2:DF} (p:Pg) (m:Mem):negW [("Block",F1),("Program",F2)] (.d (pgD p)) m=F2 [.d (pgD p)] m:=by
 have hl:look [("Block",F1),("Program",F2)] ("Program" : Str)=some F2:=by
  have h:¬(Str.ofString "Block" = Str.ofString "Program"):=by decide
  unfold look
  rw[if_neg h,zwx]
 obtain⟨ns,ds,hd⟩:∃ns ds,pgD p = .obj "Program" ns ds:=⟨_,_,z7h p⟩
 rw[hd]
 unfold negW
 rw[zvz]
 dsimp only
 rw[hl]
theorem z0q (p:Pg) {n:Str} (h:fns.contains n=false) (m:Mem):hasNo "Program" n (.d (pgD p)) m=true:=by
 rw[z7h]
 unfold obD
 rw[zucb,h]
 simp
theorem z5hb {F:DF} {p:Pg} {w:W} {m:Mem} (h:F [.d (pgD p)] m = .ok w m):propW "Program" F (.d (pgD p)) m = .ok w m:=by
 obtain⟨ns,ds,hd⟩:∃ns ds,pgD p = .obj "Program" ns ds:=⟨_,_,z7h p⟩
 rw[hd] at h ⊢
 rw[zkt,h]
 rfl
theorem zqhb (q:Pg):tagIn bopTs "Program" (tagD (pgD q))=true:=by
 rw[z93,za4]
theorem zsx {ls:List (List Nat)} (h:∀x∈ls,LineB x):∃rs:List Row,rs.map zm=ls∧∀r∈rs,RowIn 20 30 r:=by
 induction ls with
 |nil=>exact⟨[],rfl,fun _ hr=>nomatch hr⟩
 |cons x xs ih=>
  obtain⟨r,h1,h2⟩:=h x yb
  obtain⟨rs,h3,h4⟩:=ih fun y hy=>h y (yd _ hy)
  refine⟨r::rs,by rw[yr,h2,h3],fun y hy=>?_⟩
  rcases yo.mp hy with rfl |hy
  ·exact h1
  ·exact h4 y hy
theorem zf9 {ls:List (List Nat)} {ms:List Pg} (g:lokB (.fixed ls) ms) (m:Mem):zlq [.d (.str (S (ybb [10] ls)))] m = .ok (.d (pgD (.node (.fixed ls) []))) m:=by
 obtain⟨_,hne,h6,hx⟩:=g
 obtain⟨rs,e,hr⟩:=zsx hx
 subst e
 rw[ye] at h6
 exact zofb hr (by decide) (by simpa using hne) h6 m
/-- the first k+1 members, put together -/
def sumN:List Pg→Pg
 |[]=>.node .sum []
 |[p]=>p
 |ps=>.node .sum ps
theorem POk.pre {ms ks:List Pg} (h:POk (.node .sum (ms++ks))):POk (.node .sum ms):=by
 have hs:(ms.flatMap parts).Sublist ((ms++ks).flatMap parts):=by rw[yqc];exact List.sublist_append_left _ _
 refine⟨?_,?_,?_⟩
 ·have h1:=h.sz
  rw[←zeg] at h1 ⊢
  rw[zdn] at h1 ⊢
  have:=hs.length_le
  simp only[yw] at h1 ⊢
  omega
 ·have h1:=h.nd
  unfold nms at h1 ⊢
  rw[zdn,ydb (by rfl)] at h1 ⊢
  exact (hs.filterMap _).nodup h1
 ·have h1:=h.wt
  unfold weight at h1 ⊢
  rw[zdn,ymb (by exact y4)] at h1 ⊢
  have:=(hs.filter (fun q=>wei q.lab)).length_le
  omega
theorem zcgb {a:Pg} {as:List Pg} {q:Pg} (ha:∀x∈a::as,isSum x.lab=false) (hq:isSum q.lab=false) (h:POk (.node .sum (a::as++[q]))) (m:Mem):zt [.d (pgD (sumN (a::as))),.d (pgD q)] m = .ok (.d (pgD (sumN (a::as++[q])))) m:=by
 have e1:sms (sumN (a::as))=a::as:=by
  cases as with
  |nil=>exact za1 (ha a yb)
  |cons b bs=>exact zj6 _
 have e2:=za1 hq
 have e3:sumN (a::as++[q]) = .node .sum (sms (sumN (a::as))++sms q):=by
  rw[e1,e2]
  cases as <;> rfl
 rw[e3]
 exact zcib (by rw[e1];simp) (by rw[e2];simp) (by rw[e1,e2];exact h) m
theorem zchb (xs:List D):cutD xs (some 1) none=xs.drop 1:=by
 unfold cutD
 rw[HT.sIx_none]
 have e:HT.sIx xs.length 0 (some 1)=min 1 xs.length:=HT.sIx_nat xs.length 0 1
 rw[e]
 cases xs with
 |nil=>rfl
 |cons x xs=>
  have:min 1 (x::xs).length=1:=by rw[yw];omega
  rw[this]
  exact ytb (by rw[ytd];exact yp _)
theorem zd6 {F:DF} {m:Mem} (x0 x1 x2 x3:Option W):∀(ks:List Pg) (a:Pg) (as:List Pg) (x5:Option W),(∀q∈ks,F [.d (tdD q)] m = .ok (.d (pgD q)) m)→(∀x∈a::as++ks,isSum x.lab=false)→POk (.node .sum (a::as++ks)) →
  ∃x5',loopD (gNm 5) (zib F) (ks.map tdD) [x0,x1,x2,x3,some (.d (pgD (sumN (a::as)))),x5] m = .nx [x0,x1,x2,x3,some (.d (pgD (sumN (a::as++ks)))),x5'] m
 |[],a,as,x5,_,_,_=>⟨x5,by rw[ygb];rfl⟩
 |k::ks,a,as,x5,hF,hs,hp=>by
  have e0:a::as++k::ks=a::(as++[k])++ks:=by simp
  have h1:=hF k yb
  have hp2:POk (.node .sum (a::as++[k])):=by
   rw[e0] at hp
   exact hp.pre
  have e:=zcgb (fun x hx=>hs x (ypb _ hx)) (hs k (ybc _ yb)) hp2 m
  have eb:=@z85 zff zt addD (sumN (a::as)) (pgD k) (zqhb k) m
  have hb:zib F [x0,x1,x2,x3,some (.d (pgD (sumN (a::as)))),some (.d (tdD k))] m = .nx [x0,x1,x2,x3,some (.d (pgD (sumN (a::as++[k])))),some (.d (tdD k))] m:=by
   generalize pgD (sumN (a::as++[k]))=R at *
   generalize pgD (sumN (a::as))=A at *
   generalize pgD k=Kk at *
   generalize tdD k=T at *
   simp[zib,h1,eb,e]
  rw[e0] at hs hp ⊢
  obtain⟨x5',hx⟩:=zd6 x0 x1 x2 x3 ks a (as++[k]) (some (.d (tdD k))) (fun q hq=>hF q (yd _ hq)) hs hp
  refine⟨x5',?_⟩
  rw[yr,zk2 (dl1:=[x0,x1,x2,x3,some (.d (pgD (sumN (a::as)))),some (.d (tdD k))]) rfl hb]
  exact hx
theorem sl_1 (d:D):slD (.tup [d]) (some 1) none=some (.tup []):=by
 have e:slD (.tup [d]) (some 1) none=chk _ (.tup (cutD [d] (some 1) none)):=rfl
 rw[e,zdc (by show ¬(HT.sIx 1 0 (some 1)=0∧HT.sIx 1 1 none=1);decide),zchb]
 rfl
theorem z6hb {k:Nat} {n:Nat} {p:Pg} (hn:n≤20) (m:Mem) (ih:zh k [.d (tdD p)] m = .ok (.d (pgD p)) m) (h:POk (.node (.sh .in_ n) [p])):zh (k+1) [.d (tdD (.node (.sh .in_ n) [p]))] m = .ok (.d (pgD (.node (.sh .in_ n) [p]))) m:=by
 have e:=zfbb hn h m
 have b1:=@z85 z0e zwc noD p (.int (n:Int)) rfl m
 have et:tdD (.node (.sh .in_ n) [p]) = .tup [.str "in",.int (n:Int),.tup [tdD p]]:=zud _ _
 have t0:inTD (.str "in") (.tup [.str "fixed",.str "hole"])=some (.bl false):=znb "in" ["fixed", "hole"]
 have t1:inTD (.str "in") (.tup [.str "in",.str "out"])=some (.bl true):=znb "in" ["in", "out"]
 have t2:inTD (.str "in") (.tup [.str "first",.str "rest",.str "flush"])=some (.bl false):=znb "in" ["first", "rest", "flush"]
 have t3:inTD (.str "in") (.tup [.str "tag",.str "raw"])=some (.bl false):=znb "in" ["tag", "raw"]
 have q0:eqD (.str "in") (.str "in")=some (.bl true):=zk _ _
 have q1:eqD (.str "in") (.str "flush")=some (.bl false):=zk _ _
 have q2:eqD (.str "in") (.str "first")=some (.bl false):=zk _ _
 have q3:eqD (.str "in") (.str "tag")=some (.bl false):=zk _ _
 have q4:eqD (.str "in") (.str "dedent")=some (.bl false):=zk _ _
 have q5:eqD (.str "in") (.str "each")=some (.bl false):=zk _ _
 have c1:=sl_1 (tdD p)
 have ln:∀dl m,loopD (gNm 5) (zib (zh k)) [] dl m = .nx dl m:=fun _ _=>rfl
 have i0:ixD (.tup [tdD p]) (.int 0)=some (tdD p):=rfl
 rw[et]
 generalize pgD (.node (.sh .in_ n) [p])=R at *
 generalize pgD p=P at *
 generalize tdD p=T at *
 generalize (n:Int)=N at *
 simp[-zk,zh,zbb,c1,i0,ln,e,ih,b1,t0,t1,t2,t3,q0,q1,q2,q3,q4,q5]
theorem zreb {k:Nat} {n:Nat} {p:Pg} (hn:n≤20) (m:Mem) (ih:zh k [.d (tdD p)] m = .ok (.d (pgD p)) m) (h:POk (.node (.sh .out n) [p])):zh (k+1) [.d (tdD (.node (.sh .out n) [p]))] m = .ok (.d (pgD (.node (.sh .out n) [p]))) m:=by
 have e:=zecb hn h m
 have b1:=@z85 z1e zxc noD p (.int (n:Int)) rfl m
 have et:tdD (.node (.sh .out n) [p]) = .tup [.str "out",.int (n:Int),.tup [tdD p]]:=zud _ _
 have t0:inTD (.str "out") (.tup [.str "fixed",.str "hole"])=some (.bl false):=znb "out" ["fixed", "hole"]
 have t1:inTD (.str "out") (.tup [.str "in",.str "out"])=some (.bl true):=znb "out" ["in", "out"]
 have t2:inTD (.str "out") (.tup [.str "first",.str "rest",.str "flush"])=some (.bl false):=znb "out" ["first", "rest", "flush"]
 have t3:inTD (.str "out") (.tup [.str "tag",.str "raw"])=some (.bl false):=znb "out" ["tag", "raw"]
 have q0:eqD (.str "out") (.str "in")=some (.bl false):=zk _ _
 have q1:eqD (.str "out") (.str "flush")=some (.bl false):=zk _ _
 have q2:eqD (.str "out") (.str "first")=some (.bl false):=zk _ _
 have q3:eqD (.str "out") (.str "tag")=some (.bl false):=zk _ _
 have q4:eqD (.str "out") (.str "dedent")=some (.bl false):=zk _ _
 have q5:eqD (.str "out") (.str "each")=some (.bl false):=zk _ _
 have c1:=sl_1 (tdD p)
 have ln:∀dl m,loopD (gNm 5) (zib (zh k)) [] dl m = .nx dl m:=fun _ _=>rfl
 have i0:ixD (.tup [tdD p]) (.int 0)=some (tdD p):=rfl
 rw[et]
 generalize pgD (.node (.sh .out n) [p])=R at *
 generalize pgD p=P at *
 generalize tdD p=T at *
 generalize (n:Int)=N at *
 simp[-zk,zh,zbb,c1,i0,ln,e,ih,b1,t0,t1,t2,t3,q0,q1,q2,q3,q4,q5]
theorem zbab {k:Nat} {n:Nat} {p:Pg} (hn:n≤20) (m:Mem) (ih:zh k [.d (tdD p)] m = .ok (.d (pgD p)) m) (h:POk (.node (.sh .first n) [p])):zh (k+1) [.d (tdD (.node (.sh .first n) [p]))] m = .ok (.d (pgD (.node (.sh .first n) [p]))) m:=by
 have e:=zvbb hn h m
 have b1:=z0q p (n:="first") (by decide) m
 have et:tdD (.node (.sh .first n) [p]) = .tup [.str "first",.int (n:Int),.tup [tdD p]]:=zud _ _
 have t0:inTD (.str "first") (.tup [.str "fixed",.str "hole"])=some (.bl false):=znb "first" ["fixed", "hole"]
 have t1:inTD (.str "first") (.tup [.str "in",.str "out"])=some (.bl false):=znb "first" ["in", "out"]
 have t2:inTD (.str "first") (.tup [.str "first",.str "rest",.str "flush"])=some (.bl true):=znb "first" ["first", "rest", "flush"]
 have t3:inTD (.str "first") (.tup [.str "tag",.str "raw"])=some (.bl false):=znb "first" ["tag", "raw"]
 have q0:eqD (.str "first") (.str "in")=some (.bl false):=zk _ _
 have q1:eqD (.str "first") (.str "flush")=some (.bl false):=zk _ _
 have q2:eqD (.str "first") (.str "first")=some (.bl true):=zk _ _
 have q3:eqD (.str "first") (.str "tag")=some (.bl false):=zk _ _
 have q4:eqD (.str "first") (.str "dedent")=some (.bl false):=zk _ _
 have q5:eqD (.str "first") (.str "each")=some (.bl false):=zk _ _
 have c1:=sl_1 (tdD p)
 have ln:∀dl m,loopD (gNm 5) (zib (zh k)) [] dl m = .nx dl m:=fun _ _=>rfl
 have i0:ixD (.tup [tdD p]) (.int 0)=some (tdD p):=rfl
 rw[et]
 generalize pgD (.node (.sh .first n) [p])=R at *
 generalize pgD p=P at *
 generalize tdD p=T at *
 generalize (n:Int)=N at *
 simp[-zk,zh,zbb,c1,i0,ln,e,ih,b1,t0,t1,t2,t3,q0,q1,q2,q3,q4,q5]
theorem zobb {k:Nat} {n:Nat} {p:Pg} (hn:n≤20) (m:Mem) (ih:zh k [.d (tdD p)] m = .ok (.d (pgD p)) m) (h:POk (.node (.sh .rest n) [p])):zh (k+1) [.d (tdD (.node (.sh .rest n) [p]))] m = .ok (.d (pgD (.node (.sh .rest n) [p]))) m:=by
 have e:=zveb hn h m
 have b1:=z0q p (n:="rest") (by decide) m
 have et:tdD (.node (.sh .rest n) [p]) = .tup [.str "rest",.int (n:Int),.tup [tdD p]]:=zud _ _
 have t0:inTD (.str "rest") (.tup [.str "fixed",.str "hole"])=some (.bl false):=znb "rest" ["fixed", "hole"]
 have t1:inTD (.str "rest") (.tup [.str "in",.str "out"])=some (.bl false):=znb "rest" ["in", "out"]
 have t2:inTD (.str "rest") (.tup [.str "first",.str "rest",.str "flush"])=some (.bl true):=znb "rest" ["first", "rest", "flush"]
 have t3:inTD (.str "rest") (.tup [.str "tag",.str "raw"])=some (.bl false):=znb "rest" ["tag", "raw"]
 have q0:eqD (.str "rest") (.str "in")=some (.bl false):=zk _ _
 have q1:eqD (.str "rest") (.str "flush")=some (.bl false):=zk _ _
 have q2:eqD (.str "rest") (.str "first")=some (.bl false):=zk _ _
 have q3:eqD (.str "rest") (.str "tag")=some (.bl false):=zk _ _
 have q4:eqD (.str "rest") (.str "dedent")=some (.bl false):=zk _ _
 have q5:eqD (.str "rest") (.str "each")=some (.bl false):=zk _ _
 have c1:=sl_1 (tdD p)
 have ln:∀dl m,loopD (gNm 5) (zib (zh k)) [] dl m = .nx dl m:=fun _ _=>rfl
 have i0:ixD (.tup [tdD p]) (.int 0)=some (tdD p):=rfl
 rw[et]
 generalize pgD (.node (.sh .rest n) [p])=R at *
 generalize pgD p=P at *
 generalize tdD p=T at *
 generalize (n:Int)=N at *
 simp[-zk,zh,zbb,c1,i0,ln,e,ih,b1,t0,t1,t2,t3,q0,q1,q2,q3,q4,q5]
theorem zseb {k:Nat} {p:Pg}  (m:Mem) (ih:zh k [.d (tdD p)] m = .ok (.d (pgD p)) m) (h:POk (.node (.flu) [p])):zh (k+1) [.d (tdD (.node (.flu) [p]))] m = .ok (.d (pgD (.node (.flu) [p]))) m:=by
 have e:=zubb h m
 have b1:=z0q p (n:="flush") (by decide) m
 have et:tdD (.node (.flu) [p]) = .tup [.str "flush",.int 0,.tup [tdD p]]:=zud _ _
 have t0:inTD (.str "flush") (.tup [.str "fixed",.str "hole"])=some (.bl false):=znb "flush" ["fixed", "hole"]
 have t1:inTD (.str "flush") (.tup [.str "in",.str "out"])=some (.bl false):=znb "flush" ["in", "out"]
 have t2:inTD (.str "flush") (.tup [.str "first",.str "rest",.str "flush"])=some (.bl true):=znb "flush" ["first", "rest", "flush"]
 have t3:inTD (.str "flush") (.tup [.str "tag",.str "raw"])=some (.bl false):=znb "flush" ["tag", "raw"]
 have q0:eqD (.str "flush") (.str "in")=some (.bl false):=zk _ _
 have q1:eqD (.str "flush") (.str "flush")=some (.bl true):=zk _ _
 have q2:eqD (.str "flush") (.str "first")=some (.bl false):=zk _ _
 have q3:eqD (.str "flush") (.str "tag")=some (.bl false):=zk _ _
 have q4:eqD (.str "flush") (.str "dedent")=some (.bl false):=zk _ _
 have q5:eqD (.str "flush") (.str "each")=some (.bl false):=zk _ _
 have c1:=sl_1 (tdD p)
 have ln:∀dl m,loopD (gNm 5) (zib (zh k)) [] dl m = .nx dl m:=fun _ _=>rfl
 have i0:ixD (.tup [tdD p]) (.int 0)=some (tdD p):=rfl
 rw[et]
 generalize pgD (.node (.flu) [p])=R at *
 generalize pgD p=P at *
 generalize tdD p=T at *
 simp[-zk,zh,zbb,c1,i0,ln,e,ih,b1,t0,t1,t2,t3,q0,q1,q2,q3,q4,q5]
theorem zueb {k:Nat} {p:Pg}  (m:Mem) (ih:zh k [.d (tdD p)] m = .ok (.d (pgD p)) m) (h:POk (.node (.ded) [p])):zh (k+1) [.d (tdD (.node (.ded) [p]))] m = .ok (.d (pgD (.node (.ded) [p]))) m:=by
 have e:=z8hb h m
 have b1:=@z2kb zpg zxd p m
 have et:tdD (.node (.ded) [p]) = .tup [.str "dedent",.int 0,.tup [tdD p]]:=zud _ _
 have t0:inTD (.str "dedent") (.tup [.str "fixed",.str "hole"])=some (.bl false):=znb "dedent" ["fixed", "hole"]
 have t1:inTD (.str "dedent") (.tup [.str "in",.str "out"])=some (.bl false):=znb "dedent" ["in", "out"]
 have t2:inTD (.str "dedent") (.tup [.str "first",.str "rest",.str "flush"])=some (.bl false):=znb "dedent" ["first", "rest", "flush"]
 have t3:inTD (.str "dedent") (.tup [.str "tag",.str "raw"])=some (.bl false):=znb "dedent" ["tag", "raw"]
 have q0:eqD (.str "dedent") (.str "in")=some (.bl false):=zk _ _
 have q1:eqD (.str "dedent") (.str "flush")=some (.bl false):=zk _ _
 have q2:eqD (.str "dedent") (.str "first")=some (.bl false):=zk _ _
 have q3:eqD (.str "dedent") (.str "tag")=some (.bl false):=zk _ _
 have q4:eqD (.str "dedent") (.str "dedent")=some (.bl true):=zk _ _
 have q5:eqD (.str "dedent") (.str "each")=some (.bl false):=zk _ _
 have c1:=sl_1 (tdD p)
 have ln:∀dl m,loopD (gNm 5) (zib (zh k)) [] dl m = .nx dl m:=fun _ _=>rfl
 have i0:ixD (.tup [tdD p]) (.int 0)=some (tdD p):=rfl
 rw[et]
 generalize pgD (.node (.ded) [p])=R at *
 generalize pgD p=P at *
 generalize tdD p=T at *
 simp[-zk,zh,zbb,c1,i0,ln,e,ih,b1,t0,t1,t2,t3,q0,q1,q2,q3,q4,q5]
theorem zoeb {k:Nat} {t:List Nat} {p:Pg} (ht:isTag t=true) (m:Mem) (ih:zh k [.d (tdD p)] m = .ok (.d (pgD p)) m) (h:POk (.node (.tg true t) [p])):zh (k+1) [.d (tdD (.node (.tg true t) [p]))] m = .ok (.d (pgD (.node (.tg true t) [p]))) m:=by
 have e:=ze1 ht h m
 have b1:=z0q p (n:="tagged") (by decide) m
 have ek:zce [.d (pgD p),.d (.str (S t)),.d (.bl true)] m=zqe [.d (pgD p),.d (.str (S t)),.d (.bl true)] m:=rfl
 have et:tdD (.node (.tg true t) [p]) = .tup [.str "tag",.str (S t),.tup [tdD p]]:=zud _ _
 have t0:inTD (.str "tag") (.tup [.str "fixed",.str "hole"])=some (.bl false):=znb "tag" ["fixed", "hole"]
 have t1:inTD (.str "tag") (.tup [.str "in",.str "out"])=some (.bl false):=znb "tag" ["in", "out"]
 have t2:inTD (.str "tag") (.tup [.str "first",.str "rest",.str "flush"])=some (.bl false):=znb "tag" ["first", "rest", "flush"]
 have t3:inTD (.str "tag") (.tup [.str "tag",.str "raw"])=some (.bl true):=znb "tag" ["tag", "raw"]
 have q0:eqD (.str "tag") (.str "in")=some (.bl false):=zk _ _
 have q1:eqD (.str "tag") (.str "flush")=some (.bl false):=zk _ _
 have q2:eqD (.str "tag") (.str "first")=some (.bl false):=zk _ _
 have q3:eqD (.str "tag") (.str "tag")=some (.bl true):=zk _ _
 have q4:eqD (.str "tag") (.str "dedent")=some (.bl false):=zk _ _
 have q5:eqD (.str "tag") (.str "each")=some (.bl false):=zk _ _
 have c1:=sl_1 (tdD p)
 have ln:∀dl m,loopD (gNm 5) (zib (zh k)) [] dl m = .nx dl m:=fun _ _=>rfl
 have i0:ixD (.tup [tdD p]) (.int 0)=some (tdD p):=rfl
 rw[et]
 generalize pgD (.node (.tg true t) [p])=R at *
 generalize pgD p=P at *
 generalize tdD p=T at *
 generalize S t=N at *
 simp[-zk,zh,zbb,c1,i0,ln,e,ih,b1,ek,t0,t1,t2,t3,q0,q1,q2,q3,q4,q5]
theorem zqeb {k:Nat} {t:List Nat} {p:Pg} (ht:isTag t=true) (m:Mem) (ih:zh k [.d (tdD p)] m = .ok (.d (pgD p)) m) (h:POk (.node (.tg false t) [p])):zh (k+1) [.d (tdD (.node (.tg false t) [p]))] m = .ok (.d (pgD (.node (.tg false t) [p]))) m:=by
 have e:=ze1 ht h m
 have b1:=z0q p (n:="tagged") (by decide) m
 have ek:zce [.d (pgD p),.d (.str (S t)),.d (.bl false)] m=zqe [.d (pgD p),.d (.str (S t)),.d (.bl false)] m:=rfl
 have et:tdD (.node (.tg false t) [p]) = .tup [.str "raw",.str (S t),.tup [tdD p]]:=zud _ _
 have t0:inTD (.str "raw") (.tup [.str "fixed",.str "hole"])=some (.bl false):=znb "raw" ["fixed", "hole"]
 have t1:inTD (.str "raw") (.tup [.str "in",.str "out"])=some (.bl false):=znb "raw" ["in", "out"]
 have t2:inTD (.str "raw") (.tup [.str "first",.str "rest",.str "flush"])=some (.bl false):=znb "raw" ["first", "rest", "flush"]
 have t3:inTD (.str "raw") (.tup [.str "tag",.str "raw"])=some (.bl true):=znb "raw" ["tag", "raw"]
 have q0:eqD (.str "raw") (.str "in")=some (.bl false):=zk _ _
 have q1:eqD (.str "raw") (.str "flush")=some (.bl false):=zk _ _
 have q2:eqD (.str "raw") (.str "first")=some (.bl false):=zk _ _
 have q3:eqD (.str "raw") (.str "tag")=some (.bl false):=zk _ _
 have q4:eqD (.str "raw") (.str "dedent")=some (.bl false):=zk _ _
 have q5:eqD (.str "raw") (.str "each")=some (.bl false):=zk _ _
 have c1:=sl_1 (tdD p)
 have ln:∀dl m,loopD (gNm 5) (zib (zh k)) [] dl m = .nx dl m:=fun _ _=>rfl
 have i0:ixD (.tup [tdD p]) (.int 0)=some (tdD p):=rfl
 rw[et]
 generalize pgD (.node (.tg false t) [p])=R at *
 generalize pgD p=P at *
 generalize tdD p=T at *
 generalize S t=N at *
 simp[-zk,zh,zbb,c1,i0,ln,e,ih,b1,ek,t0,t1,t2,t3,q0,q1,q2,q3,q4,q5]
theorem zqbb {k:Nat} {c:Nat} {p:Pg} (hc:z7d c=true) (h1:nms p=[c]) (h2:rowN p = .non) (m:Mem) (ih:zh k [.d (tdD p)] m = .ok (.d (pgD p)) m) (h:POk (.node (.each c) [p])):zh (k+1) [.d (tdD (.node (.each c) [p]))] m = .ok (.d (pgD (.node (.each c) [p]))) m:=by
 have e:=zjjb hc h1 h2 h m
 have et:tdD (.node (.each c) [p]) = .tup [.str "each",.str (S [c]),.tup [tdD p]]:=zud _ _
 have t0:inTD (.str "each") (.tup [.str "fixed",.str "hole"])=some (.bl false):=znb "each" ["fixed", "hole"]
 have t1:inTD (.str "each") (.tup [.str "in",.str "out"])=some (.bl false):=znb "each" ["in", "out"]
 have t2:inTD (.str "each") (.tup [.str "first",.str "rest",.str "flush"])=some (.bl false):=znb "each" ["first", "rest", "flush"]
 have t3:inTD (.str "each") (.tup [.str "tag",.str "raw"])=some (.bl false):=znb "each" ["tag", "raw"]
 have q0:eqD (.str "each") (.str "in")=some (.bl false):=zk _ _
 have q1:eqD (.str "each") (.str "flush")=some (.bl false):=zk _ _
 have q2:eqD (.str "each") (.str "first")=some (.bl false):=zk _ _
 have q3:eqD (.str "each") (.str "tag")=some (.bl false):=zk _ _
 have q4:eqD (.str "each") (.str "dedent")=some (.bl false):=zk _ _
 have q5:eqD (.str "each") (.str "each")=some (.bl true):=zk _ _
 have c1:=sl_1 (tdD p)
 have ln:∀dl m,loopD (gNm 5) (zib (zh k)) [] dl m = .nx dl m:=fun _ _=>rfl
 have i0:ixD (.tup [tdD p]) (.int 0)=some (tdD p):=rfl
 rw[et]
 generalize pgD (.node (.each c) [p])=R at *
 generalize pgD p=P at *
 generalize tdD p=T at *
 generalize S [c]=N at *
 simp[-zk,zh,zbb,c1,i0,ln,e,ih,t0,t1,t2,t3,q0,q1,q2,q3,q4,q5]
theorem zteb {k:Nat} {ls:List (List Nat)} (g:lokB (.fixed ls) []) (m:Mem):zh (k+1) [.d (tdD (.node (.fixed ls) []))] m = .ok (.d (pgD (.node (.fixed ls) []))) m:=by
 have e:=zf9 g m
 have ej:joinD (.str (S [10])) [.tup (lnD ls)]=some (.str (S (ybb [10] ls))):=zn2 rfl (fun y hy=>by
  obtain⟨r,hr,rfl⟩:=g.2.2.2 y hy
  have:=hr.len
  omega) (by have:=g.2.2.1;omega) (by simp)
 have et:tdD (.node (.fixed ls) []) = .tup [.str "fixed",.tup (lnD ls),.tup []]:=zud _ _
 have t0:inTD (.str "fixed") (.tup [.str "fixed",.str "hole"])=some (.bl true):=znb "fixed" ["fixed", "hole"]
 have q0:eqD (.str "fixed") (.str "fixed")=some (.bl true):=zk _ _
 have enl:Str.ofString "\n" = S [10]:=by decide
 rw[et]
 generalize pgD (.node (.fixed ls) [])=R at *
 generalize ybb [10] ls=C at *
 generalize lnD ls=L at *
 simp[-zk,zh,zbb,t0,q0,enl,ej,e]
theorem zpbb {k c:Nat} (hc:z7d c=true) (m:Mem):zh (k+1) [.d (tdD (.node (.hole c) []))] m = .ok (.d (pgD (.node (.hole c) []))) m:=by
 have e:=z9ib hc m
 have et:tdD (.node (.hole c) []) = .tup [.str "hole",.str (S [c]),.tup []]:=zud _ _
 have t0:inTD (.str "hole") (.tup [.str "fixed",.str "hole"])=some (.bl true):=znb "hole" ["fixed", "hole"]
 have q0:eqD (.str "hole") (.str "fixed")=some (.bl false):=zk _ _
 rw[et]
 generalize pgD (.node (.hole c) [])=R at *
 generalize S [c]=C at *
 simp[-zk,zh,zbb,t0,q0,e]
theorem sl_2 (d d2:D) (ds:List D):slD (.tup (d::d2::ds)) (some 1) none=some (.tup (d2::ds)):=by
 have e:slD (.tup (d::d2::ds)) (some 1) none=chk _ (.tup (cutD (d::d2::ds) (some 1) none)):=rfl
 rw[e,zdc (fun⟨a,_⟩=>by
  have e:HT.sIx (d::d2::ds).length 0 (some 1)=min 1 (d::d2::ds).length:=HT.sIx_nat _ 0 1
  rw[e] at a
  simp only[yw] at a
  omega),zchb]
 rfl
theorem zpeb {k:Nat} {a b:Pg} {l:List Pg} (m:Mem) (ih:∀q∈a::b::l,zh k [.d (tdD q)] m = .ok (.d (pgD q)) m) (hs:∀q∈a::b::l,isSum q.lab=false) (h:POk (.node .sum (a::b::l))):zh (k+1) [.d (tdD (.node .sum (a::b::l)))] m = .ok (.d (pgD (.node .sum (a::b::l)))) m:=by
 have et:tdD (.node .sum (a::b::l)) = .tup [.str "sum",.int 0,.tup (tdD a::tdD b::l.map tdD)]:=zud _ _
 have i1:=ih a yb
 obtain⟨x5,el⟩:=zd6 (F:=zh k) (m:=m) (some (.d (tdD (.node .sum (a::b::l))))) (some (.d (.str "sum"))) (some (.d (.int 0))) (some (.d (.tup (tdD a::tdD b::l.map tdD)))) (b::l) a [] none (fun q hq=>ih q (yd _ hq)) hs h
 have es:sumN ([a]++b::l) = .node .sum (a::b::l):=rfl
 rw[es] at el
 have e0:sumN [a]=a:=rfl
 rw[e0] at el
 have em:(b::l).map tdD=tdD b::l.map tdD:=rfl
 rw[em] at el
 have c1:=sl_2 (tdD a) (tdD b) (l.map tdD)
 have i0:ixD (.tup (tdD a::tdD b::l.map tdD)) (.int 0)=some (tdD a):=by
  show atI (tdD a::tdD b::l.map tdD) ((0:Nat):Int)=_
  rw[DL.atI_nat]
  rfl
 have t0:inTD (.str "sum") (.tup [.str "fixed",.str "hole"])=some (.bl false):=znb "sum" ["fixed", "hole"]
 have t1:inTD (.str "sum") (.tup [.str "in",.str "out"])=some (.bl false):=znb "sum" ["in", "out"]
 have t2:inTD (.str "sum") (.tup [.str "first",.str "rest",.str "flush"])=some (.bl false):=znb "sum" ["first", "rest", "flush"]
 have t3:inTD (.str "sum") (.tup [.str "tag",.str "raw"])=some (.bl false):=znb "sum" ["tag", "raw"]
 have q0:eqD (.str "sum") (.str "dedent")=some (.bl false):=zk _ _
 have q1:eqD (.str "sum") (.str "each")=some (.bl false):=zk _ _
 rw[et] at el ⊢
 generalize pgD (.node .sum (a::b::l))=R at *
 generalize pgD a=PA at *
 generalize tdD a=TA at *
 generalize tdD b=TB at *
 generalize l.map tdD=TL0 at *
 simp[-zk,zh,zbb,c1,i0,i1,el,t0,t1,t2,t3,q0,q1]
theorem zfcb:∀(n:Nat) (p:Pg),dep p≤n→POk p→GoodB p→∀m:Mem,zh n [.d (tdD p)] m = .ok (.d (pgD p)) m
 | 0,p,h,_,_,_=>by have:=zjdb p;omega
 |n+1,.node l ms,h,o,g,m=>by
  have ih:∀q∈ms,zh n [.d (tdD q)] m = .ok (.d (pgD q)) m:=fun q hq=>zfcb n q (by have:=z9gb (p:=.node l ms) (q:=q) hq;omega) (o.sub (q:=q) hq) (g.sub (q:=q) hq) m
  have g0:lokB l ms:=g.here
  cases l with
  |fixed ls=>
   obtain⟨rfl,g1⟩:=g0
   exact zteb ⟨rfl,g1⟩ m
  |hole c=>
   obtain⟨rfl,g1⟩:=g0
   exact zpbb g1 m
  |each c=>
   obtain⟨hc,q,rfl,h1,h2⟩:=g0
   exact zqbb hc h1 h2 m (ih q (by simp)) o
  |sum=>
   obtain⟨h2,hs⟩:=g0
   match ms,h2 with
   |a::b::l,_=>exact zpeb m ih hs o
  |sh w k=>
   obtain⟨hk,q,rfl⟩:=g0
   cases w with
   |in_=>exact z6hb hk m (ih q (by simp)) o
   |out=>exact zreb hk m (ih q (by simp)) o
   |first=>exact zbab hk m (ih q (by simp)) o
   |rest=>exact zobb hk m (ih q (by simp)) o
  |ded=>
   obtain⟨q,rfl⟩:=g0
   exact zueb m (ih q (by simp)) o
  |flu=>
   obtain⟨q,rfl⟩:=g0
   exact zseb m (ih q (by simp)) o
  |tg b t=>
   obtain⟨ht,q,rfl⟩:=g0
   cases b with
   |true=>exact zoeb ht m (ih q (by simp)) o
   |false=>exact zqeb ht m (ih q (by simp)) o
theorem znt {p:Pg} (h:dep p≤24) (o:POk p) (g:GoodB p) (m:Mem):zxb [.d (tdD p)] m = .ok (.d (pgD p)) m:=zfcb 24 p h o g m
end LK
namespace LK
open PySem PySem.Spec L2 DL TM SX NT PG
open PyProof.Rows (sortedS risingS)
theorem zxbb (p:Pg) (m:Mem):propW "Program" zog (.d (pgD p)) m = .ok (.d (.int (size p:Int))) m:=by
 refine z5hb ?_
 have:=zc7 p
 generalize pgD p=P at *
 simp[zog,zkl,z1i,this]
/-- part k -/
theorem at_ok {p q:Pg} {k:Nat} (h:size p≤23) (hk:(parts p)[k]?=some q) (m:Mem):zdm [.d (pgD p),.d (.int (k:Int))] m = .ok (.d (pgD q)) m:=by
 have e1:=z8l h m
 have hp:=zxbb p m
 have hlt:k<size p:=by rw[←PG.zeg];exact (yc.mp hk).1
 have g1:(0:Int)≤(k:Int):=by omega
 have g2:(k:Int)<(size p:Int):=by omega
 have ix:ixD (.lst ((parts p).map pgD)) (.int (k:Int))=some (pgD q):=by
  show atI _ (k:Int)=_
  rw[DL.atI_nat,yjb,hk]
  rfl
 generalize (parts p).map pgD=pp at *
 generalize pgD q=Q at *
 generalize pgD p=P at *
 generalize (k:Int)=K0 at *
 generalize (size p:Int)=Z at *
 simp[zdm,z6p,ztm,zwn,zkk,isfT,hp,g1,g2,e1,ix]
theorem zcmb {α : Type} [DecidableEq α] {enc : α → D} {ok : α → Prop} {k:Nat} (c:Cmp enc ok k) (hk:k≤60) {a b : α} (ha:ok a) (hb:ok b) (hn:neD (enc a) (enc b)=neP (enc a) (enc b)):neD (enc a) (enc b)=some (.bl (!decide (a=b))):=by
 obtain⟨p,h1,h2,h3⟩:=c.h a ha
 obtain⟨q,h4,h5,h6⟩:=c.h b hb
 have hp:SeqAt.shaped p=true:=by
  unfold SeqAt.shaped
  rw[h2,decide_eq_true (show p.depth≤64 by omega)]
  rfl
 have hq:SeqAt.shaped q=true:=by
  unfold SeqAt.shaped
  rw[h5,decide_eq_true (show q.depth≤64 by omega)]
  rfl
 rw[hn]
 unfold neP
 rw[h1,h4]
 simp only[]
 rw[zdc ⟨hp,hq⟩,c.e a b p q ha hb h1 h4]
end LK
namespace LK
open PySem PySem.Spec L2 DL TM SX NT PG
noncomputable instance decPg:DecidableEq Pg:=fun a b=>Classical.propDecidable (a=b)
theorem zjgb (l:Lab):∀c∈tc l,c<128:=by
 intro c hc
 cases l with
 |sh w n=>cases w <;> (simp[tc] at hc;omega)
 |tg h t=>cases h <;> (simp[tc] at hc;omega)
 |_=>simp[tc] at hc;omega
theorem z9u {c:Nat} (h:z7d c=true):c<128:=by
 unfold z7d at h
 simp at h
 omega
theorem zrhb {t:List Nat} (h:isTag t=true):∀c∈t,c<128:=by
 unfold isTag at h
 simp at h
 intro c hc
 exact z9u (h.2 c hc)
theorem zmcb {x:List Nat} (h:LineB x):∀c∈x,c<128:=fun c hc=>by
 obtain⟨r,hr,rfl⟩:=h
 have:=(hr.chr c hc).2
 omega
/-- what the words of a label are -/
def L128:Lab→Prop
 |.fixed ls=>∀x∈ls,∀c∈x,c<128
 |.hole c=>c<128
 |.each c=>c<128
 |.tg _ t=>∀c∈t,c<128
 |_=>True
theorem zxx {l:Lab} {ms:List Pg} (h:lokB l ms):L128 l:=by
 cases l with
 |fixed ls=>exact fun x hx=>zmcb (h.2.2.2 x hx)
 |hole c=>exact z9u h.2
 |each c=>exact z9u h.1
 |tg a t=>exact zrhb h.1
 |_=>trivial
theorem zjcb:∀{a b:List (List Nat)},lnD a=lnD b→a=b
 |[],[],_=>rfl
 |[],_::_,h=>by cases h
 |_::_,[],h=>by cases h
 |x::a,y::b,h=>by
  unfold lnD at h
  rw[yr,yr] at h
  injection h with h1 h2
  injection h1 with h1
  rw[zsu h1,zjcb (a:=a) (b:=b) h2]
def isFix:Lab→Bool
 |.fixed _=>true
 |_=>false
theorem w_fix:∀l:Lab,decide (l.w = "fixed")=isFix l
 |.fixed _=>(by decide:decide (Str.ofString "fixed" = Str.ofString "fixed")=true)
 |.hole _=>(by decide:decide (Str.ofString "hole" = Str.ofString "fixed")=false)
 |.each _=>(by decide:decide (Str.ofString "each" = Str.ofString "fixed")=false)
 |.sum=>(by decide:decide (Str.ofString "sum" = Str.ofString "fixed")=false)
 |.sh .in_ _=>(by decide:decide (Str.ofString "in" = Str.ofString "fixed")=false)
 |.sh .out _=>(by decide:decide (Str.ofString "out" = Str.ofString "fixed")=false)
 |.sh .first _=>(by decide:decide (Str.ofString "first" = Str.ofString "fixed")=false)
 |.sh .rest _=>(by decide:decide (Str.ofString "rest" = Str.ofString "fixed")=false)
 |.ded=>(by decide:decide (Str.ofString "dedent" = Str.ofString "fixed")=false)
 |.flu=>(by decide:decide (Str.ofString "flush" = Str.ofString "fixed")=false)
 |.tg true _=>(by decide:decide (Str.ofString "tag" = Str.ofString "fixed")=false)
 |.tg false _=>(by decide:decide (Str.ofString "raw" = Str.ofString "fixed")=false)
def oS:Option (List Nat)→D
 |none=>.non
 |some w=>.str (S w)
theorem zehb (k:Nat):Cmp oS (fun o=>∀w,o=some w→∀c∈w,c<128) k:=by
 refine⟨fun a h=>?_,fun a b p q _ _ hp hq=>?_⟩
 ·cases a with
  |none=>exact Lay.non k
  |some w=>exact Lay.str k (h w rfl)
 ·cases a with
  |none=>
   cases hp
   cases b with
   |none=>cases hq;rfl
   |some j=>cases hq;rfl
  |some i=>
   cases hp
   cases b with
   |none=>cases hq;rfl
   |some j=>
    cases hq
    show decide _=_
    by_cases h:i=j
    ·subst h;simp
    ·rw[decide_eq_false (fun z=>h (zsu z)),decide_eq_false (by simpa using h)]
theorem z4fb {α β γ δ : Type} [DecidableEq α] [DecidableEq β] [DecidableEq γ] [DecidableEq δ] {ea : α → D} {eb : β → D} {ec : γ → D} {ed : δ → D} {oa : α → Prop} {ob : β → Prop} {oc : γ → Prop} {od : δ → Prop} {k:Nat}
  (ca:Cmp ea oa k) (cb:Cmp eb ob k) (cc:Cmp ec oc k) (cd:Cmp ed od k):Cmp (fun p : α × β × γ × δ => .tup [ea p.1,eb p.2.1,ec p.2.2.1,ed p.2.2.2]) (fun p=>oa p.1∧ob p.2.1∧oc p.2.2.1∧od p.2.2.2) (k+1):=by
 refine⟨fun a h=>Lay.tup (fun d hd=>?_),fun a b p q ha hb hp hq=>?_⟩
 ·simp only[yo,y9b,or_false] at hd
  rcases hd with rfl |rfl |rfl |rfl
  ·exact ca.h _ h.1
  ·exact cb.h _ h.2.1
  ·exact cc.h _ h.2.2.1
  ·exact cd.h _ h.2.2.2
 ·obtain⟨p1,h1,_⟩:=ca.h a.1 ha.1
  obtain⟨p2,h2,_⟩:=cb.h a.2.1 ha.2.1
  obtain⟨p3,h3,_⟩:=cc.h a.2.2.1 ha.2.2.1
  obtain⟨p4,h4,_⟩:=cd.h a.2.2.2 ha.2.2.2
  obtain⟨q1,g1,_⟩:=ca.h b.1 hb.1
  obtain⟨q2,g2,_⟩:=cb.h b.2.1 hb.2.1
  obtain⟨q3,g3,_⟩:=cc.h b.2.2.1 hb.2.2.1
  obtain⟨q4,g4,_⟩:=cd.h b.2.2.2 hb.2.2.2
  simp only[toP,toPs,h1,h2,h3,h4] at hp
  simp only[toP,toPs,g1,g2,g3,g4] at hq
  cases hp
  cases hq
  rw[PyData.eqv,PyData.eqvAll,PyData.eqvAll,PyData.eqvAll,PyData.eqvAll,PyData.eqvAll,ca.e _ _ _ _ ha.1 hb.1 h1 g1,cb.e _ _ _ _ ha.2.1 hb.2.1 h2 g2,cc.e _ _ _ _ ha.2.2.1 hb.2.2.1 h3 g3,cd.e _ _ _ _ ha.2.2.2 hb.2.2.2 h4 g4]
  obtain⟨a1,a2,a3,a4⟩:=a
  obtain⟨b1,b2,b3,b4⟩:=b
  by_cases e1:a1=b1 <;> by_cases e2:a2=b2 <;> by_cases e3:a3=b3 <;> by_cases e4:a4=b4 <;> simp[e1,e2,e3,e4]
/-- what a label holds, but for a block -/
def nmO:Lab→Option (List Nat)
 |.hole c=>some [c]
 |.each c=>some [c]
 |_=>none
def amO:Lab→Option Nat
 |.sh _ n=>some n
 |_=>none
def tgO:Lab→Option (List Nat)
 |.tg _ t=>some t
 |_=>none
theorem nm_O (l:Lab):nmD l=oS (nmO l):=by cases l <;> rfl
theorem am_O (l:Lab):amD l=oN (amO l):=by cases l <;> rfl
theorem tg_O (l:Lab):tgD l=oS (tgO l):=by cases l <;> rfl
def kO (l:Lab):List Nat × Option (List Nat) × Option Nat × Option (List Nat):=(tc l,nmO l,amO l,tgO l)
/-- labels from what they hold -/
theorem zilb {l l':Lab} (h:kO l=kO l') (hb:bkD l=bkD l'):(∃ls ls',l = .fixed ls∧l' = .fixed ls'∧blkD ls=blkD ls')∨(isFix l=false∧l=l'):=by
 unfold kO at h
 injection h with h1 h
 injection h with h2 h
 injection h with h3 h4
 cases l with
 |fixed ls=>
  cases l' with
  |fixed ls'=>exact .inl ⟨ls,ls',rfl,rfl,hb⟩
  |sh w n=>cases w <;> (unfold tc at h1;simp at h1)
  |tg a t=>cases a <;> (unfold tc at h1;simp at h1)
  |_=>unfold tc at h1;simp at h1
 |sh w n=>
  right
  cases l' with
  |sh w' n'=>
   injection h3 with h3
   subst h3
   cases w <;> cases w' <;> first |exact⟨rfl,rfl⟩ |(unfold tc at h1;simp at h1)
  |_=>cases h3
 |tg a t=>
  right
  cases l' with
  |tg a' t'=>
   injection h4 with h4
   subst h4
   cases a <;> cases a' <;> first |exact⟨rfl,rfl⟩ |(unfold tc at h1;simp at h1)
  |_=>cases h4
 |hole c=>
  right
  cases l' with
  |hole c'=>
   injection h2 with h2
   injection h2 with h2 _
   subst h2
   exact⟨rfl,rfl⟩
  |each c'=>unfold tc at h1;simp at h1
  |_=>cases h2
 |each c=>
  right
  cases l' with
  |each c'=>
   injection h2 with h2
   injection h2 with h2 _
   subst h2
   exact⟨rfl,rfl⟩
  |hole c'=>unfold tc at h1;simp at h1
  |_=>cases h2
 |sum=>
  right
  cases l' with
  |sum=>exact⟨rfl,rfl⟩
  |sh w n=>cases h3
  |tg a t=>cases h4
  |_=>unfold tc at h1;simp at h1
 |ded=>
  right
  cases l' with
  |ded=>exact⟨rfl,rfl⟩
  |sh w n=>cases h3
  |tg a t=>cases h4
  |_=>unfold tc at h1;simp at h1
 |flu=>
  right
  cases l' with
  |flu=>exact⟨rfl,rfl⟩
  |sh w n=>cases h3
  |tg a t=>cases h4
  |_=>unfold tc at h1;simp at h1
theorem z7fb {a b:List (List Nat)} (h:blkD a=blkD b):a=b:=by
 unfold blkD at h
 injection h with _ _ h
 injection h with h _
 injection h with h
 exact zjcb h
theorem zjlb {l l':Lab} (h:kO l=kO l') (hb:bkD l=bkD l'):l=l':=by
 rcases zilb h hb with ⟨ls,ls',rfl,rfl,e⟩ |⟨_,e⟩
 ·rw[z7fb e]
 ·exact e
theorem zhcb (F:DF):look [("Block",zeb),("Program",F)] ("Program" : Str)=some F:=by
 have h:¬(Str.ofString "Block" = Str.ofString "Program"):=by decide
 unfold look
 rw[if_neg h,zwx]
theorem z7gb {F:DF} {p q:Pg} {b neg:Bool} {m:Mem} (h:F [.d (pgD p),.d (pgD q)] m = .ok (.d (.bl b)) m):eqoW bopTs [("Block",zeb),("Program",F)] neg (.d (pgD p)) (.d (pgD q)) m = .ok (.d (.bl (if neg then !b else b))) m:=by
 have ht:tagIn bopTs "Program" (tagOf (.d (pgD q)) m)=true:=by
  rw[z7h]
  unfold obD tagOf
  simp[tagIn]
 have e:∀C ns ds,pgD p = .obj C ns ds→C=("Program" : Str):=fun C ns ds h=>by
  rw[z7h] at h
  injection h with h1
  exact h1.symm
 obtain⟨ns,ds,hd⟩:∃ns ds,pgD p = .obj "Program" ns ds:=⟨_,_,z7h p⟩
 rw[hd] at h ⊢
 rw[z6t,zhcb]
 dsimp only
 rw[if_pos ht,h]
 cases neg <;> rfl
theorem zemb {ls ls':List (List Nat)} (h:∀x∈ls,∀c∈x,c<128) (h':∀x∈ls',∀c∈x,c<128) (m:Mem):zeb [.d (blkD ls),.d (blkD ls')] m = .ok (.d (.bl (decide (ls=ls')))) m:=by
 have e2:eqD (.lst (lnD ls)) (.lst (lnD ls'))=some (.bl (decide (ls=ls'))):=(Cmp.str 0).eqL (by decide) h h'
 generalize decide (ls=ls')=b at *
 unfold blkD
 generalize lnD ls=L at *
 generalize lnD ls'=L' at *
 simp[zeb,zxm,z4j,zue,isfT,e2]
theorem zhjb {F:DF} {ls ls':List (List Nat)} (h:∀x∈ls,∀c∈x,c<128) (h':∀x∈ls',∀c∈x,c<128) (m:Mem):eqoW bopTs [("Block",zeb),("Program",F)] false (.d (blkD ls)) (.d (blkD ls')) m = .ok (.d (.bl (decide (ls=ls')))) m:=by
 have e:=zemb h h' m
 have ht:tagIn bopTs "Block" (tagOf (.d (blkD ls')) m)=true:=by
  unfold blkD tagOf
  simp[tagIn]
 unfold blkD at e ht ⊢
 rw[z6t,zwx]
 dsimp only
 rw[if_pos ht,e]
 rfl
theorem z0gb {l l':Lab} (h:kO l=kO l') (hf:isFix l=true):isFix l'=true:=by
 unfold kO at h
 injection h with h1 _
 cases l with
 |fixed ls=>
  cases l' with
  |fixed ls'=>rfl
  |sh w n=>cases w <;> (unfold tc at h1;simp at h1)
  |tg a t=>cases a <;> (unfold tc at h1;simp at h1)
  |_=>unfold tc at h1;simp at h1
 |_=>cases hf
theorem zhhb {as bs:List Pg} (h:as.length=bs.length):zipD (as.map pgD) (bs.map pgD)=(as.zip bs).map fun q=>.tup [pgD q.1,pgD q.2]:=by
 unfold zipD
 rw[List.zip_map,y6]
 rfl
theorem zrgb {l:Lab} (h:L128 l):∀w,nmO l=some w→∀c∈w,c<128:=by
 cases l with
 |hole a=>intro w e c hc;cases e;rw[yj.mp hc];exact h
 |each a=>intro w e c hc;cases e;rw[yj.mp hc];exact h
 |_=>intro w e;cases e
theorem zigb {l:Lab} (h:L128 l):∀w,tgO l=some w→∀c∈w,c<128:=by
 cases l with
 |tg a t=>intro w e c hc;cases e;exact h c hc
 |_=>intro w e;cases e
theorem z3kb {l l':Lab} (h:L128 l) (h':L128 l'):neD (.tup [.str l.w,nmD l,amD l,tgD l]) (.tup [.str l'.w,nmD l',amD l',tgD l'])=some (.bl (!decide (kO l=kO l'))):=by
 have c:=z4fb (Cmp.str 0) (zehb 0) (Cmp.oN 0) (zehb 0)
 have e:=zcmb c (by decide) (a:=kO l) (b:=kO l') ⟨zjgb l,zrgb h,trivial,zigb h⟩ ⟨zjgb l',zrgb h',trivial,zigb h'⟩ rfl
 rw[tc_w,tc_w,nm_O,nm_O,am_O,am_O,tg_O,tg_O]
 exact e
theorem zwkb {p q:Pg}:p=q↔p.lab=q.lab∧p.ms=q.ms:=by
 cases p;cases q
 exact⟨fun e=>by injection e with a b;exact⟨a,b⟩,fun⟨a,b⟩=>by
  have a:_=_:=a
  have b:_=_:=b
  simp only[Pg.lab,Pg.ms] at a b
  rw[a,b]⟩
theorem z7bb:∀{as bs:List Pg},as.length=bs.length→(decide (as=bs))=((as.zip bs).map fun q=>decide (q.1=q.2)).all id
 |[],[],_=>rfl
 |[],_::_,h=>by cases h
 |_::_,[],h=>by cases h
 |a::as,b::bs,h=>by
  have ih:=z7bb (as:=as) (bs:=bs) (by simpa using h)
  have e:(((a::as).zip (b::bs)).map fun q=>decide (q.1=q.2)).all id=(decide (a=b)&&((as.zip bs).map fun q=>decide (q.1=q.2)).all id):=by
   rw[List.zip_cons_cons,yr,List.all_cons]
   rfl
  rw[e,←ih]
  by_cases h1:a=b <;> by_cases h2:as=bs <;> simp[h1,h2]
theorem ztgb (p:Pg):p.ms.length<size p:=zqib p
theorem t_fix (l:Lab):eqD (.str l.w) (.str "fixed")=some (.bl (isFix l)):=by rw[zk,w_fix]
theorem eq_n:∀(n:Nat) (p q:Pg),size p<n→size p≤30→GoodB p→size q≤30→GoodB q→∀m:Mem,z9 n [.d (pgD p),.d (pgD q)] m = .ok (.d (.bl (decide (p=q)))) m
 | 0,p,q,h,_,_,_,_,m=>absurd h (Nat.not_lt_zero _)
 |n+1,p,q,h,hp,gp,hq,gq,m=>by
  have hs:=@zwkb p q
  have hk:=z3kb (zxx gp.here) (zxx gq.here)
  have t1:=t_fix p.lab
  have ew:=zhs p
  have en:=zw2 p
  have ea:=z84 p
  have et:=z5gb p
  have eb:=za9 p
  have em:=z1q p
  have ew':=zhs q
  have en':=zw2 q
  have ea':=z84 q
  have et':=z5gb q
  have eb':=za9 q
  have em':=z1q q
  have hlp:=ztgb p
  have hlq:=ztgb q
  have hzp:=hp
  have hzq:=hq
  have hi:(isiW (isfT zwd) (.d (pgD q)) m) = .ok (.d (.bl true)) m:=by
   have e:=z93 q
   have n:¬(Str.ofString "Block" = Str.ofString "Program"):=by decide
   generalize pgD q=Q at *
   simp[isfT,zwd,e,n]
  by_cases h1:kO p.lab=kO q.lab
  ·rw[decide_eq_true h1] at hk
   cases hf:isFix p.lab with
   |true=>
    have hf':=z0gb h1 hf
    obtain⟨ls,hls⟩:∃ls,p.lab = .fixed ls:=by
     cases hL:p.lab with
     |fixed ls=>exact⟨ls,rfl⟩
     |_=>rw[hL] at hf;cases hf
    obtain⟨ls',hls'⟩:∃ls',q.lab = .fixed ls':=by
     cases hL:q.lab with
     |fixed ls=>exact⟨ls,rfl⟩
     |_=>rw[hL] at hf';cases hf'
    have h0:=gp.here
    have h0':=gq.here
    rw[hls] at h0
    rw[hls'] at h0'
    have hbb:=zhjb (F:=z9 n) (zxx h0) (zxx h0') m
    have hres:decide (p=q)=decide (ls=ls'):=by
     rw[decide_eq_decide,hs,h0.1,h0'.1,hls,hls']
     constructor
     ·intro ⟨a,_⟩
      injection a
     ·intro a
      exact⟨by rw[a],rfl⟩
    rw[hres]
    rw[hf] at t1
    have eb:fldD ["Program"] "block" (pgD p)=some (blkD ls):=by rw[eb,hls];rfl
    have eb':fldD ["Program"] "block" (pgD q)=some (blkD ls'):=by rw[eb',hls'];rfl
    generalize decide (ls=ls')=bb at *
    generalize blkD ls=B at *
    generalize blkD ls'=B' at *
    generalize pgD p=P at *
    generalize pgD q=Q at *
    generalize p.lab.w=w at *
    generalize nmD p.lab=nm at *
    generalize amD p.lab=am at *
    generalize tgD p.lab=tg at *
    generalize q.lab.w=w' at *
    generalize nmD q.lab=nm' at *
    generalize amD q.lab=am' at *
    generalize tgD q.lab=tg' at *
    simp[-zk,-zcp,z9,zae,hi,ew,en,ea,et,ew',en',ea',et',hk,t1,eb,eb',hbb]
   |false=>
    have hl:p.lab=q.lab:=by
     refine zjlb h1 ?_
     have hf':isFix q.lab=false:=by
      cases hq:isFix q.lab with
      |false=>rfl
      |true=>have:=z0gb h1.symm hq;rw[hf] at this;cases this
     have z:∀l:Lab,isFix l=false→bkD l = .non:=fun l h=>by cases l <;> first |rfl |cases h
     rw[z _ hf,z _ hf']
    rw[hf] at t1
    by_cases h2:p.ms.length=q.ms.length
    ·have hres:decide (p=q)=decide (p.ms=q.ms):=by
      rw[decide_eq_decide,hs]
      exact⟨fun h=>h.2,fun h=>⟨hl,h⟩⟩
     rw[hres,z7bb h2]
     have ec:=fun (x2:Option W)=>zpk (m:=m) (g:=gTp 2 (zve (gNm 3) (zve (gNm 4) gNil_))) (e:=z2h (z9 n)) (wd:=[some (.d (pgD p)),some (.d (pgD q)),x2,none,none]) (enc:=fun z:Pg × Pg=>D.tup [pgD z.1,pgD z.2]) (dec:=fun z=>D.bl (decide (z.1=z.2))) (p.ms.zip q.ms) (fun z hz=>⟨_,rfl,by
      obtain⟨a,b⟩:=z
      have hz:=List.of_mem_zip hz
      have ih:=eq_n n a b (by have:=z0r hz.1;omega) (by have:=z0r hz.1;omega) (gp.sub hz.1) (by have:=z0r hz.2;omega) (gq.sub hz.2) m
      have e:=z7gb (neg:=false) ih
      dsimp only
      generalize pgD a=A at *
      generalize pgD b=B at *
      generalize pgD p=P at *
      generalize pgD q=Q at *
      generalize decide (a=b)=bb at *
      simp[-z6t,z2h,e]⟩) (by rw[List.length_zip];unfold sizeLine;omega)
     have ez:=zhhb h2
     rw[←ez] at ec
     have eA:allD [.lst ((p.ms.zip q.ms).map fun z=>D.bl (decide (z.1=z.2)))]=some (.bl (((p.ms.zip q.ms).map fun q=>decide (q.1=q.2)).all id)):=by
      have:((p.ms.zip q.ms).map fun z=>D.bl (decide (z.1=z.2)))=((p.ms.zip q.ms).map fun z=>decide (z.1=z.2)).map D.bl:=by rw[y6];rfl
      rw[this]
      unfold allD lstD
      simp only[]
      rw[za6]
     have hlen:neD (.int (((p.ms.map pgD).length:Nat):Int)) (.int (((q.ms.map pgD).length:Nat):Int))=some (.bl false):=by
      rw[z4bb,ye,ye,h2]
      simp
     generalize (((p.ms.zip q.ms).map fun q=>decide (q.1=q.2)).all id)=bb at *
     generalize ((p.ms.zip q.ms).map fun z=>D.bl (decide (z.1=z.2)))=R at *
     generalize p.ms.map pgD=ms at *
     generalize q.ms.map pgD=ms' at *
     have zw:zipW [.d (.tup ms),.d (.tup ms')] m = .ok (zipD ms ms') m:=rfl
     generalize zipD ms ms'=Z at *
     generalize pgD p=P at *
     generalize pgD q=Q at *
     generalize p.lab.w=w at *
     generalize nmD p.lab=nm at *
     generalize amD p.lab=am at *
     generalize tgD p.lab=tg at *
     generalize q.lab.w=w' at *
     generalize nmD q.lab=nm' at *
     generalize amD q.lab=am' at *
     generalize tgD q.lab=tg' at *
     simp[-zk,-zcp,z9,zae,hi,ew,en,ea,et,ew',en',ea',et',hk,t1,em,em',hlen,zw,ec,eA]
    ·have hres:decide (p=q)=false:=by
      rw[decide_eq_false_iff_not,hs]
      intro ⟨_,b⟩
      exact h2 (congrArg List.length b)
     rw[hres]
     have hlen:neD (.int (((p.ms.map pgD).length:Nat):Int)) (.int (((q.ms.map pgD).length:Nat):Int))=some (.bl true):=by
      rw[z4bb,ye,ye]
      have:¬((p.ms.length:Int)=(q.ms.length:Int)):=by omega
      simp[this]
     generalize p.ms.map pgD=ms at *
     generalize q.ms.map pgD=ms' at *
     generalize pgD p=P at *
     generalize pgD q=Q at *
     generalize p.lab.w=w at *
     generalize nmD p.lab=nm at *
     generalize amD p.lab=am at *
     generalize tgD p.lab=tg at *
     generalize q.lab.w=w' at *
     generalize nmD q.lab=nm' at *
     generalize amD q.lab=am' at *
     generalize tgD q.lab=tg' at *
     simp[-zk,-zcp,z9,zae,hi,ew,en,ea,et,ew',en',ea',et',hk,t1,em,em',hlen]
  ·have hres:decide (p=q)=false:=by
    rw[decide_eq_false_iff_not,hs]
    intro ⟨a,_⟩
    exact h1 (by rw[a])
   rw[hres]
   rw[decide_eq_false h1] at hk
   generalize pgD p=P at *
   generalize pgD q=Q at *
   generalize p.lab.w=w at *
   generalize nmD p.lab=nm at *
   generalize amD p.lab=am at *
   generalize tgD p.lab=tg at *
   generalize q.lab.w=w' at *
   generalize nmD q.lab=nm' at *
   generalize amD q.lab=am' at *
   generalize tgD q.lab=tg' at *
   simp[-zk,-zcp,z9,zae,hi,ew,en,ea,et,ew',en',ea',et',hk]
theorem zogb {p q:Pg} (hp:size p≤20) (gp:GoodB p) (hq:size q≤20) (gq:GoodB q) (neg:Bool) (m:Mem):eqoW bopTs [("Block",zeb),("Program",zsb)] neg (.d (pgD p)) (.d (pgD q)) m = .ok (.d (.bl (if neg then !decide (p=q) else decide (p=q)))) m:=
 z7gb (eq_n 24 p q (by omega) (by omega) gp (by omega) gq m)
end LK
namespace LK
open PySem PySem.Spec L2 DL TM SX
theorem zx4 {x:D} (h:Plain x) (m:Mem):z6e [.d x] m = .ok (.d (.bl (intIn x 21))) m:=by
 simp[z6e,z9n,znk,zds h]
/-- a row moved -/
def mvR (n:Int) (r:Row):Row:=if 0≤r.1 then (r.1+n,r.2) else r
theorem mv_up {B L:Nat} {r:Row} (h:RowIn B L r) {n:Int} (hn:0≤n):(if zm r=[] then zm r else yn n.toNat 32++zm r)=zm (mvR n r):=by
 by_cases hb:r.1 = -1
 ·rw[if_pos (h.nil.mpr hb)]
  unfold mvR
  rw[if_neg (by omega)]
 ·have h0:0≤r.1:=by have:=h.t;omega
  rw[if_neg (fun z=>hb (h.nil.mp z))]
  unfold mvR zm
  rw[if_pos h0]
  show _=yn (r.1+n).toNat 32++r.2
  rw[←y3b,List.replicate_append_replicate]
  congr 2
  omega
theorem znib {B L:Nat} {r:Row} (h:RowIn B L r) {n:Int} (hn:n<0) (hm:0≤r.1→0≤r.1+n):(if zm r=[] then zm r else (zm r).drop (-n).toNat)=zm (mvR n r):=by
 by_cases hb:r.1 = -1
 ·rw[if_pos (h.nil.mpr hb)]
  unfold mvR
  rw[if_neg (by omega)]
 ·have h0:0≤r.1:=by have:=h.t;omega
  have h1:=hm h0
  rw[if_neg (fun z=>hb (h.nil.mp z))]
  unfold mvR zm
  rw[if_pos h0]
  show _=yn (r.1+n).toNat 32++r.2
  rw[List.drop_append_of_le_length (by rw[y0b];omega),List.drop_replicate]
  congr 2
  omega
theorem z3fb {a:List Nat} {i:Int} (h:0≤i):cutS (S a) (some i) none=S (a.drop i.toNat):=by
 obtain⟨j,rfl⟩:∃j:Nat,i=(j:Int):=⟨i.toNat,by omega⟩
 unfold cutS
 rw[HT.sIx_nat,HT.sIx_none,S_len]
 show (⟨((a.drop (min j a.length)).take (a.length-min j a.length)).toArray⟩:Str)=_
 rw[ytb (by rw[ytd];exact yp _),ysb]
 unfold S
 congr 2
 by_cases hj:j≤a.length
 ·rw[Nat.min_eq_left hj]
 ·rw[Nat.min_eq_right (by omega),List.drop_eq_nil_of_le (by omega),List.drop_eq_nil_of_le (by omega)]
theorem z6eb {B L:Nat} {r:Row} (h:RowIn B L r) (hz:B+L≤100000) {n:Int} (hn:n≤100000) (hm:0≤r.1→0≤r.1+n) (m:Mem):zzd [.d (.str (S (zm r))),.d (.int n)] m = .ok (.d (.str (S (zm (mvR n r))))) m:=by
 have ht:=(h.line hz).1
 have hlen:=h.len
 by_cases hb:zm r=[]
 ·have e:zm (mvR n r)=[]:=by
   have h1:=h.nil.mp hb
   unfold mvR
   rw[if_neg (by omega)]
   exact hb
  rw[e]
  simp[-zk,zzd,zjh,zxf,e_em,eq_str,hb]
 ·by_cases h0:0≤n
  ·have e:=mv_up h h0
   rw[if_neg hb] at e
   have e1:mulD (.str (S [32])) (.int n)=some (.str (S (yn n.toNat 32))):=zsgb (by omega) (by omega)
   have e2:addD (.str (S (yn n.toNat 32))) (.str (S (zm r)))=some (.str (S (yn n.toNat 32++zm r))):=add_str (by rw[y0b];unfold sizeLine;omega)
   rw[e] at e2
   simp[-zk,zzd,zjh,zxf,e_em,e_sp,eq_str,hb,h0,e1,e2]
  ·have e:=znib h (n:=n) (by omega) hm
   rw[if_neg hb] at e
   have e1:slD (.str (S (zm r))) (some (-n)) none=some (.str (S (zm (mvR n r)))):=by
    show chk _ _=_
    rw[zdc (by rw[S_len];unfold sizeLine;omega),z3fb (by omega),e]
   simp[-zk,zzd,zjh,zxf,e_em,eq_str,hb,h0,e1]
end LK
namespace LK
open PySem PySem.Spec L2 DL TM SX NT
def hb (j:Nat):HC:=.obj "Block" ["rows"] [.h j]
def hl (ls:List (List Nat)):HC:=.lst ((lnD ls).map HW.d)
/-- a block of the heap, with its lines -/
structure HB (m:Mem) (i j:Nat) (ls:List (List Nat)):Prop where
 o:(heapOf m)[i]?=some (hb j)
 l:(heapOf m)[j]?=some (hl ls)
theorem zyib (ds:List D):(ds.map HW.d).map HW.toD=ds:=by
 rw[y6]
 exact List.map_id'' (fun _=>rfl) _
theorem z4gb (ls:List (List Nat)):(hl ls).toD = .lst (lnD ls):=by
 unfold hl
 rw[ztlb,zyib]
theorem rowsF {m:Mem} {i j:Nat} {ls:List (List Nat)} (h:HB m i j ls):fldHW ["Block"] "rows" (.h i) m = .ok (.h j) m:=by
 unfold fldHW
 simp only[h.o,hb]
 rw[if_pos (yj.mpr rfl)]
 simp[fldLH]
theorem rowsR {m:Mem} {i j:Nat} {ls:List (List Nat)} (h:HB m i j ls):W.rd (.h j) m=some (.lst (lnD ls)):=by
 rw[rd_h,h.l]
 show some (hl ls).toD=_
 rw[z4gb]
theorem blkC {m:Mem} {i j:Nat} {ls:List (List Nat)} (h:HB m i j ls):clsOf (.h i) m=some ("Block" : Str):=by
 unfold clsOf
 rw[rd_h,h.o]
 rfl
theorem ztbb {m:Mem} {i j:Nat} {ls:List (List Nat)} (h:HB m i j ls):zqb [.h i] m = .ok (.d (.tup (lnD ls))) m:=by
 have e1:=rowsF h
 have e2:=rowsR h
 have e3:liftA zxo [.h j] m = .ok (.d (.tup (lnD ls))) m:=by
  unfold liftA rdAll rdAll
  rw[e2]
  rfl
 simp[-rd_h,zqb,ztk,zii,e1,e2,e3]
theorem zu3 {g:DG} {t:DT} {e:DE} {wd:DL.Env}:∀(ds:List D) (acc acc':List D) (m m':Mem),compD g t e wd ds acc m = .ok acc' m'→compH g t e wd ds (acc.map HW.d) m = .ok (acc'.map HW.d) m'
 |[],acc,acc',m,m',h=>by
  cases h
  rfl
 |d::ds,acc,acc',m,m',h=>by
  unfold compD at h
  unfold compH
  cases h1:g (.d d) wd with
  |none=>rw[h1] at h;cases h
  |some dl1=>
   rw[h1] at h
   dsimp only at h ⊢
   cases h2:t dl1 m with
   |no=>rw[h2] at h;cases h
   |exc _ _ _ _=>rw[h2] at h;cases h
   |ok b m1=>
    rw[h2] at h
    dsimp only at h ⊢
    cases b with
    |false=>exact zu3 ds acc acc' m1 m' h
    |true=>
     dsimp only at h ⊢
     cases h3:e dl1 m1 with
     |no=>rw[h3] at h;cases h
     |exc _ _ _ _=>rw[h3] at h;cases h
     |ok w m2=>
      rw[h3] at h
      cases w with
      |c _=>cases h
      |h _=>cases h
      |ex _ _ _ _ _=>cases h
      |d y=>
       dsimp only[whw_d] at h ⊢
       rw[whw_d]
       dsimp only
       by_cases hz:acc.length<sizeLine
       ·rw[if_pos hz] at h
        rw[ye,if_pos hz]
        have:=zu3 ds (acc++[y]) acc' m2 m' h
        rw[yob] at this
        exact this
       ·rw[if_neg hz] at h
        cases h
/-- a block made of lines -/
theorem zgfb {ls:List (List Nat)} (h:∀l∈ls,Line l) (hne:ls≠[]) (hn:ls.length≤10000) (hs:List HC) (r:Mem):z1l "Block" zyd ((lnD ls).map W.d) (.hp hs::r) = .ok (.h hs.length) (.hp (hs++[hb (hs.length+1),hl (rowsOf ls)])::r):=by
 obtain⟨M,hM⟩:∃M:Mem,M = .hp (hs++[.obj "Block" [] []])::r:=⟨_,rfl⟩
 have hHM:heapOf M=hs++[.obj "Block" [] []]:=by rw[hM,zob]
 have el:∃x,loopD (gNm 2) zrf (lnD ls) [some (.h hs.length),some (.d (.tup (lnD ls))),none,none] M = .nx [some (.h hs.length),some (.d (.tup (lnD ls))),x,none] M:=by
  have:=zty (g:=gNm 2) (b:=zrf) (m:=M) (enc:=fun l=>D.str (S l)) (fun _=>false) (fun dl=>∃x,dl=[some (.h hs.length),some (.d (.tup (lnD ls))),x,none]) (fun _ _=>True) ls [some (.h hs.length),some (.d (.tup (lnD ls))),none,none] ⟨none,rfl⟩ (fun l hl dl hd=>by
   obtain⟨x,rfl⟩:=hd
   exact⟨_,rfl,(fun z=>nomatch z),fun _=>⟨_,by simp[zrf,zcv (h l hl)];rfl,_,rfl⟩⟩)
  rw[List.find?_eq_none.mpr (fun _ _=>y4)] at this
  obtain⟨dl2,e,x,rfl⟩:=this
  exact⟨x,e⟩
 obtain⟨x,el⟩:=el
 have ec:=zpk (g:=gNm 2) (e:=zfe) (wd:=[some (.h hs.length),some (.d (.tup (lnD ls))),none,none]) (m:=M) (enc:=fun l=>D.str (S l)) (dec:=fun l=>D.str (S (TM.rdw l))) ls (fun l hl=>⟨_,rfl,by simp[zfe,e_sp,z81 (h l hl).1.sz]⟩) (by unfold sizeLine;omega)
 have e5:ls.map (fun l=>D.str (S (TM.rdw l)))=lnD (ls.map TM.rdw):=by
  unfold lnD
  rw[y6]
  rfl
 rw[e5] at ec
 have ec:compD (gNm 2) bYes zfe [some (.h hs.length),some (.d (.tup (lnD ls))),none,none] (lnD ls) [] M = .ok (lnD (ls.map TM.rdw)) M:=ec
 have ech:=zu3 _ _ _ _ _ ec
 have ech:compH (gNm 2) bYes zfe [some (.h hs.length),some (.d (.tup (lnD ls))),none,none] (lnD ls) [] M = .ok ((lnD (ls.map TM.rdw)).map HW.d) M:=ech
 have e6:z5g ((lnD ls).map W.d)=some (lnD ls):=zvv _
 have e7:=ne_nil (ls:=ls.map TM.rdw) fun l hl=>by
  obtain⟨a,ha,rfl⟩:=yfb.mp hl
  exact (h a ha).1.rdw
 have hz:ls.length≤sizeLine:=by unfold sizeLine;omega
 have e8:rowsOf ls=ls.map TM.rdw:=if_neg hne
 have e7':neD (.lst (lnD (ls.map TM.rdw))) (.lst [])=some (.bl true):=by rw[e7];simp[hne]
 obtain⟨M2,hM2⟩:∃M2:Mem,M2 = .hp (hs++[.obj "Block" [] [],hl (rowsOf ls)])::r:=⟨_,rfl⟩
 have en:newH (.lst ((lnD (ls.map TM.rdw)).map HW.d)) M = .ok (.h (hs.length+1)) M2:=by
  unfold newH
  rw[hHM,hM,zeh,hM2,e8]
  simp[hl]
 have hHM2:heapOf M2=hs++[.obj "Block" [] [],hl (rowsOf ls)]:=by rw[hM2,zob]
 have er:W.rd (.h (hs.length+1)) M2=some (.lst (lnD (ls.map TM.rdw))):=by
  rw[rd_h,hHM2,yf (by omega)]
  simp only[Nat.add_sub_cancel_left]
  show some (hl (rowsOf ls)).toD=_
  rw[z4gb,e8]
 have es:zgw ["Block"] "rows" (.h (hs.length+1)) (.h hs.length) M2=some (.hp (hs++[hb (hs.length+1),hl (rowsOf ls)])::r):=by
  unfold zgw
  rw[whw_h,hHM2]
  simp only[yf (yp _),yib,List.getElem?_cons_zero]
  rw[if_pos ⟨yj.mpr rfl,by decide⟩,hM2,zeh,List.set_append_right _ _ (yp _)]
  simp[putLH,hb]
 have hML:M.length=r.length+1:=by rw[hM];simp
 have e9:z6i [.h hs.length,.d (.tup (lnD ls))] M = .ok (.d .non) (.hp (hs++[hb (hs.length+1),hl (rowsOf ls)])::r):=by
  simp[-rd_h,z6i,zwh,el,ech,en,er,e7',es,hML]
 unfold z1l zyd starF
 rw[zob,zeh,←hM]
 simp[e6,hz,e9,zw8]
end LK
namespace LK
open PySem PySem.Spec L2 DL TM SX
theorem zz8 {m:Mem} {k n:Nat} {ws:List HW} (h:(heapOf m)[k]?=some (.lst ws)) (hn:ws.length=n):liveH k n m=some ws:=by
 unfold liveH
 rw[h]
 simp[hn]
theorem zkcb {m:Mem} {k:Nat} {ws:List HW} (h:(heapOf m)[k]?=some (.lst ws)):zot (.h k) m=some (k,ws.length):=by
 unfold zot
 simp[h]
theorem z1y {hs:List HC} {r:Mem} {j:Nat} {ws:List HW} {t:Tbl} {k:Nat} {w:HW} (h:hs[j]?=some (.lst ws)) (hk:ws[k]?=some w):ixHW t (.h j) (.d (.int (k:Int))) (.hp hs::r) = .ok w.toW (.hp hs::r):=by
 unfold ixHW
 rw[zob]
 simp only[h]
 show (match atI ws (k:Int) with
  |some w=>Res.ok w.toW (.hp hs::r)
  |none=>.no)=_
 rw[DL.atI_nat,hk]
section
variable {α : Type} {en:Bool} {g:DG} {wd:DL.Env} {k:Nat} {m:Mem}
theorem zvfb {xs:List α} {i:Nat} (h:i<xs.length):xs.zipIdx.drop i=(xs[i],i)::xs.zipIdx.drop (i+1):=by
 rw[yhc (by rw[List.length_zipIdx];exact h),List.getElem_zipIdx]
 simp
theorem zmmb {xs:List α} {enc : α → D} {i:Nat} (h:i<xs.length):((xs.map enc).map HW.d)[i]?=some (.d (enc xs[i])):=by
 rw[yjb,yjb,yt h]
 rfl
theorem zuib {xs:List α} {i:Nat} (h:i<xs.length):(xs[i],i)∈xs.zipIdx:=List.mk_mem_zipIdx_iff_getElem?.mpr (yt h)
theorem zt3 {t:DT} {e:DE} {xs:List α} {enc : α → D} (h:(heapOf m)[k]?=some (.lst ((xs.map enc).map HW.d))) (p : α × Nat→Bool) (dec : α × Nat→D)
  (st:∀q∈xs.zipIdx,∃dl1,g (.d (itD en q.2 (enc q.1))) wd=some dl1∧t dl1 m = .ok (p q) m∧(p q=true→e dl1 m = .ok (.d (dec q)) m)):∀(r:Nat) (acc:List D),r≤xs.length→acc.length+r≤sizeLine →
  compX en g t e wd k xs.length r acc m = .ok (acc++((xs.zipIdx.drop (xs.length-r)).filter p).map dec) m
 | 0,acc,hr,ha=>by
   have e:xs.zipIdx.drop (xs.length-0)=[]:=List.drop_of_length_le (by rw[List.length_zipIdx];omega)
   rw[e]
   unfold compX
   rw[zz8 h (by simp)]
   simp
 |r+1,acc,hr,ha=>by
  unfold compX
  rw[zz8 h (by simp)]
  have hi:xs.length-(r+1)<xs.length:=by omega
  obtain⟨dl1,e1,e2,e3⟩:=st _ (zuib hi)
  have e4:xs.length-(r+1)+1=xs.length-r:=by omega
  dsimp only
  rw[zmmb hi]
  dsimp only at e1 ⊢
  rw[e1]
  dsimp only
  rw[e2]
  dsimp only
  rw[zvfb hi,e4]
  cases hp:p (xs[xs.length-(r+1)],xs.length-(r+1)) with
  |false=>
   dsimp only
   rw[zt3 h p dec st r acc (by omega) (by omega),ymb (by rw[hp];exact y4)]
  |true=>
   dsimp only
   rw[e3 hp]
   dsimp only
   rw[if_pos (by omega),zt3 h p dec st r _ (by omega) (by rw[yg];simp only[yec];omega),ypc hp,yr,y3b]
   rfl
theorem zvab {β : Type} (p : α → Bool) (dec : α → β):∀(xs:List α) (j:Nat),((xs.zipIdx j).filter fun q=>p q.1).map (fun q=>dec q.1)=(xs.filter p).map dec
 |[],_=>rfl
 |x::xs,j=>by
  rw[List.zipIdx_cons,List.filter_cons,List.filter_cons]
  dsimp only
  split
  ·rw[yr,yr,zvab p dec xs (j+1)]
  ·exact zvab p dec xs (j+1)
theorem zip_map {β : Type} (dec : α → β) (xs:List α) (j:Nat):(xs.zipIdx j).map (fun q=>dec q.1)=xs.map dec:=by
 have:=zvab (fun _=>true) dec xs j
 rwa [List.filter_eq_self.mpr fun _ _=>rfl,List.filter_eq_self.mpr fun _ _=>rfl] at this
theorem zuz {t:DT} {e:DE} {n:Nat}:∀(r:Nat) (acc acc':List D) (m m':Mem),compX false g t e wd k n r acc m = .ok acc' m'→zxp g t e wd k n r (acc.map HW.d) m = .ok (acc'.map HW.d) m'
 | 0,acc,acc',m,m',h=>by
   unfold compX at h
   unfold zxp
   cases hl:liveH k n m with
   |none=>rw[hl] at h;cases h
   |some ds=>rw[hl] at h;cases h;rfl
 |r+1,acc,acc',m,m',h=>by
  unfold compX at h
  unfold zxp
  cases hl:liveH k n m with
  |none=>rw[hl] at h;cases h
  |some ds=>
   rw[hl] at h
   dsimp only at h ⊢
   cases hd:ds[n-(r+1)]? with
   |none=>rw[hd] at h;cases h
   |some d0=>
    rw[hd] at h
    cases d0 with
    |h _=>cases h
    |d d=>
     dsimp only at h ⊢
     have ei:itD false (n-(r+1)) d=d:=if_neg y4
     rw[ei] at h
     have et:(HW.d d).toW=W.d d:=rfl
     rw[et]
     cases h1:g (.d d) wd with
     |none=>rw[h1] at h;cases h
     |some dl1=>
      rw[h1] at h
      dsimp only at h ⊢
      cases h2:t dl1 m with
      |no=>rw[h2] at h;cases h
      |exc _ _ _ _=>rw[h2] at h;cases h
      |ok b m1=>
       rw[h2] at h
       dsimp only at h ⊢
       cases b with
       |false=>exact zuz r acc acc' m1 m' h
       |true=>
        dsimp only at h ⊢
        cases h3:e dl1 m1 with
        |no=>rw[h3] at h;cases h
        |exc _ _ _ _=>rw[h3] at h;cases h
        |ok w m2=>
         rw[h3] at h
         cases w with
         |c _=>cases h
         |h _=>cases h
         |ex _ _ _ _ _=>cases h
         |d y=>
          dsimp only at h ⊢
          rw[whw_d]
          dsimp only
          by_cases hz:acc.length<sizeLine
          ·rw[if_pos hz] at h
           rw[ye,if_pos hz]
           have:=zuz r (acc++[y]) acc' m2 m' h
           rw[yob] at this
           exact this
          ·rw[if_neg hz] at h
           cases h
/-- a new list of the heap from a list of the heap -/
theorem z6ib {hs:List HC} {r:Mem} {e:DE} {xs:List α} {enc : α → D} (h:hs[k]?=some (.lst ((xs.map enc).map HW.d))) (dec : α → D)
  (st:∀x∈xs,∃dl1,g (.d (enc x)) wd=some dl1∧e dl1 (.hp hs::r) = .ok (.d (dec x)) (.hp hs::r)) (hl:xs.length≤sizeLine) :
  lcHW g bYes e wd (.h k) (.hp hs::r) = .ok (.h hs.length) (.hp (hs++[.lst ((xs.map dec).map HW.d)])::r):=by
 have h':(heapOf (.hp hs::r))[k]?=some (.lst ((xs.map enc).map HW.d)):=by rw[zob];exact h
 have e1:=zt3 (en:=false) (g:=g) (wd:=wd) (t:=bYes) (e:=e) h' (fun _=>true) (fun q=>dec q.1) (fun q hq=>by
  obtain⟨dl1,a,b⟩:=st q.1 (List.fst_mem_of_mem_zipIdx hq)
  exact⟨dl1,a,rfl,fun _=>b⟩) xs.length [] (yp _) (by simpa using hl)
 rw[yib,List.drop_zero,List.filter_eq_self.mpr fun _ _=>rfl,zip_map,ymc] at e1
 have e2:=zuz _ _ _ _ _ e1
 unfold lcHW
 rw[zkcb h']
 dsimp only
 rw[ye,ye]
 rw[show (List.map HW.d ([]:List D))=[] from rfl] at e2
 rw[e2]
 show newH _ _=_
 unfold newH
 rw[zob,zeh]
end
def Pre (hs hs':List HC):Prop:=∃e,hs'=hs++e
theorem Pre.refl (hs:List HC):Pre hs hs:=⟨[],(ygb _).symm⟩
theorem Pre.one (hs e:List HC):Pre hs (hs++e):=⟨e,rfl⟩
theorem Pre.trans {a b c:List HC} (h:Pre a b) (h':Pre b c):Pre a c:=by
 obtain⟨e,rfl⟩:=h
 obtain⟨f,rfl⟩:=h'
 exact⟨e++f,y3b _ _ _⟩
theorem Pre.len {a b:List HC} (h:Pre a b):a.length≤b.length:=by
 obtain⟨e,rfl⟩:=h
 rw[yg]
 omega
theorem Pre.get {a b:List HC} (h:Pre a b) {i:Nat} {c:HC} (g:a[i]?=some c):b[i]?=some c:=by
 obtain⟨e,rfl⟩:=h
 rw[yl (yc.mp g).1]
 exact g
/-- a block at i, its lines at j -/
structure HH (hs:List HC) (i j:Nat) (ls:List (List Nat)):Prop where
 o:hs[i]?=some (hb j)
 l:hs[j]?=some (hl ls)
theorem HH.b {hs:List HC} {r:Mem} {i j:Nat} {ls:List (List Nat)} (h:HH hs i j ls):HB (.hp hs::r) i j ls:=⟨by rw[zob];exact h.o,by rw[zob];exact h.l⟩
theorem HH.pre {hs hs':List HC} {i j:Nat} {ls:List (List Nat)} (h:HH hs i j ls) (p:Pre hs hs'):HH hs' i j ls:=⟨p.get h.o,p.get h.l⟩
theorem HH.lt {hs:List HC} {i j:Nat} {ls:List (List Nat)} (h:HH hs i j ls):i<hs.length∧j<hs.length:=⟨(yc.mp h.o).1,(yc.mp h.l).1⟩
theorem HH.put {hs:List HC} {i j k:Nat} {ls ls':List (List Nat)} (h:HH hs i j ls) (hi:i≠k) (hj:j≠k):HH (hs.set k (hl ls')) i j ls:=⟨by rw[yq (Ne.symm hi)];exact h.o,by rw[yq (Ne.symm hj)];exact h.l⟩
/-- a fresh block with these lines -/
def Got (hs:List HC) (r:Mem) (x:Res W) (ls:List (List Nat)):Prop:=∃i j hs',x = .ok (.h i) (.hp hs'::r)∧Pre hs hs'∧HH hs' i j ls∧hs.length≤i∧hs.length≤j∧i≠j
theorem zjfb {ls:List (List Nat)} (h:∀l∈ls,Line l) (hne:ls≠[]) (hn:ls.length≤10000) (hs:List HC) (r:Mem):Got hs r (z1l "Block" zyd ((lnD ls).map W.d) (.hp hs::r)) (rowsOf ls):=
 ⟨hs.length,hs.length+1,_,zgfb h hne hn hs r,Pre.one _ _,⟨by
  rw[yf (yp _),yib]
  rfl,by
  rw[yf (by omega)]
  simp⟩,by omega,by omega,by omega⟩
theorem zhfb {B L:Nat} {rs:List Row} (h:∀r∈rs,RowIn B L r) (hz:B+L≤100000) (hne:rs≠[]) (hn:rs.length≤10000) (hs:List HC) (r:Mem):Got hs r (z1l "Block" zyd ((lnD (rs.map zm)).map W.d) (.hp hs::r)) (rs.map zm):=by
 have:=zjfb (ls:=rs.map zm) (fun l hl=>by
  obtain⟨r,hr,rfl⟩:=yfb.mp hl
  exact (h r hr).line hz) (by simp[hne]) (by rw[ye];exact hn) hs r
 have e:rowsOf (rs.map zm)=rs.map zm:=by
  unfold rowsOf
  rw[if_neg (by simp[hne]),y6]
  exact List.map_congr_left fun r hr=>za2 (h r hr)
 rwa [e] at this
theorem zifb {B L:Nat} {rs:List Row} (h:∀r∈rs,RowIn B L r) (hz:B+L≤5000) (hne:rs≠[]) (hn:rs.length≤3000) (hs:List HC) (r:Mem):Got hs r (zxk [.d (.cls "Block"),.d (.str (S (ybb [10] (rs.map zm))))] (.hp hs::r)) (rs.map zm):=by
 have h5:∀y∈rs.map zm,y.length≤5000:=fun y hy=>by
  obtain⟨r,hr,rfl⟩:=yfb.mp hy
  have:=(h r hr).len
  omega
 have e1:=zi6 (s:=10) (ls:=rs.map zm) (by simp[hne]) (fun l hl=>by
  obtain⟨r,hr,rfl⟩:=yfb.mp hl
  exact ((h r hr).line (by omega)).2) h5 (by rw[ye];exact hn) (by decide)
 obtain⟨i,j,hs',e2,p,g,a,b,c⟩:=zhfb h (by omega) hne (by omega) hs r
 refine⟨i,j,hs',?_,p,g,a,b,c⟩
 clear g
 generalize hls:rs.map zm=ls at *
 have e3:∀f:DA,eMkH "Block" zyd (eVar 0) f [some (.d (.cls "Block")),some (.d (.str (S (ybb [10] ls)))),some (.d (.lst (lnD ls)))] (.hp hs::r)=_:=fun f=>zrfb rfl
 simp[zxk,zbo,zhl,zde,isfT,e_nl,e1,e2,e3]
theorem rdB {m:Mem} {i j:Nat} {ls:List (List Nat)} (h:HB m i j ls):W.rd (.h i) m=some (.obj "Block" ["rows"] [.opq]):=by
 rw[rd_h,h.o]
 rfl
/-- a text or a block -/
def BS (y:W) (m:Mem):Prop:=∃d,W.rd y m=some d∧((∃s,d = .str s)∨d = .obj "Block" ["rows"] [.opq])
theorem zdmb (s:Str) (m:Mem):BS (.d (.str s)) m:=⟨_,rfl,.inl ⟨_,rfl⟩⟩
theorem z1ib (a b:List (List Nat)):lnD a++lnD b=lnD (a++b):=by unfold lnD;simp
/-- a list from a block or a text -/
def From (hs:List HC) (r:Mem) (y:W) (ls:List (List Nat)):Prop:=∃hs',z9i [y] (.hp hs::r) = .ok (.d (.lst (lnD ls))) (.hp hs'::r)∧Pre hs hs'
/-- a line put at p -/
theorem lnW_H {m:Mem} {j:Nat} {ds:List D} (t:Tbl) (h:W.rd (.h j) m=some (.lst ds)):lnW t (.h j) m = .ok (.d (.int ds.length)) m:=by
 unfold lnW clsOf
 rw[h]
 simp only[]
 unfold liftA rdAll rdAll
 rw[h]
 rfl
theorem zqkb {hs:List HC} {r:Mem} {i j:Nat} {ls:List (List Nat)} (h:HH hs i j ls) {l:List Nat} (hl:Line l) {p:Nat} (hn:p<ls.length) (hz:ls.length≤100000) :
  zpb [.h i,.d (.int (p:Int)),.d (.str (S l))] (.hp hs::r) = .ok (.d .non) (.hp (hs.set j (LK.hl (ls.set p (TM.rdw l))))::r):=by
 have hb:=h.b (r:=r)
 have e1:=rowsF hb
 have e2:=rowsR hb
 have e3:=fun t=>lnW_H t e2
 have e4:=zds (x:=.int (p:Int)) True.intro ((lnD ls).length:Int) (.hp hs::r)
 have hlen:(lnD ls).length=ls.length:=zy6 ls
 have e5:intIn (.int (p:Int)) ((lnD ls).length:Int)=true:=by
  unfold intIn
  rw[hlen]
  simp
  omega
 rw[e5] at e4
 have e6:=zcv hl (.hp hs::r)
 have e7:=z81 hl.1.sz
 have e8:setLW (.d (.str (S (TM.rdw l)))) (.h j) (.d (.int (p:Int))) (.hp hs::r)=some (.hp (hs.set j (LK.hl (ls.set p (TM.rdw l))))::r):=by
  have e9:Loc.get (.h j) (.hp hs::r)=some ((lnD ls).map HW.d):=by
   unfold Loc.get
   simp only[zob,h.l]
   rfl
  have e10:ixN ((lnD ls).map HW.d).length (p:Int)=some p:=by
   rw[ye,hlen]
   unfold ixN
   rw[if_pos (by omega),if_pos (by omega),ysb]
  unfold setLW W.loc
  simp only[whw_d,e9,e10]
  show some (hset _ _)=_
  rw[zob,zeh]
  congr 3
  unfold LK.hl
  congr 1
  unfold lnD
  rw[List.map_set,List.map_set]
 generalize ((lnD ls).length:Int)=n at *
 simp[-rd_h,zpb,zxh,zig,e1,e3,e4,e6,e_sp,e7,e8]
theorem ztcb (rs:List Row):hl (rs.map zm) = .lst ((rs.map fun r=>D.str (S (zm r))).map HW.d):=by
 unfold hl
 rw[zbfb]
theorem zrmb {n:Int} (h0:0≤n) (hn:n<21) (m:Mem):z6e [.d (.int n)] m = .ok (.d (.bl true)) m:=by
 have ea:=zx4 (x:=.int n) True.intro m
 simpa only[intIn,h0,hn,decide_true,Bool.and_self] using ea
theorem setB {hs:List HC} {r:Mem} {i j:Nat} {ls:List (List Nat)} (h:HH hs i j ls) (F:DF) (y x:W):setOW [("Block",F)] y (.h i) x (.hp hs::r)=F [.h i,x,y] (.hp hs::r):=by
 unfold setOW
 rw[blkC h.b]
 simp only[]
 rw[show look [("Block",F)] "Block" = some F from if_pos rfl]
theorem zdgb {i:Nat} {t:Tbl} {e:DE} {dl:DL.Env} {m:Mem} {x:W} (h:dl[i]?=some (some x)):sAugO i t e dl m=(e dl m).thenS dl fun y m1=>(iopW t x y m1).thenS dl fun z m2=>.nx (dl.set i (some z)) m2:=by
 unfold sAugO
 rw[h]
/-- the block at i has a new list of lines; all else stays -/
def Now (hs:List HC) (r:Mem) (i j:Nat) (x:Res W) (ls:List (List Nat)):Prop:=∃j' hs',x = .ok (.h i) (.hp hs'::r)∧HH hs' i j' ls∧hs.length≤hs'.length∧(∀p<hs.length,p≠i→hs'[p]?=hs[p]?)∧hs.length≤j'
theorem sFldB {hs:List HC} {r:Mem} {i j j':Nat} (o:hs[i]?=some (hb j)):zgw ["Block"] "rows" (.h j') (.h i) (.hp hs::r)=some (.hp (hs.set i (hb j'))::r):=by
 unfold zgw
 rw[whw_h,zob]
 simp only[o,hb]
 rw[if_pos ⟨yj.mpr rfl,by decide⟩,zeh]
 simp[putLH]
/-- from a heap with a new list behind its end -/
theorem zqgb {hs hs1:List HC} {i j:Nat} {ls ls':List (List Nat)} (g:HH hs i j ls) (p:Pre hs hs1):HH ((hs1++[hl ls']).set i (hb hs1.length)) i hs1.length ls'∧hs.length≤((hs1++[hl ls']).set i (hb hs1.length)).length∧(∀q<hs.length,q≠i→((hs1++[hl ls']).set i (hb hs1.length))[q]?=hs[q]?)∧hs.length≤hs1.length:=by
 have k:=g.lt
 have k1:=p.len
 refine⟨⟨?_,?_⟩,?_,fun q hq hi=>?_,k1⟩
 ·rw[yu (by rw[yg];omega)]
 ·rw[yq (by omega),yf (yp _),yib]
  rfl
 ·rw[yeb,yg]
  omega
 ·obtain⟨e,rfl⟩:=p
  rw[yq (Ne.symm hi),y3b,yl hq]
section
variable {B L:Nat} {rs:List Row} {hs:List HC} {r:Mem} {i j:Nat}
theorem z1eb {a b:List Row} (hl0:a.length+b.length≤10000) {y:W} (h:HH hs i j (a.map zm)) (hy:From hs r y (b.map zm)) (hi:BS y (.hp hs::r)):Now hs r i j (ztd [.h i,y] (.hp hs::r)) ((a++b).map zm):=by
 obtain⟨hs',e1,p⟩:=hy
 obtain⟨n1,n2,n3,n4⟩:=zqgb (ls':=(a++b).map zm) h p
 refine⟨_,_,?_,n1,n2,n3,n4⟩
 clear n1 n2 n3 n4
 have h':=h.pre p
 have e3:=rowsF (h.b (r:=r))
 have e5:=rowsR (h'.b (r:=r))
 have e6:addHW (.h j) (.d (.lst (lnD (b.map zm)))) (.hp hs'::r) = .ok (.h hs'.length) (.hp (hs'++[hl ((a++b).map zm)])::r):=by
  unfold addHW
  rw[e5]
  show (if (lnD (a.map zm)).length+(lnD (b.map zm)).length≤sizeLine then newH (.lst ((lnD (a.map zm)++lnD (b.map zm)).map HW.d)) (.hp hs'::r) else .no)=_
  rw[if_pos (by rw[zy6,zy6,ye,ye];unfold sizeLine;omega),z1ib,←yob]
  unfold newH
  rw[zob,zeh]
  rfl
 have e7:=sFldB (r:=r) (j':=hs'.length) (hs:=hs'++[hl ((a++b).map zm)]) (i:=i) (j:=j) (by rw[yl h'.lt.1];exact h'.o)
 clear h h'
 generalize (a++b).map zm=l2 at *
 generalize a.map zm=l0 at *
 generalize b.map zm=l1 at *
 obtain⟨d,hd,hi⟩:=hi
 rcases hi with ⟨s,rfl⟩ |rfl <;> simp[-rd_h,ztd,z5j,zji,hd,znd,isfT,e1,e3,e6,e7]
theorem ziib (h:∀r∈rs,RowIn B L r) (hz:B+L≤50000) (hl0:rs.length≤10000) {n:Int} (h0:0≤n) (hn:n<21) (g:HH hs i j (rs.map zm)):Now hs r i j (zpc [.h i,.d (.int n)] (.hp hs::r)) ((rs.map (mvR n)).map zm):=by
 obtain⟨n1,n2,n3,n4⟩:=zqgb (ls':=(rs.map (mvR n)).map zm) g (Pre.refl _)
 refine⟨_,_,?_,n1,n2,n3,n4⟩
 clear n1 n2 n3 n4
 have e3:=rowsF (g.b (r:=r))
 have ea:=zrmb h0 hn (.hp hs::r)
 have ec:=z6ib (g:=gNm 2) (wd:=[some (.h i),some (.d (.int n)),none]) (r:=r) (e:=z4f) (by have:=g.l;rw[ztcb] at this;exact this) (fun q=>D.str (S (zm (mvR n q)))) (fun q hq=>⟨_,rfl,by
   have:=z6eb (h q hq) (by omega) (n:=n) (by omega) (fun z=>by omega) (.hp hs::r)
   simp[z4f,this]⟩) (by unfold sizeLine;omega)
 have e2:hl ((rs.map (mvR n)).map zm) = .lst ((rs.map fun q=>D.str (S (zm (mvR n q)))).map HW.d):=by
  rw[ztcb,y6,y6,y6]
  rfl
 rw[←e2] at ec
 have e7:=sFldB (r:=r) (j':=hs.length) (hs:=hs++[hl ((rs.map (mvR n)).map zm)]) (i:=i) (j:=j) (by rw[yl g.lt.1];exact g.o)
 clear g e2
 generalize hl ((rs.map (mvR n)).map zm)=l2 at *
 simp[-rd_h,zpc,zyh,zjg,ea,e3,ec,e7]
theorem iopB {m:Mem} {ls:List (List Nat)} (h:HB m i j ls) (F:DF) (y:W):iopW [("Block",F)] (.h i) y m=F [.h i,y] m:=by
 unfold iopW
 rw[blkC h]
 show (match look [("Block",F)] "Block" with |some F=>F [.h i,y] m |none=>.no)=_
 rw[show look [("Block",F)] "Block" = some F from if_pos rfl]
end
end LK
namespace LK
open PySem PySem.Spec L2 DL TM SX NT PG
inductive Kd where
 |text |block |prog
def Kd.w:Kd→Str
 |.text=>"text"
 |.block=>"block"
 |.prog=>"program"
theorem zygb {i g s q n:Nat} {hs:List HC} {ns:List Nat} (r:Mem) (hq:q≠i∧q≠g∧q≠s) (hl:∀c∈ns,z7d c=true) (h:HSt i g s (n+60) hs) (hn:Nm q hs ns) :
  ∃(p:Pg) (hs':List HC) (ns' us:List Nat),z7e [.h i,.h q,.d (.int 1)] (.hp hs::r) = .ok (.d (tdD p)) (.hp hs'::r)∧(Pt p us (1+us.length) 2∧isSum p.lab=false)∧ns=ns'++us∧HSt i g s n hs'∧Kp [i,g,q] hs hs'∧Nm q hs' ns':=by
 by_cases hlt:ns.length<1
 ·obtain⟨p,hs',e,hp,h',k,n'⟩:=zglb (n:=n) (many:=1) r hq h hn hlt
  exact⟨p,hs',ns,[],e,⟨hp.1.mono (fun _ z=>z) (yp _) (by decide) (by decide),hp.2⟩,by simp,h',k,n'⟩
 ·have h0:ns≠[]:=fun z=>hlt (by rw[z];simp)
  obtain⟨ns1,c,rfl⟩:∃ns1 c,ns=ns1++[c]:=⟨ns.dropLast,ns.getLast h0,(List.dropLast_concat_getLast h0).symm⟩
  obtain⟨p,hs',e,hp,h',k,n'⟩:=zflb (n:=n) r hq (hl c (by simp)) h hn
  exact⟨p,hs',ns1,[c],e,hp,rfl,h',k,n'⟩
/-- a member -/
structure Mb (K:Kd) (p:Pg) (us:List Nat):Prop where
 pt:Pt p us (2+us.length) 3
 ns:isSum p.lab=false
 fx:K = .prog∨∃ls,p = .node (.fixed ls) []∧lokB (.fixed ls) []
theorem z5x (v:Int) (m:Mem):ofB (truD (.int v)) m = .ok (decide (v≠0)) m:=by
 by_cases h:v=0
 ·subst h
  rfl
 ·simp[truD,h]
theorem z6bb {i g s q n:Nat} {hs:List HC} {ns:List Nat} (r:Mem) (hq:q≠i∧q≠g∧q≠s) (hl:∀c∈ns,z7d c=true) (h:HSt i g s (n+70) hs) (hn:Nm q hs ns) :
  ∃(K:Kd) (p:Pg) (hs':List HC) (ns' us:List Nat),zye [.h i,.h q] (.hp hs::r) = .ok (.d (.tup [.str K.w,tdD p])) (.hp hs'::r)∧Mb K p us∧ns=ns'++us∧HSt i g s n hs'∧Kp [i,g,q] hs hs'∧Nm q hs' ns':=by
 obtain⟨v,hs1,e1,⟨v0,v1⟩,h1,k1⟩:=zro (q:=2) (n:=n+69) r h (by decide) (by decide)
 have n1:=hn.keep k1 hq.1 hq.2.1
 have k1':Kp [i,g,q] hs hs1:=k1.mono (by simp)
 by_cases hv:v=0
 ·subst hv
  obtain⟨p,hs2,ns',us,e2,⟨hp,hps⟩,eN,h2,k2,n2⟩:=zygb (n:=n+9) r hq hl (h1.mono (by omega)) n1
  obtain⟨u,hs3,e3,⟨u0,u1⟩,h3,k3⟩:=zro (q:=2) (n:=n+8) r h2 (by decide) (by decide)
  have n3:=n2.keep k3 hq.1 hq.2.1
  have k3':Kp [i,g,q] hs hs3:=(k1'.trans k2).trans (k3.mono (by simp))
  by_cases hu:u=0
  ·subst hu
   refine⟨.prog,p,hs3,ns',us,?_,⟨hp.mono (fun _ z=>z) (yp _) (by omega) (by decide),hps,.inl rfl⟩,eN,h3.mono (by omega),k3',n3⟩
   generalize tdD p=P at *
   simp[zye,zli,zhg,e1,e2,e3,z5x,Kd.w]
  ·have hu1:u=1:=by omega
   subst hu1
   obtain⟨d,hs4,e4,hd,h4,k4⟩:=zt8 (ds:=[.str "in",.str "first",.str "rest"]) (n:=n+7) r h3 (by simp) (by simp)
   obtain⟨j,hs5,e5,⟨j0,j1⟩,h5,k5⟩:=zro (q:=21) (n:=n+6) r h4 (by decide) (by decide)
   have n5:=(n3.keep k4 hq.1 hq.2.1).keep k5 hq.1 hq.2.1
   have k5':Kp [i,g,q] hs hs5:=(k3'.trans (k4.mono (by simp))).trans (k5.mono (by simp))
   obtain⟨jn,rfl⟩:∃jn:Nat,j=(jn:Int):=⟨j.toNat,by omega⟩
   obtain⟨sw,hsw⟩:∃sw:Sh,d = .str sw.w:=by
    simp only[yo,y9b,or_false] at hd
    rcases hd with rfl |rfl |rfl
    ·exact⟨.in_,rfl⟩
    ·exact⟨.first,rfl⟩
    ·exact⟨.rest,rfl⟩
   subst hsw
   have q1:Pt (.node (.sh sw jn) [p]) us (1+us.length+1) 3:=hp.one ⟨by omega,_,rfl⟩ rfl rfl
   refine⟨.prog,.node (.sh sw jn) [p],hs5,ns',us,?_,⟨q1.mono (fun _ z=>z) (yp _) (by omega) (by decide),rfl,.inl rfl⟩,eN,h5.mono (by omega),k5',n5⟩
   have et:tdD (.node (.sh sw jn) [p]) = .tup [.str sw.w,.int (jn:Int),.tup [tdD p]]:=zud _ _
   rw[et]
   generalize tdD p=P at *
   generalize sw.w=SW at *
   have z3:3≤sizeLine:=by decide
   simp[zye,zli,zhg,e1,e2,e3,e4,e5,z5x,Kd.w,z3]
 ·have hv1:v=1:=by omega
  subst hv1
  obtain⟨d,hs2,e2,hd,h2,k2⟩:=zt8 (ds:=[.str "text",.str "block"]) (n:=n+68) r h1 (by simp) (by simp)
  obtain⟨ls,hs3,e3,l3,h3,k3⟩:=z3cb (n:=n+38) (wide:=4) r (by decide) h2
  have n3:=(n1.keep k2 hq.1 hq.2.1).keep k3 hq.1 hq.2.1
  have k3':Kp [i,g,q] hs hs3:=(k1'.trans (k2.mono (by simp))).trans (k3.mono (by simp))
  obtain⟨K,hK,hKp⟩:∃K:Kd,d = .str K.w∧K ≠ .prog:=by
   simp only[yo,y9b,or_false] at hd
   rcases hd with rfl |rfl
   ·exact⟨.text,rfl,fun z=>nomatch z⟩
   ·exact⟨.block,rfl,fun z=>nomatch z⟩
  subst hK
  refine⟨K,.node (.fixed ls) [],hs3,ns,[],?_,⟨(zn8 l3).mono (fun _ z=>z) (yp _) (by simp) (by decide),rfl,.inr ⟨ls,rfl,l3⟩⟩,by simp,h3.mono (by omega),k3',n3⟩
  have e3:zjf [.h i,.d (.int 4)] (.hp hs2::r) = .ok (.d (tdD (.node (.fixed ls) []))) (.hp hs3::r):=e3
  generalize tdD (.node (.fixed ls) [])=P at *
  generalize K.w=KW at *
  have z2:2≤sizeLine:=by decide
  simp[zye,zli,zhg,e1,e2,e3,z5x,z2]
theorem clsP (p:Pg) (m:Mem):clsOf (.d (pgD p)) m=some ("Program" : Str):=by rw[z7h];rfl
theorem nPB:¬(Str.ofString "Program" = Str.ofString "Block"):=by decide
theorem nBP:¬(Str.ofString "Block" = Str.ofString "Program"):=by decide
theorem zelb (F G:DF):look [("Block",F),("Program",G)] "Program" = some G:=by
 unfold look
 rw[if_neg nBP]
 unfold look
 rw[if_pos rfl]
theorem zzdb (p q:Pg) (m:Mem):binRW bopTs binB binA binD ropTs binRt addD (.d (pgD p)) (.d (pgD q)) m=zt [.d (pgD p),.d (pgD q)] m:=by
 unfold binRW
 rw[clsP,clsP]
 simp only[if_true]
 exact z85 p (by rw[z93,za4]) m
theorem zjmb (p:Pg) (s:Str) (m:Mem):binRW bopTs binB binA binD ropTs binRt addD (.d (pgD p)) (.d (.str s)) m=zt [.d (pgD p),.d (.str s)] m:=by
 unfold binRW
 rw[clsP,show clsOf (.d (.str s)) m=none from rfl]
 exact z85 p (by simp[tagD,tagIn,bopTs]) m
theorem zkmb {p:Pg} {m:Mem} {i j:Nat} {ls:List (List Nat)} (h:HB m i j ls):binRW bopTs binB binA binD ropTs binRt addD (.d (pgD p)) (.h i) m=zt [.d (pgD p),.h i] m:=by
 unfold binRW
 rw[clsP,blkC h]
 simp only[]
 rw[if_neg nBP]
 have:lk2 binA ("Program" : Str) ("Block" : Str)=some zt:=by
  unfold binA lk2
  rw[if_pos rfl]
 rw[this]
theorem zimb (p:Pg) (s:Str) (m:Mem):binRW bopTs binB binA binD ropTs binRt addD (.d (.str s)) (.d (pgD p)) m=zyb [.d (pgD p),.d (.str s)] m:=by
 unfold binRW
 rw[show clsOf (.d (.str s)) m=none from rfl]
 unfold ropOW
 rw[clsP]
 simp only[]
 rw[show look binRt "Program" = some zyb from zelb _ _]
 simp[zrcb,tagD,ropTs]
theorem zlmb {p:Pg} {m:Mem} {i j:Nat} {ls:List (List Nat)} (h:HB m i j ls):binRW bopTs binB binA binD ropTs binRt addD (.h i) (.d (pgD p)) m=zyb [.d (pgD p),.h i] m:=by
 unfold binRW
 rw[clsP,blkC h]
 simp only[]
 rw[if_neg nPB]
 have e1:lk2 binA ("Block" : Str) ("Program" : Str)=none:=by
  unfold binA lk2
  rw[if_neg (fun z=>nPB (congrArg Prod.fst z))]
  rfl
 have e2:lk2 binD ("Block" : Str) ("Program" : Str)=some (zyf,zyb):=by
  unfold binD lk2
  rw[if_pos rfl]
 rw[e1,e2]
 simp only[]
 have t:=z93 p
 have ed:zyf [.h i,.d (pgD p)] m = .ok (.d .non) m:=by
  have c:=clsP p m
  generalize pgD p=P at *
  have nb:¬(Str.ofString "Program" = Str.ofString "Block"):=nPB
  simp[zyf,noF,lenF,isfT,znd,t,nb,nBP]
 rw[ed]
 show (if _ then _ else _)=_
 rw[if_pos ⟨blkC h,clsP p m⟩]
theorem zmfb {ls:List (List Nat)} (g:lokB (.fixed ls) []) (m:Mem):zsc [.d (.str (S (ybb [10] ls)))] m = .ok (.d (pgD (.node (.fixed ls) []))) m:=by
 have e:=zf9 g m
 generalize pgD (.node (.fixed ls) [])=R at *
 simp[zsc,zih,zwf,zwd,isfT,e]
theorem strH {m:Mem} {i j:Nat} {ls:List (List Nat)} (h:HB m i j ls) (hl:∀y∈ls,y.length≤20000) (hn:ls.length≤100):zec [.h i] m = .ok (.d (.str (S (ybb [10] ls)))) m:=by
 have e1:=rowsF h
 have e2:=rowsR h
 have ej:joinD (.str (S [10])) [.lst (lnD ls)]=some (.str (S (ybb [10] ls))):=zn2 rfl hl hn (by simp)
 have enl:Str.ofString "\n" = S [10]:=by decide
 simp[-rd_h,zec,zni,zyg,enl,e1,e2,ej]
theorem zylb {ls:List (List Nat)} (g:lokB (.fixed ls) []) {hs:List HC} {r:Mem} {i j:Nat} (h:HH hs i j ls):zlq [.h i] (.hp hs::r) = .ok (.d (pgD (.node (.fixed ls) []))) (.hp hs::r):=by
 obtain⟨_,hne0,h60,hx⟩:=g
 obtain⟨rs,e,hr⟩:=zsx hx
 subst e
 have hne:rs≠[]:=by simpa using hne0
 have hn:rs.length≤6:=by simpa using h60
 have hl:∀y∈rs.map zm,Line y∧y.length≤50:=fun y hy=>by
  obtain⟨r,hr',rfl⟩:=yfb.mp hy
  exact⟨(hr r hr').line (by decide),by have:=(hr r hr').len;omega⟩
 have e1:=zo6 hr (by decide) hne (by omega) (.hp hs::r)
 have hne2:rs.map zm≠[]:=by simp[hne]
 have hn2:(rs.map zm).length≤6:=by rw[ye];exact hn
 have e3:=zv8 (ls:=rs.map zm) (fun l hx=>⟨(hl l hx).1,by have:=(hl l hx).2;omega⟩) hne2 (by omega) (.hp hs::r)
 have b1:=strH (h.b (r:=r)) (fun l hx=>by have:=(hl l hx).2;omega) (by omega)
 have hC:=blkC (h.b (r:=r))
 have hT:=rdB (h.b (r:=r))
 clear h
 generalize rs.map zm=ls at *
 have e2:propW "Block" zqb (.d (blk ls)) (.hp hs::r) = .ok (.d (.tup (lnD ls))) (.hp hs::r):=by
  rw[show blk ls = .obj "Block" ["rows"] [.lst (lnD ls)] from rfl,zkt]
  rw[show zqb [.d (.obj "Block" ["rows"] [.lst (lnD ls)])] (.hp hs::r)=_ from zi4 ls (.hp hs::r)]
  rfl
 have est:(eStr [("Block",zec)] (aCons (eVar 0) aNil)) [some (.h i),none,none,none] (.hp hs::r) = .ok (.d (.str (S (ybb [10] ls)))) (.hp hs::r):=by
  have hb:=b1
  unfold eStr
  simp[-rd_h,hC,look,hb,strI,strW]
 have isB:isiW (isfT zue) (.h i) (.hp hs::r) = .ok (.d (.bl true)) (.hp hs::r):=by
  unfold isiW
  rw[hT]
  simp[isfT,zue,tagD]
 have hl2:(lnD ls).length=ls.length:=by unfold lnD;rw[ye]
 have ec:=zpk (m:=.hp hs::r) (g:=gNm 3) (e:=zcj) (wd:=[some (.h i),some (.d (blk ls)),some (.d (.tup (lnD ls))),none]) (enc:=fun l=>D.str (S l)) (dec:=fun l=>D.int (l.length:Int)) ls (fun l hx=>⟨_,rfl,by
  have e:=len_str (a:=l) (by have:=(hl l hx).2;unfold sizeLine;omega)
  simp[zcj,e]⟩) (by unfold sizeLine;omega)
 have em:=zvgb (ns:=ls.map fun l=>(l.length:Int)) (by simpa using hne2)
 rw[y6] at em
 have em:maxLD [.lst (ls.map fun l=>D.int (l.length:Int))]=_:=em
 have hM:=zh2 (ns:=ls.map fun l=>(l.length:Int)) (b:=60) (by simpa using hne2) (fun n hx=>by
  obtain⟨l,hy,rfl⟩:=yfb.mp hx
  have:=(hl l hy).2
  omega)
 have ec:compD (gNm 3) bYes zcj [some (.h i),some (.d (blk ls)),some (.d (.tup (lnD ls))),none] (lnD ls) [] (.hp hs::r)=_:=ec
 have eb:blkD ls=blk ls:=rfl
 rw[eb] at e3
 clear b1
 have g1:¬((ls.length:Int) > 6):=by omega
 have g2:¬(maxI (ls.map fun l=>(l.length:Int)) > 60):=by omega
 generalize maxI (ls.map fun l=>(l.length:Int))=M at *
 generalize ls.map (fun l=>D.int (l.length:Int))=A at *
 generalize pgD (.node (.fixed ls) [])=R at *
 generalize S (ybb [10] ls)=t at *
 generalize lnD ls=B at *
 generalize blk ls=C at *
 generalize (Cell.hp hs::r)=m at *
 simp[-zadb,-zcp,zlq,z13,zeu,isB,est,e1,e2,ec,em,hl2,e3,g1,g2]
theorem z0cb {ls:List (List Nat)} (g:lokB (.fixed ls) []) {hs:List HC} {r:Mem} {i j:Nat} (h:HH hs i j ls):zsc [.h i] (.hp hs::r) = .ok (.d (pgD (.node (.fixed ls) []))) (.hp hs::r):=by
 have e:=zylb g h (r:=r)
 have hT:=rdB (h.b (r:=r))
 have isP:isiW (isfT zwd) (.h i) (.hp hs::r) = .ok (.d (.bl false)) (.hp hs::r):=by
  unfold isiW
  rw[hT]
  have:¬(Str.ofString "Block" = Str.ofString "Program"):=nBP
  simp[isfT,zwd,tagD,this]
 generalize pgD (.node (.fixed ls) [])=R at *
 generalize (Cell.hp hs::r)=m at *
 simp[-zcp,zsc,zih,zwf,isP,e]
theorem add_l {p q:Pg} {y:W} {m:Mem} (hy:zsc [y] m = .ok (.d (pgD q)) m) (hp:sms p≠[]) (hq:sms q≠[]) (h:POk (.node .sum (sms p++sms q))):zt [.d (pgD p),y] m = .ok (.d (pgD (.node .sum (sms p++sms q)))) m:=by
 have e:=z7x hp hq h m
 generalize pgD (.node .sum (sms p++sms q))=R at *
 generalize pgD p=P at *
 generalize pgD q=Q at *
 simp[zt,zzg,zof,hy,e]
theorem add_r {p q:Pg} {y:W} {m:Mem} (hy:zsc [y] m = .ok (.d (pgD q)) m) (hp:sms p≠[]) (hq:sms q≠[]) (h:POk (.node .sum (sms q++sms p))):zyb [.d (pgD p),y] m = .ok (.d (pgD (.node .sum (sms q++sms p)))) m:=by
 have e:=z7x hq hp h m
 generalize pgD (.node .sum (sms q++sms p))=R at *
 generalize pgD p=P at *
 generalize pgD q=Q at *
 simp[zyb,zmi,z7g,hy,e]
end LK
namespace LK
open PySem PySem.Spec L2 DL TM SX NT PG
theorem zx2:∀ts:List Pg,(ts.flatMap parts).length=sizes ts
 |[]=>by rw[z5h];rfl
 |p::ts=>by rw[yvb,yg,zx2 ts,zeg,zdf]
theorem zq6 (pre post:List Pg) (t:Pg):(parts (.node .sum (pre++t::post)))[1+sizes pre]?=some t:=by
 rw[zdn,yqc,yvb,Nat.add_comm,List.getElem?_cons_succ,yf (by rw[zx2];exact yp _),zx2,yib,z8h t]
 rfl
structure Sm (ts:List Pg):Prop where
 l2:2≤ts.length
 ns:∀q∈ts,isSum q.lab=false
 o:POk (.node .sum ts)
 g:GoodB (.node .sum ts)
 dp:∀q∈ts,dep q≤4
variable {ts:List Pg} (h:Sm ts)
include h
theorem Sm.size:1+sizes ts≤16:=by
 have:=h.o.sz
 rw[zqn] at this
 exact this
theorem Sm.dep:dep (.node .sum ts)≤24:=by
 rw[zcu]
 have:=zidb h.dp
 omega
theorem Sm.mem {t:Pg} (ht:t∈ts):POk t∧GoodB t:=⟨h.o.sub ht,h.g.sub ht⟩
theorem zaab {pre post:List Pg} {t:Pg} (e:ts=pre++t::post) (x1:Option W) (m:Mem):z5e [some (.d (pgD (.node .sum ts))),x1,some (.d (.int ((1+sizes pre:Nat):Int))),some (.d (tdD t))] m = .nx [some (.d (pgD (.node .sum ts))),x1,some (.d (.int ((1+sizes (pre++[t]):Nat):Int))),some (.d (tdD t))] m:=by
 have hz:=h.size
 have ht:t∈ts:=by rw[e];simp
 obtain⟨ot,gt⟩:=h.mem ht
 have dt:=h.dp t ht
 have ea:=at_ok (p:=.node .sum ts) (q:=t) (k:=1+sizes pre) (by rw[zqn];omega) (by rw[e];exact zq6 pre post t) m
 have el:=znt (by omega) ot gt m
 have ee:=zogb (p:=t) (q:=t) (by have:=ot.sz;omega) gt (by have:=ot.sz;omega) gt true m
 rw[decide_eq_true rfl] at ee
 have ep:=zgcb (p:=t) (by omega) (by have:=ot.sz;omega) m
 have hn:=z0q (.node .sum ts) (n:="at") (by decide) m
 have es:sizes (pre++[t])=sizes pre+size t:=by rw[z9m,zdf,z5h,Nat.add_zero]
 have ll:lnW [("Block",zn)] (.d (.lst ((parts t).map tdD))) m = .ok (.d (.int (size t:Int))) m:=by rw[zx6,ye,zeg]
 have ad:((1+sizes pre:Nat):Int)+(size t:Int)=((1+sizes (pre++[t]):Nat):Int):=by
  rw[es]
  omega
 generalize (parts t).map tdD=PT at *
 generalize ((1+sizes (pre++[t]):Nat):Int)=A2 at *
 generalize ((1+sizes pre:Nat):Int)=A1 at *
 generalize (size t:Int)=Z at *
 generalize pgD (.node .sum ts)=P at *
 generalize pgD t=Q at *
 generalize tdD t=T at *
 simp[-add_int,-zx6,-z6t,z5e,ea,el,ee,ep,hn,ll,ad]
theorem zd1 (x1:Option W) (m:Mem):∀(post pre:List Pg) (x3:Option W),ts=pre++post→∃x3',loopD (gNm 3) z5e (post.map tdD) [some (.d (pgD (.node .sum ts))),x1,some (.d (.int ((1+sizes pre:Nat):Int))),x3] m = .nx [some (.d (pgD (.node .sum ts))),x1,some (.d (.int ((1+sizes ts:Nat):Int))),x3'] m
 |[],pre,x3,e=>by
  rw[ygb] at e
  rw[e]
  exact⟨x3,rfl⟩
 |t::post,pre,x3,e=>by
  have st:=zaab h e x1 m
  obtain⟨x3',ih⟩:=zd1 x1 m post (pre++[t]) (some (.d (tdD t))) (by rw[e];simp)
  refine⟨x3',?_⟩
  rw[yr]
  unfold loopD
  show (match z5e [some (.d (pgD (.node .sum ts))),x1,some (.d (.int ((1+sizes pre:Nat):Int))),some (.d (tdD t))] m with
   |.nx dl2 m2=>loopD (gNm 3) z5e (post.map tdD) dl2 m2
   |.ct dl2 m2=>loopD (gNm 3) z5e (post.map tdD) dl2 m2
   |.bk dl2 m2=>.nx dl2 m2
   |.rt w m2=>.rt w m2
   |.exc dl2 C f p m2=>.exc dl2 C f p m2
   |.no=>.no)=_
  rw[st]
  exact ih
theorem z91 (m:Mem):zxe [.d (pgD (.node .sum ts)),.d (.lst (ts.map tdD))] m = .ok (.d (.bl true)) m:=by
 have hz:=h.size
 have e1:=zhs (.node .sum ts)
 have e2:=znt h.dep h.o h.g m
 have et:tdD (.node .sum ts) = .tup [.str "sum",.int 0,.tup (ts.map tdD)]:=zud _ _
 rw[et] at e2
 have e3:=zogb (p:=.node .sum ts) (q:=.node .sum ts) (by rw[zqn];omega) h.g (by rw[zqn];omega) h.g true m
 rw[decide_eq_true rfl] at e3
 have lt:ts.length≤16:=by
  have:∀l:List Pg,l.length≤sizes l:=fun l=>by
   induction l with
   |nil=>simp
   |cons p l ih=>rw[zdf,yw];have:=size_pos p;omega
  have:=this ts
  omega
 have tp:=znhb (ts.map tdD) (by rw[ye];unfold sizeLine;omega)
 obtain⟨x3,lp⟩:=zd1 h (some (.d (.lst (ts.map tdD)))) m ts [] none rfl
 have s0:((1+sizes ([]:List Pg):Nat):Int)=1:=by rw[z5h];rfl
 rw[s0] at lp
 have ep:=zxbb (.node .sum ts) m
 rw[zqn] at ep
 have ne:neD (.str "sum") (.str "sum")=some (.bl false):=by rw[zf2,decide_eq_true rfl];rfl
 have ew:(Lab.sum).w=("sum" : Str):=rfl
 have e1:fldD ["Program"] "word" (pgD (.node .sum ts))=some (.str "sum"):=e1
 generalize ((1+sizes ts:Nat):Int)=A at *
 generalize ts.map tdD=T at *
 generalize pgD (.node .sum ts)=P at *
 simp[-zf2,-z6t,zxe,z4p,zqm,e1,e2,e3,tp,lp,ep,ne,znp]
end LK
namespace LK
open PySem PySem.Spec L2 DL TM SX NT PG
structure Ts (ts:List Pg) (ns:List Nat):Prop where
 s:∀q∈ts,isSum q.lab=false
 g:∀q∈ts,GoodB q
 dp:∀q∈ts,dep q≤4
 nd:(ts.flatMap nms).Nodup
 dj:∀c∈ts.flatMap nms,c ∉ ns
 nn:ns.Nodup
 wt:(ts.map weight).sum+ns.length≤3
 sz:sizes ts+ns.length≤2*ts.length+3
theorem Ts.add {a b:List Pg} {ns us:List Nat} {p:Pg} {z:Nat} (h:Ts (a++b) (ns++us)) (hp:Pt p us (2+us.length) z) (hz:z≤4) (hs:isSum p.lab=false):Ts (a++p::b) ns:=by
 have pm:(a++p::b).Perm (p::(a++b)):=List.perm_middle
 have pf:=pm.flatMap_right nms
 rw[yvb] at pf
 have nn:=yjc.mp h.nn
 have mm:∀{q},q∈a++p::b→q=p∨q∈a++b:=fun {q} hq=>by
  rcases yz.mp hq with hq |hq
  ·exact .inr (ypb _ hq)
  ·rcases yo.mp hq with rfl |hq
   ·exact .inl rfl
   ·exact .inr (ybc _ hq)
 refine⟨fun q hq=>?_,fun q hq=>?_,fun q hq=>?_,?_,fun c hc=>?_,nn.1,?_,?_⟩
 ·rcases mm hq with rfl |hq
  ·exact hs
  ·exact h.s q hq
 ·rcases mm hq with rfl |hq
  ·exact hp.g
  ·exact h.g q hq
 ·rcases mm hq with rfl |hq
  ·have:=hp.dp;omega
  ·exact h.dp q hq
 ·refine pf.nodup_iff.mpr (yjc.mpr ⟨hp.nd,h.nd,fun x hx y hy e=>?_⟩)
  subst e
  exact h.dj x hy (ybc _ (hp.su x hx))
 ·rcases yz.mp (pf.mem_iff.mp hc) with hc |hc
  ·exact fun z=>nn.2.2 c z c (hp.su c hc) rfl
  ·exact fun z=>h.dj c hc (ypb _ z)
 ·have e:=(pm.map weight).sum_nat
  rw[e,yr,yfc]
  have:=h.wt
  have:=hp.wt
  rw[yg] at *
  omega
 ·have:=h.sz
  have:=hp.sz
  have e:=z9m (a:=a) (b:=p::b)
  have e2:=z9m (a:=a) (b:=b)
  rw[zdf] at e
  simp only[yg,yw] at *
  omega
theorem Ts.sm {ts:List Pg} {ns:List Nat} (h:Ts ts ns) (h2:2≤ts.length) (hz:sizes ts≤15):Sm ts where
 l2:=h2
 ns:=h.s
 o:=⟨by rw[zqn];omega,by rw[zt6];exact h.nd,by rw[z40];have:=h.wt;omega⟩
 g:=GoodB.mk ⟨h2,h.s⟩ h.g
 dp:=h.dp
theorem sms_N {ts:List Pg} (h0:ts≠[]) (h:∀q∈ts,isSum q.lab=false):sms (sumN ts)=ts:=by
 cases ts with
 |nil=>exact absurd rfl h0
 |cons a as=>
  cases as with
  |nil=>exact za1 (h a yb)
  |cons b bs=>exact zj6 _
theorem z6ab {ts:List Pg} (h:2≤ts.length):sumN ts = .node .sum ts:=by
 cases ts with
 |nil=>simp at h
 |cons a as=>
  cases as with
  |nil=>simp at h
  |cons b bs=>rfl
/-- a thing that stands for a member -/
inductive Th (hs:List HC) (r:Mem):W→Pg→Prop where
 |prog (p:Pg):Th hs r (.d (pgD p)) p
 |text {ls:List (List Nat)} (g:lokB (.fixed ls) []):Th hs r (.d (.str (S (ybb [10] ls)))) (.node (.fixed ls) [])
 |block {ls:List (List Nat)} (g:lokB (.fixed ls) []) {i j:Nat} (h:HH hs i j ls):Th hs r (.h i) (.node (.fixed ls) [])
theorem Th.from_ {hs:List HC} {r:Mem} {y:W} {p:Pg} (h:Th hs r y p):zsc [y] (.hp hs::r) = .ok (.d (pgD p)) (.hp hs::r):=by
 cases h with
 |prog p=>exact zv2 p _
 |text g=>exact zmfb g _
 |block g h=>exact z0cb g h
theorem bin_l {hs:List HC} {r:Mem} {y:W} {p:Pg} {ts:List Pg} (h:Th hs r y p) (h0:ts≠[]) (hs_:∀q∈ts,isSum q.lab=false) (hp:isSum p.lab=false) (o:POk (.node .sum (ts++[p]))) :
  binRW bopTs binB binA binD ropTs binRt addD (.d (pgD (sumN ts))) y (.hp hs::r) = .ok (.d (pgD (sumN (ts++[p])))) (.hp hs::r):=by
 have e1:=sms_N h0 hs_
 have e2:=za1 hp
 have e3:sumN (ts++[p]) = .node .sum (ts++[p]):=z6ab (by rw[yg];have:=y9c.mpr h0;simp;omega)
 have ea:=add_l (p:=sumN ts) (q:=p) h.from_ (by rw[e1];exact h0) (by rw[e2];simp) (by rw[e1,e2];exact o)
 rw[e1,e2] at ea
 rw[e3]
 cases h with
 |prog p=>rw[zzdb];exact ea
 |text g=>rw[zjmb];exact ea
 |block g h=>rw[zkmb h.b];exact ea
theorem bin_r {hs:List HC} {r:Mem} {y:W} {p:Pg} {ts:List Pg} (h:Th hs r y p) (h0:ts≠[]) (hs_:∀q∈ts,isSum q.lab=false) (hp:isSum p.lab=false) (o:POk (.node .sum (p::ts))) :
  binRW bopTs binB binA binD ropTs binRt addD y (.d (pgD (sumN ts))) (.hp hs::r) = .ok (.d (pgD (sumN (p::ts)))) (.hp hs::r):=by
 have e1:=sms_N h0 hs_
 have e2:=za1 hp
 have e3:sumN (p::ts) = .node .sum (p::ts):=z6ab (by rw[yw];have:=y9c.mpr h0;omega)
 have er:=add_r (p:=sumN ts) (q:=p) h.from_ (by rw[e1];exact h0) (by rw[e2];simp) (by rw[e1,e2];exact o)
 rw[e1,e2] at er
 rw[e3]
 cases h with
 |prog p=>
  have ea:=add_l (p:=p) (q:=sumN ts) (zv2 (sumN ts) (.hp hs::r)) (by rw[e2];simp) (by rw[e1];exact h0) (by rw[e1,e2];exact o)
  rw[e1,e2] at ea
  rw[zzdb]
  exact ea
 |text g=>rw[zimb];exact er
 |block g h=>rw[zlmb h.b];exact er
theorem z59 {p:Pg} (hd:dep p≤24) (o:POk p) (g:GoodB p) (m:Mem):zhe [.d (.str Kd.prog.w),.d (tdD p)] m = .ok (.d (pgD p)) m:=by
 have e:=znt hd o g m
 have q:eqD (.str "program") (.str "program")=some (.bl true):=by rw[zk,decide_eq_true rfl]
 generalize pgD p=P at *
 generalize tdD p=T at *
 simp[-zk,zhe,ztj,zhh,Kd.w,e,q]
theorem z60 {ls:List (List Nat)} (g:lokB (.fixed ls) []):tdD (.node (.fixed ls) []) = .tup [.str "fixed",.tup (lnD ls),.tup []]∧joinD (.str (S [10])) [.tup (lnD ls)]=some (.str (S (ybb [10] ls))):=
 ⟨zud _ _,zn2 rfl (fun y hy=>by
  obtain⟨r,hr,rfl⟩:=g.2.2.2 y hy
  have:=hr.len
  omega) (by have:=g.2.2.1;omega) (by simp)⟩
theorem z49 {ls:List (List Nat)} (g:lokB (.fixed ls) []) (m:Mem):zhe [.d (.str Kd.text.w),.d (tdD (.node (.fixed ls) []))] m = .ok (.d (.str (S (ybb [10] ls)))) m:=by
 obtain⟨e1,e2⟩:=z60 g
 rw[e1]
 have q:eqD (.str "text") (.str "program")=some (.bl false):=by rw[zk];rfl
 have q2:eqD (.str "text") (.str "text")=some (.bl true):=by rw[zk,decide_eq_true rfl]
 have enl:Str.ofString "\n" = S [10]:=by decide
 have ix:∀t m,ixW t (.d (.tup [.str "fixed",.tup (lnD ls),.tup []])) (.d (.int 1)) m = .ok (.d (.tup (lnD ls))) m:=fun t m=>rfl
 generalize S (ybb [10] ls)=T at *
 generalize lnD ls=L at *
 generalize D.tup [.str "fixed",.tup L,.tup []]=X at *
 simp[-zk,zhe,ztj,zhh,Kd.w,q,q2,enl,ix,e2]
theorem zh6 {ls:List (List Nat)} (g:lokB (.fixed ls) []) (hs:List HC) (r:Mem):Got hs r (zhe [.d (.str Kd.block.w),.d (tdD (.node (.fixed ls) []))] (.hp hs::r)) ls:=by
 obtain⟨e1,e2⟩:=z60 g
 obtain⟨_,hne0,h60,hx⟩:=g
 obtain⟨rs,e,hr⟩:=zsx hx
 subst e
 obtain⟨i,j,hs',eg,p,hh,b1,b2,b3⟩:=zifb hr (by decide) (by simpa using hne0) (by rw[ye] at h60;omega) hs r
 refine⟨i,j,hs',?_,p,hh,b1,b2,b3⟩
 clear hh
 rw[e1]
 have q:eqD (.str "block") (.str "program")=some (.bl false):=by rw[zk];rfl
 have q2:eqD (.str "block") (.str "text")=some (.bl false):=by rw[zk];rfl
 have enl:Str.ofString "\n" = S [10]:=by decide
 have ix:∀t m,ixW t (.d (.tup [.str "fixed",.tup (lnD (rs.map zm)),.tup []])) (.d (.int 1)) m = .ok (.d (.tup (lnD (rs.map zm)))) m:=fun t m=>rfl
 generalize rs.map zm=ls at *
 generalize S (ybb [10] ls)=T at *
 generalize lnD ls=L at *
 generalize D.tup [.str "fixed",.tup L,.tup []]=X at *
 simp[-zk,zhe,ztj,zhh,Kd.w,q,q2,enl,ix,e2,eg]
end LK
namespace LK
open PySem PySem.Spec L2 DL TM SX NT PG
structure E where
 (lo hi t i j:Nat)
 ls:List (List Nat)
def tpH (i:Nat) (ls:List (List Nat)):HC:=.tup [.h i,.d (.lst (lnD ls))]
def esH (es:List E):List HW:=es.map fun e=>.h e.t
structure Ent (hs:List HC) (e:E):Prop where
 tp:hs[e.t]?=some (tpH e.i e.ls)
 hh:HH hs e.i e.j e.ls
 g:lokB (.fixed e.ls) []
 ij:e.i≠e.j
 ti:e.t≠e.i
 tj:e.t≠e.j
 bt:e.lo≤e.t∧e.t<e.hi
 bi:e.lo≤e.i∧e.i<e.hi
 bj:e.lo≤e.j∧e.j<e.hi
theorem Ent.of {hs hs':List HC} {e:E} (h:Ent hs e) (k:∀x,e.lo≤x→x<e.hi→hs'[x]?=hs[x]?):Ent hs' e:=
 ⟨by rw[k _ h.bt.1 h.bt.2];exact h.tp,⟨by rw[k _ h.bi.1 h.bi.2];exact h.hh.o,by rw[k _ h.bj.1 h.bj.2];exact h.hh.l⟩,h.g,h.ij,h.ti,h.tj,h.bt,h.bi,h.bj⟩
/-- the blocks kept in the list at b -/
structure Blks (hs:List HC) (b:Nat) (es:List E):Prop where
 l:hs[b]?=some (.lst (esH es))
 e:∀e∈es,Ent hs e
 p:es.Pairwise fun e f=>e.hi≤f.lo
 lo:∀e∈es,b<e.lo
 hi:∀e∈es,e.hi≤hs.length
theorem Blks.keep {X:List Nat} {hs hs':List HC} {b:Nat} {es:List E} (h:Blks hs b es) (k:Kp X hs hs') (hX:∀x∈X,x<b):Blks hs' b es:=
 ⟨k.at_ h.l (fun z=>absurd (hX b z) (Nat.lt_irrefl b)),fun e he=>(h.e e he).of fun x h1 h2=>k.k x (yvc h2 (h.hi e he)) (fun z=>by have:=hX x z;have:=h.lo e he;omega),h.p,h.lo,fun e he=>yy (h.hi e he) k.l⟩
theorem Pre.kp {hs hs':List HC} (h:Pre hs hs') (X:List Nat):Kp X hs hs':=by
 obtain⟨e,rfl⟩:=h
 exact⟨by rw[yg];omega,fun x hx _=>yl hx⟩
/-- one block more -/
theorem Blks.push {hs:List HC} {b:Nat} {es:List E} (h:Blks hs b es) {lo i j:Nat} {ls:List (List Nat)} (hh:HH hs i j ls) (g:lokB (.fixed ls) []) (hij:i≠j) (l1:lo≤i) (l2:lo≤j) (lb:b<lo) (le:∀e∈es,e.hi≤lo) :
  Blks ((hs++[tpH i ls]).set b (HC.lst (esH es++[HW.h hs.length]))) b (es++[⟨lo,hs.length+1,hs.length,i,j,ls⟩]):=by
 have li:=hh.lt
 have lb2:b<hs.length:=(yc.mp h.l).1
 have old:∀x,x≠b→x<hs.length→((hs++[tpH i ls]).set b (HC.lst (esH es++[HW.h hs.length])))[x]?=hs[x]?:=fun x hx hl=>by
  rw[yq (Ne.symm hx),yl hl]
 refine⟨?_,fun e he=>?_,?_,fun e he=>?_,fun e he=>?_⟩
 ·rw[yu (by rw[yg];omega)]
  congr 2
  exact (yob (f:=fun e:E=>HW.h e.t) (l₁:=es) (l₂:=[⟨lo,hs.length+1,hs.length,i,j,ls⟩])).symm
 ·rcases yz.mp he with he |he
  ·exact (h.e e he).of fun x h1 h2=>old x (by have:=h.lo e he;omega) (by have:=h.hi e he;omega)
  ·rw[yj.mp he]
   refine⟨?_,⟨?_,?_⟩,g,hij,?_,?_,⟨?_,?_⟩,⟨l1,?_⟩,⟨l2,?_⟩⟩
   ·show _=some (tpH i ls)
    rw[yq (by show b≠hs.length;omega),yf (yp _),yib]
    rfl
   ·rw[old _ (by show i≠b;omega) li.1];exact hh.o
   ·rw[old _ (by show j≠b;omega) li.2];exact hh.l
   ·show hs.length≠i;omega
   ·show hs.length≠j;omega
   ·show lo≤hs.length;omega
   ·show hs.length<hs.length+1;omega
   ·show i<hs.length+1;omega
   ·show j<hs.length+1;omega
 ·refine List.pairwise_append.mpr ⟨h.p,List.pairwise_singleton _ _,fun e he f hf=>?_⟩
  rw[yj.mp hf]
  exact le e he
 ·rcases yz.mp he with he |he
  ·exact h.lo e he
  ·rw[yj.mp he];exact lb
 ·rw[yeb,yg]
  rcases yz.mp he with he |he
  ·have:=h.hi e he;omega
  ·rw[yj.mp he];exact yp _
structure Inv (hs:List HC) (ns:List Nat) (ts:List Pg) (b:Nat) (es:List E) (n:Nat):Prop where
 st:HSt 2 1 0 n hs
 nm:Nm 3 hs ns
 lt:∀c∈ns,z7d c=true
 t:Ts ts ns
 bl:Blks hs b es
 b3:3<b
def lt0:DS:=(sAsg (eFn zye (aCons (eVar 1) (aCons (eVar 2) aNil))) (gTp 2 (zve (gNm 8) (zve (gNm 9) gNil_))))
def lt1:DS:=(sAsg (eFn zhe (aCons (eVar 8) (aCons (eVar 9) aNil))) (gNm 10))
def lt2:DS:=(sIf (bT (eFn z3b (aCons (eVar 1) (aCons (eC (.int 2)) aNil)))) (sSeq (sAsg (eBinR bopTs binB binA binD ropTs binRt addD (eVar 4) (eVar 10)) (gNm 4))
    (sAsg (eOp addD (eVar 5) (eLst (aCons (eVar 9) aNil))) (gNm 5))) (sSeq (sAsg (eBinR bopTs binB binA binD ropTs binRt addD (eVar 10) (eVar 4)) (gNm 4))
    (sAsg (eOp addD (eLst (aCons (eVar 9) aNil)) (eVar 5)) (gNm 5))))
def lt3:DS:=(sIf (bT (eOp eqD (eVar 8) (eC (.str "block")))) (sDrop (eAppL (eVar 6) (aCons (eTupH (aCons (eVar 10) (aCons (eB listD (aCons (eProp "Block" zqb (eVar 10)) aNil)) aNil))) aNil))) sNext)
theorem lt_eq:z7v=sSeq lt0 (sSeq lt1 (sSeq lt2 lt3)):=rfl
variable {x0 x3 x7 x8 x9 x10 x11 x12 x13:Option W} {r:Mem}
theorem zbcb {hs:List HC} {ts:List Pg} {p:Pg} {y:W} {n:Nat} {b:W} (h:HSt 2 1 0 (n+1) hs) (hT:∀hs',Kp [2,1] hs hs'→Th hs' r y p) (h0:ts≠[]) (hl:ts.length≤16) (hs_:∀q∈ts,isSum q.lab=false) (hp:isSum p.lab=false) (o1:POk (.node .sum (ts++[p]))) (o2:POk (.node .sum (p::ts))) :
  ∃(ts':List Pg) (hs':List HC),lt2 [x0,some (.h 2),some (.h 3),x3,some (.d (pgD (sumN ts))),some (.d (.lst (ts.map tdD))),some b,x7,x8,some (.d (tdD p)),some y,x11,x12,x13] (.hp hs::r) = .nx [x0,some (.h 2),some (.h 3),x3,some (.d (pgD (sumN ts'))),some (.d (.lst (ts'.map tdD))),some b,x7,x8,some (.d (tdD p)),some y,x11,x12,x13] (.hp hs'::r)∧(ts'=ts++[p]∨ts'=p::ts)∧HSt 2 1 0 n hs'∧Kp [2,1] hs hs':=by
 obtain⟨v,hs1,e1,⟨v0,v1⟩,h1,k1⟩:=zro (q:=2) (n:=n) r h (by decide) (by decide)
 have th:=hT hs1 k1
 by_cases hv:v=0
 ·subst hv
  have eb:=bin_r th h0 hs_ hp o2
  refine⟨p::ts,hs1,?_,.inr rfl,h1,k1⟩
  have ea:addD (.lst [tdD p]) (.lst (ts.map tdD))=some (.lst ((p::ts).map tdD)):=by
   show chk _ _=_
   rw[zdc (by rw[ye];unfold sizeLine;simp;omega)]
   rfl
  generalize ((p::ts).map tdD)=L2 at *
  generalize ts.map tdD=L1 at *
  generalize pgD (sumN (p::ts))=P2 at *
  generalize pgD (sumN ts)=P1 at *
  generalize tdD p=T at *
  simp[-zcp,lt2,e1,z5x,eBinR,eb,ea]
 ·have hv1:v=1:=by omega
  subst hv1
  have eb:=bin_l th h0 hs_ hp o1
  refine⟨ts++[p],hs1,?_,.inl rfl,h1,k1⟩
  have ea:addD (.lst (ts.map tdD)) (.lst [tdD p])=some (.lst ((ts++[p]).map tdD)):=by
   show chk _ _=_
   rw[zdc (by rw[ye];unfold sizeLine;simp;omega),yob]
   rfl
  generalize ((ts++[p]).map tdD)=L2 at *
  generalize ts.map tdD=L1 at *
  generalize pgD (sumN (ts++[p]))=P2 at *
  generalize pgD (sumN ts)=P1 at *
  generalize tdD p=T at *
  simp[-zcp,lt2,e1,z5x,eBinR,eb,ea]
theorem zwgb {K:Kd} (hK:K ≠ .block) {m:Mem} {x1 x2 x4 x5 x6:Option W}:lt3 [x0,x1,x2,x3,x4,x5,x6,x7,some (.d (.str K.w)),x9,x10,x11,x12,x13] m = .nx [x0,x1,x2,x3,x4,x5,x6,x7,some (.d (.str K.w)),x9,x10,x11,x12,x13] m:=by
 have q:eqD (.str K.w) (.str "block")=some (.bl false):=by
  rw[zk]
  cases K with
  |text=>rfl
  |block=>exact absurd rfl hK
  |prog=>rfl
 generalize K.w=W at *
 simp[-zk,lt3,q]
theorem z0ib {hs:List HC} {b i j:Nat} {es:List E} {ls:List (List Nat)} (hb:hs[b]?=some (.lst (esH es))) (hl:es.length≤100) (hh:HH hs i j ls) (hz:ls.length≤100) {x1 x2 x4 x5:Option W} :
  lt3 [x0,x1,x2,x3,x4,x5,some (.h b),x7,some (.d (.str Kd.block.w)),x9,some (.h i),x11,x12,x13] (.hp hs::r) = .nx [x0,x1,x2,x3,x4,x5,some (.h b),x7,some (.d (.str Kd.block.w)),x9,some (.h i),x11,x12,x13] (.hp ((hs++[tpH i ls]).set b (HC.lst (esH es++[HW.h hs.length])))::r):=by
 have q:eqD (.str Kd.block.w) (.str "block")=some (.bl true):=by rw[zk];rfl
 have lb2:b<hs.length:=(yc.mp hb).1
 have e1:propW "Block" zqb (.h i) (.hp hs::r) = .ok (.d (.tup (lnD ls))) (.hp hs::r):=by
  unfold propW
  rw[if_pos (blkC hh.b),ztbb hh.b]
  rfl
 have e2:=zdcb (lnD ls) (by unfold lnD;rw[ye];unfold sizeLine;omega)
 have ty:isTy "list" (.h b) (.hp hs::r)=true:=by
  unfold isTy
  rw[rd_h,zob,hb]
  rfl
 have e3:zm4 [.h i,.d (.lst (lnD ls))] (.hp hs::r) = .ok (.h hs.length) (.hp (hs++[tpH i ls])::r):=by
  unfold zm4
  simp only[hwAll,whw_h,whw_d]
  rw[if_pos (by simp)]
  unfold newH
  rw[zob,zeh]
  rfl
 have e4:appLW (.h b) [.h hs.length] (.hp (hs++[tpH i ls])::r) = .ok (.d .non) (.hp ((hs++[tpH i ls]).set b (HC.lst (esH es++[HW.h hs.length])))::r):=by
  have hb2:(hs++[tpH i ls])[b]?=some (.lst (esH es)):=by rw[yl lb2];exact hb
  have eg:Loc.get (.h b) (.hp (hs++[tpH i ls])::r)=some (esH es):=by
   unfold Loc.get
   simp only[zob,hb2]
  unfold appLW W.loc
  simp only[hwAll,whw_h,eg]
  rw[if_pos (by unfold esH;rw[ye];unfold sizeLine;omega)]
  rfl
 clear hh
 generalize (hs++[tpH i ls]).set b (HC.lst (esH es++[HW.h hs.length]))=H2 at *
 generalize hs++[tpH i ls]=H1 at *
 generalize Kd.block.w=W at *
 generalize hn:hs.length=N at *
 simp[-zk,-rd_h,lt3,q,e1,e2,ty,e3,e4]
end LK
namespace LK
open PySem PySem.Spec L2 DL TM SX NT PG
variable {x0 x3 x7 x8 x9 x10 x11 x12 x13:Option W} {r:Mem}
theorem HH.kp {hs hs':List HC} {i j:Nat} {ls:List (List Nat)} {X:List Nat} (h:HH hs i j ls) (k:Kp X hs hs') (hi:i ∉ X) (hj:j ∉ X):HH hs' i j ls:=⟨k.at_ h.o hi,k.at_ h.l hj⟩
theorem zdlb {m m':Mem} {k t:D} {x4 x5 x6:Option W} {a b:W} (h:zye [a,b] m = .ok (.d (.tup [k,t])) m'):lt0 [x0,some a,some b,x3,x4,x5,x6,x7,x8,x9,x10,x11,x12,x13] m = .nx [x0,some a,some b,x3,x4,x5,x6,x7,some (.d k),some (.d t),x10,x11,x12,x13] m':=by
 simp[lt0,h,gTp,zve,gNil_]
theorem zccb {m m':Mem} {k t:W} {x1 x2 x4 x5 x6:Option W} {y:W} (h:zhe [k,t] m = .ok y m'):lt1 [x0,x1,x2,x3,x4,x5,x6,x7,some k,some t,x10,x11,x12,x13] m = .nx [x0,x1,x2,x3,x4,x5,x6,x7,some k,some t,some y,x11,x12,x13] m':=by
 simp[lt1,h]
theorem zmhb {hs:List HC} {ns:List Nat} {ts:List Pg} {b n:Nat} {es:List E} (I:Inv hs ns ts b es (n+80)) (h1:1≤ts.length) (h4:ts.length≤4) (he:es.length≤ts.length) :
  ∃(ts':List Pg) (ns':List Nat) (es':List E) (hs':List HC) (y8 y9 y10:Option W),z7v [x0,some (.h 2),some (.h 3),x3,some (.d (pgD (sumN ts))),some (.d (.lst (ts.map tdD))),some (.h b),x7,x8,x9,x10,x11,x12,x13] (.hp hs::r) =
   .nx [x0,some (.h 2),some (.h 3),x3,some (.d (pgD (sumN ts'))),some (.d (.lst (ts'.map tdD))),some (.h b),x7,y8,y9,y10,x11,x12,x13] (.hp hs'::r)∧Inv hs' ns' ts' b es' n∧ts'.length=ts.length+1∧es'.length≤es.length+1:=by
 obtain⟨K,p,hs1,ns',us,e0,M,eN,st1,k1,nm1⟩:=z6bb (i:=2) (g:=1) (s:=0) (q:=3) (n:=n+10) r (by decide) I.lt I.st I.nm
 have b3:=I.b3
 have bl1:Blks hs1 b es:=I.bl.keep k1 (fun x hx=>by simp at hx;omega)
 have t0:=I.t
 rw[eN] at t0
 have T1:Ts (ts++[p]) ns':=Ts.add (a:=ts) (b:=[]) (by simpa using t0) M.pt (by decide) M.ns
 have T2:Ts (p::ts) ns':=Ts.add (a:=[]) (b:=ts) t0 M.pt (by decide) M.ns
 have z1:sizes (ts++[p])≤15:=by have:=T1.sz;simp only[yg,yw,yzb] at this;omega
 have z2:sizes (p::ts)≤15:=by have:=T2.sz;simp only[yw] at this;omega
 have S1:=T1.sm (by simp;omega) z1
 have S2:=T2.sm (by simp;omega) z2
 have h0:ts≠[]:=fun z=>by rw[z] at h1;simp at h1
 obtain⟨op,gp⟩:=S2.mem (t:=p) yb
 have dp:=S2.dp p yb
 have lt':∀c∈ns',z7d c=true:=fun c hc=>I.lt c (by rw[eN];exact ypb _ hc)
 have tt:∀ts':List Pg,ts'=ts++[p]∨ts'=p::ts→Ts ts' ns'∧ts'.length=ts.length+1:=fun ts' h=>by
  rcases h with rfl |rfl
  ·exact⟨T1,by simp⟩
  ·exact⟨T2,by simp⟩
 have f0:=zdlb (x0:=x0) (x3:=x3) (x4:=some (.d (pgD (sumN ts)))) (x5:=some (.d (.lst (ts.map tdD)))) (x6:=some (.h b)) (x7:=x7) (x8:=x8) (x9:=x9) (x10:=x10) (x11:=x11) (x12:=x12) (x13:=x13) e0
 cases K with
 |prog=>
  have f1:=zccb (x0:=x0) (x1:=some (.h 2)) (x2:=some (.h 3)) (x3:=x3) (x4:=some (.d (pgD (sumN ts)))) (x5:=some (.d (.lst (ts.map tdD)))) (x6:=some (.h b)) (x7:=x7) (x10:=x10) (x11:=x11) (x12:=x12) (x13:=x13) (z59 (by omega) op gp (.hp hs1::r))
  obtain⟨ts',hs2,f2,ht,st2,k2⟩:=zbcb (x0:=x0) (x3:=x3) (x7:=x7) (x8:=some (.d (.str Kd.prog.w))) (x11:=x11) (x12:=x12) (x13:=x13) (r:=r) (n:=n) (b:=.h b) (st1.mono (by omega)) (fun hs' _=>Th.prog p) h0 (by omega) t0.s M.ns S1.o S2.o
  have f3:=zwgb (K:=.prog) (fun z=>nomatch z) (m:=.hp hs2::r) (x0:=x0) (x1:=some (.h 2)) (x2:=some (.h 3)) (x3:=x3) (x4:=some (.d (pgD (sumN ts')))) (x5:=some (.d (.lst (ts'.map tdD)))) (x6:=some (.h b)) (x7:=x7) (x9:=some (.d (tdD p))) (x10:=some (.d (pgD p))) (x11:=x11) (x12:=x12) (x13:=x13)
  obtain⟨tA,tB⟩:=tt ts' ht
  refine⟨ts',ns',es,hs2,some (.d (.str Kd.prog.w)),some (.d (tdD p)),some (.d (pgD p)),?_,⟨st2,nm1.keep k2 (by decide) (by decide),lt',tA,bl1.keep k2 (fun x hx=>by simp at hx;omega),b3⟩,tB,by omega⟩
  rw[lt_eq,zxi,f0]
  show sSeq lt1 (sSeq lt2 lt3) _ _=_
  rw[zxi,f1]
  show sSeq lt2 lt3 _ _=_
  rw[zxi,f2]
  exact f3
 |text=>
  obtain⟨ls,rfl,g⟩:∃ls,p = .node (.fixed ls) []∧lokB (.fixed ls) []:=by
   rcases M.fx with z |z
   ·cases z
   ·exact z
  have f1:=zccb (x0:=x0) (x1:=some (.h 2)) (x2:=some (.h 3)) (x3:=x3) (x4:=some (.d (pgD (sumN ts)))) (x5:=some (.d (.lst (ts.map tdD)))) (x6:=some (.h b)) (x7:=x7) (x10:=x10) (x11:=x11) (x12:=x12) (x13:=x13) (z49 g (.hp hs1::r))
  obtain⟨ts',hs2,f2,ht,st2,k2⟩:=zbcb (x0:=x0) (x3:=x3) (x7:=x7) (x8:=some (.d (.str Kd.text.w))) (x11:=x11) (x12:=x12) (x13:=x13) (r:=r) (n:=n) (b:=.h b) (st1.mono (by omega)) (fun hs' _=>Th.text g) h0 (by omega) t0.s M.ns S1.o S2.o
  have f3:=zwgb (K:=.text) (fun z=>nomatch z) (m:=.hp hs2::r) (x0:=x0) (x1:=some (.h 2)) (x2:=some (.h 3)) (x3:=x3) (x4:=some (.d (pgD (sumN ts')))) (x5:=some (.d (.lst (ts'.map tdD)))) (x6:=some (.h b)) (x7:=x7) (x9:=some (.d (tdD (.node (.fixed ls) [])))) (x10:=some (.d (.str (S (ybb [10] ls))))) (x11:=x11) (x12:=x12) (x13:=x13)
  obtain⟨tA,tB⟩:=tt ts' ht
  refine⟨ts',ns',es,hs2,some (.d (.str Kd.text.w)),some (.d (tdD (.node (.fixed ls) []))),some (.d (.str (S (ybb [10] ls)))),?_,⟨st2,nm1.keep k2 (by decide) (by decide),lt',tA,bl1.keep k2 (fun x hx=>by simp at hx;omega),b3⟩,tB,by omega⟩
  rw[lt_eq,zxi,f0]
  show sSeq lt1 (sSeq lt2 lt3) _ _=_
  rw[zxi,f1]
  show sSeq lt2 lt3 _ _=_
  rw[zxi,f2]
  exact f3
 |block=>
  obtain⟨ls,rfl,g⟩:∃ls,p = .node (.fixed ls) []∧lokB (.fixed ls) []:=by
   rcases M.fx with z |z
   ·cases z
   ·exact z
  obtain⟨i,j,hs2,e1,pre,hh,i1,j1,ij⟩:=zh6 g hs1 r
  have f1:=zccb (x0:=x0) (x1:=some (.h 2)) (x2:=some (.h 3)) (x3:=x3) (x4:=some (.d (pgD (sumN ts)))) (x5:=some (.d (.lst (ts.map tdD)))) (x6:=some (.h b)) (x7:=x7) (x10:=x10) (x11:=x11) (x12:=x12) (x13:=x13) e1
  have kp:=pre.kp []
  have st2:HSt 2 1 0 (n+10) hs2:=st1.keep kp (by simp) (by simp) (by simp)
  have nm2:Nm 3 hs2 ns':=kp.at_ nm1 (by simp)
  have bl2:Blks hs2 b es:=bl1.keep kp (fun x hx=>nomatch hx)
  have lb1:b<hs1.length:=(yc.mp bl1.l).1
  obtain⟨ts',hs3,f2,ht,st3,k3⟩:=zbcb (x0:=x0) (x3:=x3) (x7:=x7) (x8:=some (.d (.str Kd.block.w))) (x11:=x11) (x12:=x12) (x13:=x13) (r:=r) (n:=n) (b:=.h b) (y:=.h i) (st2.mono (by omega)) (fun hs' k=>Th.block g (hh.kp k (by simp;omega) (by simp;omega))) h0 (by omega) t0.s M.ns S1.o S2.o
  have hh3:HH hs3 i j ls:=hh.kp k3 (by simp;omega) (by simp;omega)
  have nm3:Nm 3 hs3 ns':=nm2.keep k3 (by decide) (by decide)
  have bl3:Blks hs3 b es:=bl2.keep k3 (fun x hx=>by simp at hx;omega)
  have f3:=z0ib (r:=r) bl3.l (by omega) hh3 (by have:=g.2.2.1;omega) (x0:=x0) (x1:=some (.h 2)) (x2:=some (.h 3)) (x3:=x3) (x4:=some (.d (pgD (sumN ts')))) (x5:=some (.d (.lst (ts'.map tdD)))) (x7:=x7) (x9:=some (.d (tdD (.node (.fixed ls) [])))) (x11:=x11) (x12:=x12) (x13:=x13)
  obtain⟨tA,tB⟩:=tt ts' ht
  have k4:Kp [b] hs3 ((hs3++[tpH i ls]).set b (HC.lst (esH es++[HW.h hs3.length]))):=(Kp.push [b] hs3 _).trans (Kp.set (by simp) _)
  have bl4:=bl3.push (lo:=hs1.length) hh3 g ij i1 j1 lb1 bl1.hi
  refine⟨ts',ns',es++[⟨hs1.length,hs3.length+1,hs3.length,i,j,ls⟩],(hs3++[tpH i ls]).set b (HC.lst (esH es++[HW.h hs3.length])),some (.d (.str Kd.block.w)),some (.d (tdD (.node (.fixed ls) []))),some (.h i),?_,⟨st3.keep k4 (by simp;omega) (by simp;omega) (by simp;omega),k4.at_ nm3 (by simp;omega),lt',tA,bl4,b3⟩,tB,by simp⟩
  rw[lt_eq,zxi,f0]
  show sSeq lt1 (sSeq lt2 lt3) _ _=_
  rw[zxi,f1]
  show sSeq lt2 lt3 _ _=_
  rw[zxi,f2]
  exact f3
end LK
namespace LK
open PySem PySem.Spec L2 DL TM SX NT PG
def lateL:List Nat:=[108,97,116,101]
def moreL:List Nat:=[109,111,114,101]
def lb0:DS:=(sSetO [("Block",zpb)] (eC (.str "late")) (eVar 11) (eC (.int 0)))
def lb1:DS:=(sAugO 11 [("Block",zpc)] (eC (.int 3)))
def lb2:DS:=(sAugO 11 [("Block",ztd)] (eC (.str "more")))
def lb3:DS:=(sIf (bT (eOp neD (eIx [("Block",zf)] (eB listD (aCons (eProp "Block" zqb (eVar 11)) aNil)) (eC (.int 0))) (eC (.str "   late")))) (sRet (eC (.bl false))) sNext)
theorem lb_eq:zd0=sSeq lb0 (sSeq lb1 (sSeq lb2 lb3)):=rfl
theorem z3lb:Str.ofString "late" = S lateL:=by decide
theorem z1lb:Str.ofString "more" = S moreL:=by decide
theorem zkjb:Str.ofString "   late" = S (32::32::32::lateL):=by decide
theorem zjhb:Wd lateL:=⟨⟨108,_,rfl,by decide⟩,⟨[108,97,116],101,rfl,by decide⟩,by decide⟩
theorem zihb:Wd moreL:=⟨⟨109,_,rfl,by decide⟩,⟨[109,111,114],101,rfl,by decide⟩,by decide⟩
theorem zheb:RowIn 20 30 (0,lateL):=.inr ⟨by decide,by decide,zjhb,by decide⟩
theorem row_more:RowIn 40 30 (0,moreL):=.inr ⟨by decide,by decide,zihb,by decide⟩
theorem zzcb (hs:List HC) (r:Mem):From hs r (.d (.str (S moreL))) ([((0,moreL):Row)].map zm):=by
 refine⟨hs,?_,Pre.refl hs⟩
 have e:=zo6 (rs:=[((0,moreL):Row)]) (B:=40) (L:=30) (fun r hr=>by rw[yj.mp hr];exact row_more) (by decide) (List.cons_ne_nil _ _) (by show (1:Nat)≤3000;decide) (.hp hs::r)
 have ej:ybb [10] ([((0,moreL):Row)].map zm)=moreL:=rfl
 rw[ej] at e
 generalize [((0,moreL):Row)].map zm=ls at *
 have e1:fldD ["Block"] "rows" (blk ls)=some (.lst (lnD ls)):=by
  show (if (("Block" : Str))∈([("Block" : Str)]:List Str) then _ else none)=_
  rw[if_pos (yj.mpr rfl)]
  rfl
 have e3:listD [.lst (lnD ls)]=some (.lst (lnD ls)):=rfl
 generalize blk ls=B at *
 simp[z9i,z0s,z3n,e,e1,e3,zue,isfT]
variable {x0 x1 x2 x3 x4 x5 x6 x7 x8 x9 x10 x12 x13:Option W} {r:Mem}
theorem z3jb {hs:List HC} {i j:Nat} {r0:Row} {rs:List Row} (h:HH hs i j ((r0::rs).map zm)) (hr:∀r∈rs,RowIn 20 30 r) (hl:rs.length≤6) (ij:i≠j) :
  ∃hs',zd0 [x0,x1,x2,x3,x4,x5,x6,x7,x8,x9,x10,some (.h i),x12,x13] (.hp hs::r) = .nx [x0,x1,x2,x3,x4,x5,x6,x7,x8,x9,x10,some (.h i),x12,x13] (.hp hs'::r)∧Kp [i,j] hs hs':=by
 have hr2:∀r∈((0,lateL):Row)::rs,RowIn 20 30 r:=fun r hr'=>by
  rcases yo.mp hr' with rfl |hr'
  ·exact zheb
  ·exact hr r hr'
 have p0:=zqkb (r:=r) h (l:=lateL) (by unfold Line Txt8;decide) (p:=0) (by simp) (by simp;omega)
 have s0:((r0::rs).map zm).set 0 (TM.rdw lateL)=(((0,lateL):Row)::rs).map zm:=rfl
 rw[s0] at p0
 have sb:=setB h zpb (.d (.str (S lateL))) (.d (.int 0)) (r:=r)
 have k1:Kp [i,j] hs (hs.set j (LK.hl ((((0,lateL):Row)::rs).map zm))):=Kp.set (by simp) _
 have h1:HH (hs.set j (LK.hl ((((0,lateL):Row)::rs).map zm))) i j ((((0,lateL):Row)::rs).map zm):=⟨by rw[yq (Ne.symm ij)];exact h.o,by rw[yu h.lt.2]⟩
 obtain⟨hs1,hs1e⟩:∃hs1,hs1=hs.set j (LK.hl ((((0,lateL):Row)::rs).map zm)):=⟨_,rfl⟩
 rw[←hs1e] at p0 k1 h1
 obtain⟨j2,hs2,e2,h2,l2,q2,jl2⟩:=ziib (r:=r) hr2 (by decide) (by simp;omega) (n:=3) (by decide) (by decide) h1
 have k2:Kp [i,j] hs1 hs2:=⟨l2,fun x hx hn=>q2 x hx (fun z=>hn (by rw[z];simp))⟩
 obtain⟨j3,hs3,e3,h3,l3,q3,jl3⟩:=z1eb (r:=r) (a:=(((0,lateL):Row)::rs).map (mvR 3)) (b:=[((0,moreL):Row)]) (by simp;omega) h2 (zzcb hs2 r) (zdmb _ _)
 have k3:Kp [i,j] hs2 hs3:=⟨l3,fun x hx hn=>q3 x hx (fun z=>hn (by rw[z];simp))⟩
 refine⟨hs3,?_,(k1.trans k2).trans k3⟩
 have i2:=iopB h1.b zpc (.d (.int 3)) (m:=.hp hs1::r)
 have i3:=iopB h2.b ztd (.d (.str (S moreL))) (m:=.hp hs2::r)
 rw[e2] at i2
 rw[e3] at i3
 have f0:lb0 [x0,x1,x2,x3,x4,x5,x6,x7,x8,x9,x10,some (.h i),x12,x13] (.hp hs::r) = .nx [x0,x1,x2,x3,x4,x5,x6,x7,x8,x9,x10,some (.h i),x12,x13] (.hp hs1::r):=by
  have p0:zpb [.h i,.d (.int 0),.d (.str (S lateL))] (.hp hs::r) = .ok (.d .non) (.hp hs1::r):=p0
  rw[p0] at sb
  simp[lb0,z3lb,sb]
 have f1:lb1 [x0,x1,x2,x3,x4,x5,x6,x7,x8,x9,x10,some (.h i),x12,x13] (.hp hs1::r) = .nx [x0,x1,x2,x3,x4,x5,x6,x7,x8,x9,x10,some (.h i),x12,x13] (.hp hs2::r):=by
  unfold lb1
  rw[zdgb (x:=.h i) rfl]
  simp[i2]
 have f2:lb2 [x0,x1,x2,x3,x4,x5,x6,x7,x8,x9,x10,some (.h i),x12,x13] (.hp hs2::r) = .nx [x0,x1,x2,x3,x4,x5,x6,x7,x8,x9,x10,some (.h i),x12,x13] (.hp hs3::r):=by
  unfold lb2
  rw[zdgb (x:=.h i) rfl]
  simp[z1lb,i3]
 have f3:lb3 [x0,x1,x2,x3,x4,x5,x6,x7,x8,x9,x10,some (.h i),x12,x13] (.hp hs3::r) = .nx [x0,x1,x2,x3,x4,x5,x6,x7,x8,x9,x10,some (.h i),x12,x13] (.hp hs3::r):=by
  have e1:propW "Block" zqb (.h i) (.hp hs3::r) = .ok (.d (.tup (lnD (((((0,lateL):Row)::rs).map (mvR 3)++[((0,moreL):Row)]).map zm)))) (.hp hs3::r):=by
   unfold propW
   rw[if_pos (blkC h3.b),ztbb h3.b]
   rfl
  have e4:=zdcb (lnD (((((0,lateL):Row)::rs).map (mvR 3)++[((0,moreL):Row)]).map zm)) (by unfold lnD;rw[ye];unfold sizeLine;simp;omega)
  have ix:ixD (.lst (lnD (((((0,lateL):Row)::rs).map (mvR 3)++[((0,moreL):Row)]).map zm))) (.int 0)=some (.str (S (32::32::32::lateL))):=by
   have e5:zm (mvR 3 ((0:Int),lateL))=32::32::32::lateL:=by decide
   have e6:lnD (((((0,lateL):Row)::rs).map (mvR 3)++[((0,moreL):Row)]).map zm) = .str (S (zm (mvR 3 ((0:Int),lateL))))::lnD ((rs.map (mvR 3)++[((0,moreL):Row)]).map zm):=rfl
   rw[e6,e5]
   show atI _ ((0:Nat):Int)=_
   rw[DL.atI_nat]
   rfl
  have ne:neD (.str (S (32::32::32::lateL))) (.str (S (32::32::32::lateL)))=some (.bl false):=by rw[zf2,decide_eq_true rfl];rfl
  generalize lnD (((((0,lateL):Row)::rs).map (mvR 3)++[((0,moreL):Row)]).map zm)=L at *
  simp[-zf2,lb3,zkjb,e1,e4,ix,ne]
 rw[lb_eq,zxi,f0]
 show sSeq lb1 (sSeq lb2 lb3) _ _=_
 rw[zxi,f1]
 show sSeq lb2 lb3 _ _=_
 rw[zxi,f2]
 exact f3
theorem zs9 {b:Nat} {es:List E}:∀(post pre:List E) (hs:List HC) (x11 x12:Option W),es=pre++post→hs[b]?=some (.lst (esH es))→(∀e∈post,Ent hs e)→(∀e∈post,b<e.lo∧e.hi≤hs.length)→(post.Pairwise fun e f=>e.hi≤f.lo) →
  ∃(hs':List HC) (y11 y12:Option W),z9o (gTpH 2 (zyt (gNm 11) (zyt (gNm 12) gNilH))) zd0 b es.length post.length [x0,x1,x2,x3,x4,x5,x6,x7,x8,x9,x10,x11,x12,x13] (.hp hs::r) = .nx [x0,x1,x2,x3,x4,x5,x6,x7,x8,x9,x10,y11,y12,x13] (.hp hs'::r)
 |[],pre,hs,x11,x12,e,hb,_,_,_=>by
  refine⟨hs,x11,x12,?_⟩
  have lv:liveH b es.length (.hp hs::r)=some (esH es):=by
   unfold liveH
   rw[zob,hb]
   show (if (esH es).length=es.length then _ else _)=_
   rw[if_pos (by unfold esH;rw[ye])]
  show (match liveH b es.length (.hp hs::r) with |some _=>SR.nx _ _ |none=>SR.no)=_
  rw[lv]
 |f::post,pre,hs,x11,x12,e,hb,hE,hR,hP=>by
  have lv:liveH b es.length (.hp hs::r)=some (esH es):=by
   unfold liveH
   rw[zob,hb]
   show (if (esH es).length=es.length then _ else _)=_
   rw[if_pos (by unfold esH;rw[ye])]
  have hf:=hE f yb
  have at_:(esH es)[es.length-(post.length+1)]?=some (.h f.t):=by
   have:es.length-(post.length+1)=pre.length:=by rw[e,yg,yw];omega
   rw[this,e]
   unfold esH
   rw[yob,yf (by rw[ye];exact yp _),ye,yib]
   rfl
  obtain⟨_,hne,h6,hx⟩:=hf.g
  obtain⟨rs,ers,hr⟩:=zsx hx
  obtain⟨r0,rs',rfl⟩:∃r0 rs',rs=r0::rs':=by
   cases rs with
   |nil=>rw[←ers] at hne;exact absurd rfl hne
   |cons a l=>exact⟨a,l,rfl⟩
  have hh:=hf.hh
  rw[←ers] at hh
  obtain⟨hs1,eb,kp⟩:=z3jb (x0:=x0) (x1:=x1) (x2:=x2) (x3:=x3) (x4:=x4) (x5:=x5) (x6:=x6) (x7:=x7) (x8:=x8) (x9:=x9) (x10:=x10) (x12:=some (.d (.lst (lnD f.ls)))) (x13:=x13) (r:=r) hh (fun r hr'=>hr r (yd _ hr')) (by rw[←ers,ye,yw] at h6;omega) hf.ij
  have lo:=(hR f yb).1
  have bi:=hf.bi
  have bj:=hf.bj
  have pw:=List.pairwise_cons.mp hP
  obtain⟨hs',y11,y12,ih⟩:=zs9 post (pre++[f]) hs1 (some (.h f.i)) (some (.d (.lst (lnD f.ls)))) (by rw[e];simp) (kp.at_ hb (by simp;omega)) (fun q hq=>(hE q (yd _ hq)).of fun x q1 q2=>kp.k x (yvc q2 (hR q (yd _ hq)).2) (by have:=pw.1 q hq;simp;omega)) (fun q hq=>⟨(hR q (yd _ hq)).1,yy (hR q (yd _ hq)).2 kp.l⟩) pw.2
  refine⟨hs',y11,y12,?_⟩
  have hg:gTpH 2 (zyt (gNm 11) (zyt (gNm 12) gNilH)) (.h f.t) [x0,x1,x2,x3,x4,x5,x6,x7,x8,x9,x10,x11,x12,x13] (.hp hs::r)=some [x0,x1,x2,x3,x4,x5,x6,x7,x8,x9,x10,some (.h f.i),some (.d (.lst (lnD f.ls))),x13]:=by
   unfold gTpH
   simp only[zob,hf.tp,tpH]
   rfl
  rw[yw]
  unfold z9o
  rw[lv]
  simp only[]
  rw[at_]
  simp only[]
  rw[show (HW.h f.t).toW=W.h f.t from rfl,hg]
  simp only[]
  rw[eb]
  exact ih
end LK
namespace LK
open PySem PySem.Spec L2 DL TM SX NT PG
def lw1:DS:=(sAsg (eLstH (aCons (eC (.str "c")) (aCons (eC (.str "b")) (aCons (eC (.str "a")) aNil)))) (gNm 2))
def lw2:DS:=(sAsg (eFn z7e (aCons (eVar 1) (aCons (eVar 2) (aCons (eC (.int 1)) aNil)))) (gNm 3))
def lw3:DS:=(sAsg (eFn zxb (aCons (eVar 3) aNil)) (gNm 4))
def lw4:DS:=(sAsg (eLst (aCons (eVar 3) aNil)) (gNm 5))
def lw5:DS:=(sAsg (eLstH (aNil)) (gNm 6))
def lw6:DS:=(sFor (zfv (aCons (eOp addD (eC (.int 1)) (eFn z3b (aCons (eVar 1) (aCons (eC (.int 4)) aNil)))) aNil)) (gNm 7) z7v)
def lw7:DS:=(sIf (bNot (bT (eFn zxe (aCons (eVar 4) (aCons (eVar 5) aNil))))) (sRet (eC (.bl false))) sNext)
def lw8:DS:=(zk8 (eVar 6) (gTpH 2 (zyt (gNm 11) (zyt (gNm 12) gNilH))) zd0)
def lw9:DS:=(sAsg (eBinR bopTs binB binA binD ropTs binRt addD (eVar 4) (eBinR bopTs binB binA binD ropTs binRt addD (eC (.str "m")) (eFn zxb (aCons (eTup (aCons (eC (.str "fixed")) (aCons (eTup (aCons (eC (.str "n")) (aCons (eC (.str "  p")) aNil))) (aCons (eTup (aNil)) aNil)))) aNil)))) (gNm 13))
def lw10:DS:=(sRet ((eAnd (eFn zxe (aCons (eVar 4) (aCons (eVar 5) aNil))) (eFn zxe (aCons (eVar 13) (aCons (eOp addD (eVar 5) (eLst (aCons (eTup (aCons (eC (.str "fixed")) (aCons (eTup (aCons (eC (.str "m")) aNil)) (aCons (eTup (aNil)) aNil)))) (aCons (eTup (aCons (eC (.str "fixed")) (aCons (eTup (aCons (eC (.str "n")) (aCons (eC (.str "  p")) aNil))) (aCons (eTup (aNil)) aNil)))) aNil)))) aNil))))))
theorem lw_eq:den_law=sSeq (sAsg (eFn zvj (aCons (eVar 0) aNil)) (gNm 1)) (sSeq lw1 (sSeq lw2 (sSeq lw3 (sSeq lw4 (sSeq lw5 (sSeq lw6 (sSeq lw7 (sSeq lw8 (sSeq lw9 lw10))))))))):=rfl
def fm:Pg:=.node (.fixed [[109]]) []
def fnp:Pg:=.node (.fixed [[110],[32,32,112]]) []
theorem ok_m:lokB (.fixed [[109]]) []:=⟨rfl,by simp,by simp,fun x hx=>by
 rw[yj.mp hx]
 exact⟨(0,[109]),.inr ⟨by decide,by decide,⟨⟨109,[],rfl,by decide⟩,⟨[],109,rfl,by decide⟩,by decide⟩,by decide⟩,rfl⟩⟩
theorem ok_np:lokB (.fixed [[110],[32,32,112]]) []:=⟨rfl,by simp,by simp,fun x hx=>by
 simp only[yo,y9b,or_false] at hx
 rcases hx with rfl |rfl
 ·exact⟨(0,[110]),.inr ⟨by decide,by decide,⟨⟨110,[],rfl,by decide⟩,⟨[],110,rfl,by decide⟩,by decide⟩,by decide⟩,rfl⟩
 ·exact⟨(2,[112]),.inr ⟨by decide,by decide,⟨⟨112,[],rfl,by decide⟩,⟨[],112,rfl,by decide⟩,by decide⟩,by decide⟩,rfl⟩⟩
theorem td_m:tdD fm = .tup [.str "fixed",.tup [.str (S [109])],.tup []]:=zud _ _
theorem td_np:tdD fnp = .tup [.str "fixed",.tup [.str (S [110]),.str (S [32,32,112])],.tup []]:=zud _ _
theorem e_m:Str.ofString "m" = S [109]:=by decide
theorem e_n:Str.ofString "n" = S [110]:=by decide
theorem e_2p:Str.ofString "  p" = S [32,32,112]:=by decide
theorem zuhb {ts:List Pg} {ns:List Nat} (T:Ts ts ns) (h5:ts.length≤5) (h2:2≤ts.length):Sm (ts++[fm,fnp]):=by
 have t1:Ts (ts++[fm]) ns:=Ts.add (a:=ts) (b:=[]) (us:=[]) (z:=1) (by simpa using T) ((zn8 ok_m).mono (fun _ z=>z) (yp _) (by decide) (by decide)) (by decide) rfl
 have t2:Ts (ts++[fm,fnp]) ns:=by
  have:=Ts.add (a:=ts++[fm]) (b:=[]) (us:=[]) (z:=1) (p:=fnp) (ns:=ns) (by simpa using t1) ((zn8 ok_np).mono (fun _ z=>z) (yp _) (by decide) (by decide)) (by decide) rfl
  simpa using this
 refine t2.sm (by simp) ?_
 have e1:=z9m (a:=ts) (b:=[fm,fnp])
 have e2:sizes [fm,fnp]=2:=by rw[zdf,zdf,z5h];rfl
 have:=T.sz
 omega
theorem zrbb {ts:List Pg} (h0:2≤ts.length) (hs_:∀q∈ts,isSum q.lab=false) (S2:Sm (ts++[fm,fnp])) {hs:List HC} {r:Mem} {x0 x1 x2 x3 x5 x6 x7 x8 x9 x10 x11 x12 x13:Option W} :
  lw9 [x0,x1,x2,x3,some (.d (pgD (sumN ts))),x5,x6,x7,x8,x9,x10,x11,x12,x13] (.hp hs::r) = .nx [x0,x1,x2,x3,some (.d (pgD (sumN ts))),x5,x6,x7,x8,x9,x10,x11,x12,some (.d (pgD (.node .sum (ts++[fm,fnp]))))] (.hp hs::r):=by
 obtain⟨om,gm⟩:=S2.mem (t:=fm) (by simp)
 obtain⟨on,gn⟩:=S2.mem (t:=fnp) (by simp)
 have e1:=znt (p:=fnp) (by decide) on gn (.hp hs::r)
 rw[td_np] at e1
 have o1:POk (.node .sum (fm::[fnp])):=⟨by show (3:Nat)≤16;decide,by show ([]:List Nat).Nodup;exact ysc,by show (0:Nat)≤3;decide⟩
 have e2:=bin_r (Th.text (hs:=hs) (r:=r) ok_m) (ts:=[fnp]) (by simp) (fun q hq=>by rw[yj.mp hq];rfl) rfl o1
 have e2:binRW bopTs binB binA binD ropTs binRt addD (.d (.str (S [109]))) (.d (pgD fnp)) (.hp hs::r) = .ok (.d (pgD (.node .sum [fm,fnp]))) (.hp hs::r):=e2
 have s1:sms (sumN ts)=ts:=sms_N (fun z=>by rw[z] at h0;simp at h0) hs_
 have s2:sms (.node .sum [fm,fnp])=[fm,fnp]:=zj6 _
 have e3:=add_l (p:=sumN ts) (q:=.node .sum [fm,fnp]) (zv2 (.node .sum [fm,fnp]) (.hp hs::r)) (by rw[s1];exact fun z=>by rw[z] at h0;simp at h0) (by rw[s2];simp) (by rw[s1,s2];exact S2.o)
 rw[s1,s2] at e3
 rw[←zzdb] at e3
 generalize pgD (.node .sum (ts++[fm,fnp]))=P3 at *
 generalize pgD (.node .sum [fm,fnp])=P2 at *
 generalize pgD fnp=P1 at *
 generalize pgD (sumN ts)=P0 at *
 have z2:2≤sizeLine:=by decide
 have z3:3≤sizeLine:=by decide
 simp[lw9,eBinR,e_m,e_n,e_2p,e1,e2,e3,z2,z3]
theorem law_true (xs:List Int) (hn:xs.length≤63):∃m',F_law [.d (.fz (xs.map D.int))] [.hp []] = .ok (.d (.bl true)) m':=by
 obtain⟨hs0,e0,st0,l0⟩:=zceb hn
 obtain⟨X,hX⟩:∃X:W,X = .d (.fz (xs.map D.int)):=⟨_,rfl⟩
 rw[←hX] at e0 ⊢
 -- the names
 obtain⟨hs1,hs1e⟩:∃hs1,hs1=hs0++[HC.lst ([99,98,97].map chH)]:=⟨_,rfl⟩
 have k1:Kp [] hs0 hs1:=by rw[hs1e];exact Kp.push [] hs0 _
 have st1:HSt 2 1 0 1000000000000000000 hs1:=st0.keep k1 (by simp) (by simp) (by simp)
 have nm1:Nm 3 hs1 [99,98,97]:=by
  unfold Nm
  rw[hs1e,yf (by omega),l0]
  rfl
 have l1:hs1.length=4:=by rw[hs1e,yg,l0];rfl
 have f1:lw1 [some X,some (.h 2),none,none,none,none,none,none,none,none,none,none,none,none] [.hp hs0] = .nx [some X,some (.h 2),some (.h 3),none,none,none,none,none,none,none,none,none,none,none] [.hp hs1]:=by
  have ec:Str.ofString "c" = S [99]:=by decide
  have eb:Str.ofString "b" = S [98]:=by decide
  have ea:Str.ofString "a" = S [97]:=by decide
  have em:zjw [.d (.str (S [99])),.d (.str (S [98])),.d (.str (S [97]))] [.hp hs0] = .ok (.h 3) [.hp hs1]:=by
   unfold zjw
   simp only[hwAll,whw_d]
   rw[if_pos (by decide)]
   unfold newH
   rw[zob,zeh,l0,hs1e]
   rfl
  simp[lw1,eLstH,ec,eb,ea,em]
 obtain⟨p,hs2,ns',us,e2,⟨hp,hps⟩,eN,st2,k2,nm2⟩:=zygb (i:=2) (g:=1) (s:=0) (q:=3) (n:=999999999999999940) [] (by decide) (by decide) st1 nm1
 have f2:lw2 [some X,some (.h 2),some (.h 3),none,none,none,none,none,none,none,none,none,none,none] [.hp hs1] = .nx [some X,some (.h 2),some (.h 3),some (.d (tdD p)),none,none,none,none,none,none,none,none,none,none] [.hp hs2]:=by
  generalize tdD p=T at *
  simp[lw2,e2]
 have T0:Ts [p] ns':=by
  have:Ts ([]++p::[]) ns':=Ts.add (a:=[]) (b:=[]) (ns:=ns') (us:=us) (z:=2) ⟨(fun _ z=>nomatch z),(fun _ z=>nomatch z),(fun _ z=>nomatch z),ysc,(fun _ z=>nomatch z),by rw[←eN];decide,by rw[←eN];decide,by rw[←eN];show sizes []+3≤3;rw[z5h];exact yp _⟩ (hp.mono (fun _ z=>z) (yp _) (by omega) (yp _)) (by decide) hps
  exact this
 have op:POk p:=⟨by have:=hp.sz;have:=congrArg List.length eN;simp only[yg,yw,yzb] at this;omega,hp.nd,by have:=hp.wt;have:=congrArg List.length eN;simp only[yg,yw,yzb] at this;omega⟩
 have e3:=znt (p:=p) (by have:=hp.dp;omega) op hp.g [.hp hs2]
 have f3:lw3 [some X,some (.h 2),some (.h 3),some (.d (tdD p)),none,none,none,none,none,none,none,none,none,none] [.hp hs2] = .nx [some X,some (.h 2),some (.h 3),some (.d (tdD p)),some (.d (pgD p)),none,none,none,none,none,none,none,none,none] [.hp hs2]:=by
  generalize tdD p=T at *
  generalize pgD p=P at *
  simp[lw3,e3]
 have f4:lw4 [some X,some (.h 2),some (.h 3),some (.d (tdD p)),some (.d (pgD p)),none,none,none,none,none,none,none,none,none] [.hp hs2] = .nx [some X,some (.h 2),some (.h 3),some (.d (tdD p)),some (.d (pgD p)),some (.d (.lst [tdD p])),none,none,none,none,none,none,none,none] [.hp hs2]:=by
  generalize tdD p=T at *
  generalize pgD p=P at *
  have z1:1≤sizeLine:=by decide
  simp[lw4,z1]
 have l2:4≤hs2.length:=by have:=k2.l;omega
 obtain⟨hs3,hs3e⟩:∃hs3,hs3=hs2++[HC.lst []]:=⟨_,rfl⟩
 have f5:lw5 [some X,some (.h 2),some (.h 3),some (.d (tdD p)),some (.d (pgD p)),some (.d (.lst [tdD p])),none,none,none,none,none,none,none,none] [.hp hs2] = .nx [some X,some (.h 2),some (.h 3),some (.d (tdD p)),some (.d (pgD p)),some (.d (.lst [tdD p])),some (.h hs2.length),none,none,none,none,none,none,none] [.hp hs3]:=by
  have em:zjw [] [.hp hs2] = .ok (.h hs2.length) [.hp hs3]:=by
   unfold zjw
   simp only[hwAll]
   rw[if_pos (by decide)]
   unfold newH
   rw[zob,zeh,hs3e]
  generalize tdD p=T at *
  generalize pgD p=P at *
  generalize hs2.length=N at *
  simp[lw5,eLstH,em]
 have k3:Kp [] hs2 hs3:=by rw[hs3e];exact Kp.push [] hs2 _
 have I3:Inv hs3 ns' [p] hs2.length [] 999999999999999940:=⟨st2.keep k3 (by simp) (by simp) (by simp),k3.at_ nm2 (by simp),fun c hc=>(by decide:∀c∈[99,98,97],z7d c=true) c (by rw[eN];exact ypb _ hc),T0,⟨by rw[hs3e,yf (yp _),yib];rfl,(fun _ z=>nomatch z),List.Pairwise.nil,(fun _ z=>nomatch z),(fun _ z=>nomatch z)⟩,by omega⟩
 obtain⟨v,hs4,e4,⟨v0,v1⟩,st4,k4⟩:=zro (q:=4) (n:=999999999999999939) [] I3.st (by decide) (by decide)
 have I4:Inv hs4 ns' [p] hs2.length [] 999999999999999939:=⟨st4,I3.nm.keep k4 (by decide) (by decide),I3.lt,T0,I3.bl.keep k4 (fun x hx=>by simp at hx;omega),I3.b3⟩
 obtain⟨N,hN⟩:∃N:Nat,1+v=(N:Int):=⟨(1+v).toNat,by omega⟩
 have hN1:1≤N∧N≤4:=by omega
 let J:List D→DL.Env→Mem→Prop:=fun ds dl m=>∃(hs:List HC) (ns:List Nat) (ts:List Pg) (es:List E) (x7 x8 x9 x10:Option W),dl=[some X,some (.h 2),some (.h 3),some (.d (tdD p)),some (.d (pgD (sumN ts))),some (.d (.lst (ts.map tdD))),some (.h hs2.length),x7,x8,x9,x10,none,none,none]∧m=[.hp hs]∧Inv hs ns ts hs2.length es (999999999999999000+80*ds.length)∧ts.length+ds.length=1+N∧1≤ts.length∧es.length≤ts.length
 have lp:=zj2 (g:=gNm 7) (b:=z7v) J (fun d ds dl m hJ=>by
  obtain⟨hs,ns,ts,es,x7,x8,x9,x10,rfl,rfl,I,h1,h2,h3⟩:=hJ
  rw[yw] at I h1
  obtain⟨ts',ns2,es',hs',y8,y9,y10,et,I',h4,h5⟩:=zmhb (x0:=some X) (x3:=some (.d (tdD p))) (x7:=some (.d d)) (x8:=x8) (x9:=x9) (x10:=x10) (x11:=none) (x12:=none) (x13:=none) (r:=[]) (n:=999999999999999000+80*ds.length) (by rw[Nat.mul_add] at I;exact I) h2 (by omega) h3
  exact⟨_,rfl,_,_,et,hs',ns2,ts',es',_,y8,y9,y10,rfl,rfl,I',by omega,by omega,by omega⟩)
 obtain⟨dl5,m5,e5,hs5,ns5,ts5,es5,x7,x8,x9,x10,rfl,rfl,I5,h51,h52,h53⟩:=lp (rngD 0 N) [some X,some (.h 2),some (.h 3),some (.d (tdD p)),some (.d (pgD (sumN [p]))),some (.d (.lst ([p].map tdD))),some (.h hs2.length),none,none,none,none,none,none,none] [.hp hs4] ⟨hs4,ns',[p],[],none,none,none,none,rfl,rfl,⟨I4.st.mono (by rw[z4o];omega),I4.nm,I4.lt,I4.t,I4.bl,I4.b3⟩,by rw[z4o];simp,by simp,by simp⟩
 simp only[yzb] at h51 I5
 have h2:2≤ts5.length:=by omega
 have z5:sizes ts5≤15:=by have:=I5.t.sz;omega
 have S5:=I5.t.sm h2 z5
 have SB:=zuhb I5.t (by omega) h2
 have eN5:sumN ts5 = .node .sum ts5:=z6ab h2
 have f6:lw6 [some X,some (.h 2),some (.h 3),some (.d (tdD p)),some (.d (pgD p)),some (.d (.lst [tdD p])),some (.h hs2.length),none,none,none,none,none,none,none] [.hp hs3] = .nx [some X,some (.h 2),some (.h 3),some (.d (tdD p)),some (.d (pgD (sumN ts5))),some (.d (.lst (ts5.map tdD))),some (.h hs2.length),x7,x8,x9,x10,none,none,none] [.hp hs5]:=by
  have er:=zn6 (j:=(N:Int)) (m:=[.hp hs4]) (by omega) (by omega)
  rw[ysb] at er
  have e5:loopD (gNm 7) z7v (rngD 0 N) [some X,some (.h 2),some (.h 3),some (.d (tdD p)),some (.d (pgD p)),some (.d (.lst [tdD p])),some (.h hs2.length),none,none,none,none,none,none,none] [.hp hs4]=_:=e5
  generalize (ts5.map tdD)=L5 at *
  generalize pgD (sumN ts5)=P5 at *
  generalize tdD p=T at *
  generalize pgD p=P at *
  generalize hs2.length=B at *
  simp[lw6,e4,hN,er,e5]
 have r5:=z91 S5 [.hp hs5]
 have f7:lw7 [some X,some (.h 2),some (.h 3),some (.d (tdD p)),some (.d (pgD (sumN ts5))),some (.d (.lst (ts5.map tdD))),some (.h hs2.length),x7,x8,x9,x10,none,none,none] [.hp hs5] = .nx [some X,some (.h 2),some (.h 3),some (.d (tdD p)),some (.d (pgD (sumN ts5))),some (.d (.lst (ts5.map tdD))),some (.h hs2.length),x7,x8,x9,x10,none,none,none] [.hp hs5]:=by
  rw[eN5]
  generalize (ts5.map tdD)=L5 at *
  generalize pgD (.node .sum ts5)=P5 at *
  generalize tdD p=T at *
  simp[lw7,r5]
 obtain⟨hs6,y11,y12,e6⟩:=zs9 (b:=hs2.length) (es:=es5) (x0:=some X) (x1:=some (.h 2)) (x2:=some (.h 3)) (x3:=some (.d (tdD p))) (x4:=some (.d (pgD (sumN ts5)))) (x5:=some (.d (.lst (ts5.map tdD)))) (x6:=some (.h hs2.length)) (x7:=x7) (x8:=x8) (x9:=x9) (x10:=x10) (x13:=none) (r:=[]) es5 [] hs5 none none rfl I5.bl.l I5.bl.e (fun e he=>⟨I5.bl.lo e he,I5.bl.hi e he⟩) I5.bl.p
 have f8:lw8 [some X,some (.h 2),some (.h 3),some (.d (tdD p)),some (.d (pgD (sumN ts5))),some (.d (.lst (ts5.map tdD))),some (.h hs2.length),x7,x8,x9,x10,none,none,none] [.hp hs5] = .nx [some X,some (.h 2),some (.h 3),some (.d (tdD p)),some (.d (pgD (sumN ts5))),some (.d (.lst (ts5.map tdD))),some (.h hs2.length),x7,x8,x9,x10,y11,y12,none] [.hp hs6]:=by
  have lv:zot (.h hs2.length) [.hp hs5]=some (hs2.length,es5.length):=by
   have hb:=I5.bl.l
   unfold zot
   simp only[zob,hb]
   unfold esH
   rw[ye]
  generalize (ts5.map tdD)=L5 at *
  generalize pgD (sumN ts5)=P5 at *
  generalize tdD p=T at *
  generalize hs2.length=B at *
  simp[lw8,lv]
  exact e6
 have f9:=zrbb h2 I5.t.s SB (hs:=hs6) (r:=[]) (x0:=some X) (x1:=some (.h 2)) (x2:=some (.h 3)) (x3:=some (.d (tdD p))) (x5:=some (.d (.lst (ts5.map tdD)))) (x6:=some (.h hs2.length)) (x7:=x7) (x8:=x8) (x9:=x9) (x10:=x10) (x11:=y11) (x12:=y12) (x13:=none)
 have r6:=z91 S5 [.hp hs6]
 have r7:=z91 SB [.hp hs6]
 have f10:lw10 [some X,some (.h 2),some (.h 3),some (.d (tdD p)),some (.d (pgD (sumN ts5))),some (.d (.lst (ts5.map tdD))),some (.h hs2.length),x7,x8,x9,x10,y11,y12,some (.d (pgD (.node .sum (ts5++[fm,fnp]))))] [.hp hs6] = .rt (.d (.bl true)) [.hp hs6]:=by
  have ea:addD (.lst (ts5.map tdD)) (.lst [.tup [.str "fixed",.tup [.str (S [109])],.tup []],.tup [.str "fixed",.tup [.str (S [110]),.str (S [32,32,112])],.tup []]])=some (.lst ((ts5++[fm,fnp]).map tdD)):=by
   rw[←td_m,←td_np]
   show chk _ _=_
   rw[zdc (by rw[ye];unfold sizeLine;simp;omega),yob]
   rfl
  rw[eN5]
  generalize ((ts5++[fm,fnp]).map tdD)=L6 at *
  generalize (ts5.map tdD)=L5 at *
  generalize pgD (.node .sum (ts5++[fm,fnp]))=P6 at *
  generalize pgD (.node .sum ts5)=P5 at *
  generalize tdD p=T at *
  have z1:1≤sizeLine:=by decide
  have z2:2≤sizeLine:=by decide
  have z3:3≤sizeLine:=by decide
  simp[lw10,e_m,e_n,e_2p,z1,z2,z3,r6,r7,ea]
 refine⟨[.hp hs6],?_⟩
 clear lp e5 e6 J I3 I4 I5 S5 SB r5 r6 r7 T0
 generalize (ts5.map tdD)=L5 at *
 generalize pgD (.node .sum (ts5++[fm,fnp]))=P6 at *
 generalize pgD (sumN ts5)=P5 at *
 generalize tdD p=T at *
 generalize pgD p=P at *
 generalize hs2.length=B at *
 simp[F_law,R_law,lw_eq,e0,f1,f2,f3,f4,f5,f6,f7,f8,f9,f10]
end LK
namespace LK
open PySem PySem.Spec L2 DL
open PyProof.Rows hiding St
theorem tx_of {K:Fg} {h:Heap} {mg:Str→Option Value} (X:K.In h) (G:h.Ns mainGlobals mg) (c:∀p∈pts,SaysM p.1 p.2 K):Tx K mg:=by
 have c0:=c (cks0,fns0) yb
 have c1:=c (cks1,fns1) (yd _ yb)
 exact⟨zzb X G (c0.fact 0),
 zzb X G (c1.fact 0),
 zzb X G (c0.fact 1),
 zzb X G (c1.fact 1),
 zzb X G (c0.fact 2),
 zzb X G (c1.fact 2),
 zzb X G (c0.fact 3),
 zzb X G (c1.fact 3),
 zzb X G (c0.fact 4),
 zzb X G (c1.fact 4),
 zzb X G (c0.fact 5),
 zzb X G (c1.fact 5),
 zzb X G (c0.fact 6),
 zzb X G (c1.fact 6),
 zzb X G (c0.fact 7),
 zzb X G (c1.fact 7),
 zzb X G (c0.fact 8),
 zzb X G (c1.fact 8),
 zzb X G (c0.fact 9),
 zzb X G (c1.fact 9),
 zzb X G (c0.fact 10),
 zzb X G (c1.fact 10),
 zzb X G (c0.fact 11),
 zzb X G (c1.fact 11),
 zzb X G (c0.fact 12),
 zzb X G (c1.fact 12),
 zzb X G (c0.fact 13),
 zzb X G (c1.fact 13),
 zzb X G (c0.fact 14),
 zzb X G (c1.fact 14),
 zzb X G (c0.fact 15),
 zzb X G (c1.fact 15),
 zzb X G (c0.fact 16),
 zzb X G (c1.fact 16),
 zzb X G (c0.fact 17),
 zzb X G (c1.fact 17),
 zzb X G (c0.fact 18),
 zzb X G (c1.fact 18),
 zzb X G (c0.fact 19),
 zzb X G (c1.fact 19),
 zzb X G (c0.fact 20),
 zzb X G (c1.fact 20),
 zzb X G (c0.fact 21),
 zzb X G (c1.fact 21),
 zzb X G (c0.fact 22),
 zzb X G (c1.fact 22),
 zzb X G (c0.fact 23),
 zzb X G (c1.fact 23),
 zzb X G (c0.fact 24),
 zzb X G (c1.fact 24),
 zzb X G (c0.fact 25),
 zzb X G (c1.fact 25),
 zzb X G (c0.fact 26),
 zi1 X G (c1.fact 26),
 zi1 X G (c0.fact 27),
 zi1 X G (c1.fact 27),
 zi1 X G (c0.fact 28),
 zi1 X G (c1.fact 28),
 zi1 X G (c0.fact 29),
 zohb (c1.fact 29),
 free_of X G (c0.fact 30),
 free_of X G (c1.fact 30),
 free_of X G (c0.fact 31),
 free_of X G (c1.fact 31),
 free_of X G (c0.fact 32),
 free_of X G (c1.fact 32),
 free_of X G (c0.fact 33),
 free_of X G (c1.fact 33),
 free_of X G (c0.fact 34),
 free_of X G (c1.fact 34),
 free_of X G (c0.fact 35),
 free_of X G (c1.fact 35),
 free_of X G (c0.fact 36),
 free_of X G (c1.fact 36),
 free_of X G (c0.fact 37),
 free_of X G (c1.fact 37),
 free_of X G (c0.fact 38),
 free_of X G (c1.fact 38),
 free_of X G (c0.fact 39),
 free_of X G (c1.fact 39),
 c0.fact 40,
 c1.fact 40,
 c0.fact 41,
 c1.fact 41,
 c0.fact 42,
 c1.fact 42,
 c0.fact 43,
 c1.fact 43,
 c0.fact 44,
 c1.fact 44,
 c0.fact 45,
 c1.fact 45,
 c0.fact 46,
 c1.fact 46,
 c0.fact 47,
 c1.fact 47,
 c0.fact 48,
 c1.fact 48,
 c0.fact 49,
 c1.fact 49,
 c0.fact 50,
 c1.fact 50,
 c0.fact 51,
 c1.fact 51,
 c0.fact 52,
 c1.fact 52,
 c0.fact 53,
 c1.fact 53,
 c0.fact 54,
 c1.fact 54,
 c0.fact 55,
 c1.fact 55,
 c0.fact 56,
 c1.fact 56,
 c0.fact 57,
 c1.fact 57,
 c0.fact 58,
 c1.fact 58,
 c0.fact 59,
 zto (c1.fact 59),
 zto (c0.fact 60),
 z1hb (c1.fact 60),
 zugb (c0.fact 61),
 zugb (c1.fact 61),
 bi_of (c0.fact 62),
 bi_of (c1.fact 62),
 c0.fact 63,
 c1.fact 63,
 c0.fact 64,
 c1.fact 64,
 c0.fact 65,
 c1.fact 65,
 cm_of (c0.fact 66),
 c1.fact 66,
 c0.fact 67,
 zhz (c1.fact 67),
 zhz (c0.fact 68),
 zhz (c1.fact 68),
 zhz (c0.fact 69),
 zhz (c1.fact 69),
 zhz (c0.fact 70),
 zhz (c1.fact 70),
 zi7 (c0.fact 71),
 zi7 (c1.fact 71),
 zi7 (c0.fact 72),
 c1.fact 72,
 c0.fact 73,
 c1.fact 73,
 c0.fact 74,
 c1.fact 74,
 c0.fact 75,
 c1.fact 75,
 c0.fact 76,
 c1.fact 76,
 c0.fact 77,
 c1.fact 77,
 c0.fact 78,
 c1.fact 78,
 c0.fact 79,
 zp6 (c1.fact 79),
 zp6 (c0.fact 80),
 zp6 (c1.fact 80),
 c0.fact 81,
 c1.fact 81,
 c0.fact 82,
 c1.fact 82,
 ve_of (c0.fact 83),
 (fun C hC=>(yo.mp hC).elim (fun e=>e ▸ ⟨zto (c1.fact 83),zim (c0.fact 84)⟩) (fun hC=>(fun _ z=>nomatch z) C hC)),
 (fun C hC=>(yo.mp hC).elim (fun e=>e ▸ ⟨zto (c1.fact 84),zim (c0.fact 85)⟩) (fun hC=>(fun _ z=>nomatch z) C hC)),
 (fun C hC=>(yo.mp hC).elim (fun e=>e ▸ ⟨zto (c1.fact 85),zim (c0.fact 86)⟩) (fun hC=>(fun _ z=>nomatch z) C hC)),
 (fun C hC=>(yo.mp hC).elim (fun e=>e ▸ ⟨zto (c1.fact 86),zim (c0.fact 87)⟩) (fun hC=>(fun _ z=>nomatch z) C hC)),
 (fun C hC=>(yo.mp hC).elim (fun e=>e ▸ ⟨zto (c1.fact 87),zim (c0.fact 88)⟩) (fun hC=>(fun _ z=>nomatch z) C hC)),
 (fun C hC=>(yo.mp hC).elim (fun e=>e ▸ ⟨zto (c1.fact 88),zim (c0.fact 89)⟩) (fun hC=>(fun _ z=>nomatch z) C hC)),
 (fun C hC=>(yo.mp hC).elim (fun e=>e ▸ ⟨zto (c1.fact 89),zim (c0.fact 90)⟩) (fun hC=>(fun _ z=>nomatch z) C hC)),
 (fun C hC=>(yo.mp hC).elim (fun e=>e ▸ ⟨zto (c1.fact 90),zim (c0.fact 91)⟩) (fun hC=>(fun _ z=>nomatch z) C hC)),
 (fun C hC=>(yo.mp hC).elim (fun e=>e ▸ ⟨zto (c1.fact 91),zim (c0.fact 92)⟩) (fun hC=>(fun _ z=>nomatch z) C hC)),
 (fun C hC=>(yo.mp hC).elim (fun e=>e ▸ ⟨zto (c1.fact 92),zim (c0.fact 93)⟩) (fun hC=>(fun _ z=>nomatch z) C hC)),
 tab_of (c1.fact 93),
 tab_of (c0.fact 94),
 tab_of (c1.fact 94),
 tab_of (c0.fact 95),
 tab_of (c1.fact 95),
 tab_of (c0.fact 96),
 c0.def_ 0,
 c1.def_ 0,
 c0.def_ 1,
 c1.def_ 1,
 c0.def_ 2,
 c1.def_ 2,
 c0.def_ 3,
 c1.def_ 3,
 c0.def_ 4,
 c1.def_ 4,
 c0.def_ 5,
 c1.def_ 5,
 c0.def_ 6,
 c1.def_ 6,
 c0.def_ 7,
 c1.def_ 7,
 c0.def_ 8,
 c1.def_ 8,
 c0.def_ 9,
 c1.def_ 9,
 c0.def_ 10,
 c1.def_ 10,
 c0.def_ 11,
 c1.def_ 11,
 c0.def_ 12,
 c1.def_ 12,
 c0.def_ 13,
 c1.def_ 13,
 c0.def_ 14,
 c1.def_ 14,
 c0.def_ 15,
 c1.def_ 15,
 c0.def_ 16,
 c1.def_ 16,
 c0.def_ 17,
 c1.def_ 17,
 c0.def_ 18,
 c1.def_ 18,
 c0.def_ 19,
 c1.def_ 19,
 c0.def_ 20,
 c1.def_ 20,
 c0.def_ 21,
 c1.def_ 21,
 c0.def_ 22,
 c1.def_ 22,
 c0.def_ 23,
 c1.def_ 23,
 c0.def_ 24,
 c1.def_ 24,
 c0.def_ 25,
 c1.def_ 25,
 c0.def_ 26,
 c1.def_ 26,
 c0.def_ 27,
 c1.def_ 27,
 c0.def_ 28,
 c1.def_ 28,
 c0.def_ 29,
 c1.def_ 29,
 c0.def_ 30,
 c1.def_ 30,
 c0.def_ 31,
 c1.def_ 31,
 c0.def_ 32,
 c1.def_ 32,
 c0.def_ 33,
 c1.def_ 33,
 c0.def_ 34,
 c1.def_ 34,
 c0.def_ 35,
 c1.def_ 35,
 c0.def_ 36,
 c1.def_ 36,
 c0.def_ 37,
 c1.def_ 37,
 c0.def_ 38,
 c1.def_ 38,
 c0.def_ 39,
 c1.def_ 39,
 c0.def_ 40⟩
end LK
theorem PySem.Challenge.cw_indentholes_k26_sums_and_blocks_holds : PySem.Challenge.rw_indentholes_k26_sums_and_blocks.Holds := by
 exact LK.early LK.law_true fun X G c=>⟨(LK.tx_of X G c).g_law,fun w base=>LK.fd_law (P:=(PySem.Challenge.rw_indentholes_k26_sums_and_blocks).prog) (w:=w) (LK.tx_of X G c)⟩
