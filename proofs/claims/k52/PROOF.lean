import PyProof.Rows.All
import HandS.ForMost
import HandS.Star
import HandS.Wide
import HandS.TupAny
import HandS.Rev
import HandS.Zip
import HandS.DictComp
import HandS.EndBits
import PyProof.P3In
import PyProof.ReprRoads
import KE.SortData
import KE.DataCmp
import KE.GoesEnum
import HandS.SetFor
import HandS.SetKeys
import HandS.TupSets
import KE.KDictPairs
import KE.KDictZip
import PyProof.SumAny
import HandS.IsInst
import HandS.Style
import HandS.Deep
import HandS.More
import PyProof.MinMaxWalk
import HandS.HeadEnd
import HandS.Head0
import HandS.Head1
import HandS.Head2
import HandS.HeadHook1
import HandS.HeadHook2
import HandS.Defaults
import KE.KStateDown
import KE.KItemsList
import HandS.ListItems
import HandS.Steps
import KE.DataMinMax
import HandS.Conv
import HandS.SortKw
import KE.KSortKeyAny
import HandS.Slots
import HandS.BoundDict
import HandS.ExcInit
import HandS.ExcOwn
import HandS.ExcField
import HandS.Lambda
import KE.KExcSuper
import HandS.EndTab
import HandS.HeadWalk
import HandS.HeadHook4
import HandS.Small
import HandS.TupMul
import KE.KDictKeyed
import KE.KDictDisplayH
import PySem.Challenge.RW_keptalong_k52_lots_closed_under_ways
import Wide.All
import OpenK.AllK
import Wide.FinOn
set_option Elab.async false
set_option linter.all false
set_option maxRecDepth 100000
namespace KP
open PySem PySem.Spec PyProof.Rows L2
section
abbrev D:=PyData
def kD:Key→D
 | .inl i=>.int i
 | .inr x=>.str x
class TheW where
 hk:List Key→Int
 sx:Heap→Addr→(Key→Bool)→Nat→Prop
instance (priority:=low) dfltW:TheW:=⟨fun _=>0,fun _ _ _ _=>False⟩
def afK(hk:List Key→Int)(x:List Key×Addr×Value):DictEntry:=⟨hk x.1,.ref x.2.1,x.2.2⟩
abbrev KX:=List Key×Addr×V
def wK:List KX→List (List Key×Addr×Value)→Prop:=Paired fun p q=>p.1=q.1∧p.2.1=q.2.1∧RelV p.2.2 q.2.2
def aah(hk:List Key→Int)(a:Addr)(o:Obj)(kvs:List KX):Prop:=kvs.length≤sizeLine∧(a == sysModules)=false∧∃xs,wK kvs xs∧∃es ep,o.ExactDict∧o.data=.dict es ep∧es.toList=xs.map (afK hk)∧(xs.map (·.1)).Nodup
def XU:HO:=.ext fun _=>True
def Yh(H:Hp)(b:Addr)(k:List Key):Prop:=∃o,H b=some (.frz o (.tup (k.map kV)))∧o.dict=none
variable [TheW]
mutual
inductive Rp(H:Hp):V→D→Prop
 | non:Rp H .non .none
 | bl (b:Bool):Rp H (.bl b) (.bool b)
 | int (i:Int):Rp H (.int i) (.int i)
 | str (x:Str):Rp H (.str x) (.str x)
 | lst {a:Addr} {xs:List V} {ds:List D}:H a=some (.lst xs)→RpL H xs ds→Rp H (.ref a) (.list ds)
 | tup {a:Addr} {o:Obj} {xs:List V} {ds:List D}:H a=some (.frz o (.tup xs))→o.dict=none→RpL H xs ds→Rp H (.ref a) (.tuple ds)
 | dK {a:Addr} {o:Obj} {kvs:List (Key×V)} {ds:List (D×D)}:H a=some (.frz o (.dK kvs))→RpK H kvs ds→Rp H (.ref a) (.dict ds)
 | dT {a:Addr} {o:Obj} {kvs:List (List Key×V)} {ds:List (D×D)}:H a=some (.frz o (.dT kvs))→RpT H kvs ds→Rp H (.ref a) (.dict ds)
 | dX {a:Addr} {o:Obj} {kvs:List KX} {ds:List (D×D)}:H a=some (.frz o XU)→aah TheW.hk a o kvs→RpX H kvs ds→Rp H (.ref a) (.dict ds)
inductive RpL(H:Hp):List V→List D→Prop
 | nil:RpL H [] []
 | cons {v:V} {vs:List V} {d:D} {ds:List D}:Rp H v d→RpL H vs ds→RpL H (v::vs) (d::ds)
inductive RpK(H:Hp):List (Key×V)→List (D×D)→Prop
 | nil:RpK H [] []
 | cons {k:Key} {v:V} {vs:List (Key×V)} {d:D} {ds:List (D×D)}:Rp H v d→RpK H vs ds→RpK H ((k,v)::vs) ((kD k,d)::ds)
inductive RpT(H:Hp):List (List Key×V)→List (D×D)→Prop
 | nil:RpT H [] [(.none,.none)]
 | cons {k:List Key} {v:V} {vs:List (List Key×V)} {d:D} {ds:List (D×D)}:Rp H v d→RpT H vs ds→RpT H ((k,v)::vs) ((.tuple (k.map kD),d)::ds)
inductive RpX(H:Hp):List KX→List (D×D)→Prop
 | nil:RpX H [] [(.none,.none)]
 | cons {k:List Key} {b:Addr} {v:V} {vs:List KX} {d:D} {ds:List (D×D)}:Yh H b k→Rp H v d→RpX H vs ds→RpX H ((k,b,v)::vs) ((.tuple (k.map kD),d)::ds)
end
section
variable {H H':Hp}
mutual
theorem Rp.mono(e:Same H H'):∀(d:D) (v:V),Rp H v d→Rp H' v d
 | .none,_,h=>by cases h;exact .non
 | .bool b,_,h=>by cases h;exact .bl _
 | .int b,_,h=>by cases h;exact .int _
 | .str b,_,h=>by cases h;exact .str _
 | .list ds,_,h=>by
  cases h with
  | lst h1 h2=>exact .lst (e _ _ h1) (RpL.mono e ds _ h2)
 | .tuple ds,_,h=>by
  cases h with
  | tup h1 h0 h2=>exact .tup (e _ _ h1) h0 (RpL.mono e ds _ h2)
 | .dict ds,_,h=>by
  cases h with
  | dK h1 h2=>exact .dK (e _ _ h1) (RpK.mono e ds _ h2)
  | dT h1 h2=>exact .dT (e _ _ h1) (RpT.mono e ds _ h2)
  | dX h1 h0 h2=>exact .dX (e _ _ h1) h0 (RpX.mono e ds _ h2)
theorem RpL.mono(e:Same H H'):∀(ds:List D) (vs:List V),RpL H vs ds→RpL H' vs ds
 | [],_,h=>by cases h;exact .nil
 | d::ds,_,h=>by
  cases h with
  | cons h1 h2=>exact .cons (Rp.mono e d _ h1) (RpL.mono e ds _ h2)
theorem RpK.mono(e:Same H H'):∀(ds:List (D×D)) (vs:List (Key×V)),RpK H vs ds→RpK H' vs ds
 | [],_,h=>by cases h;exact .nil
 | (k,d)::ds,_,h=>by
  cases h with
  | cons h1 h2=>exact .cons (Rp.mono e d _ h1) (RpK.mono e ds _ h2)
theorem RpT.mono(e:Same H H'):∀(ds:List (D×D)) (vs:List (List Key×V)),RpT H vs ds→RpT H' vs ds
 | [],_,h=>by cases h
 | (k,d)::ds,_,h=>by
  cases h with
  | nil=>exact .nil
  | cons h1 h2=>exact .cons (Rp.mono e d _ h1) (RpT.mono e ds _ h2)
theorem RpX.mono(e:Same H H'):∀(ds:List (D×D)) (vs:List KX),RpX H vs ds→RpX H' vs ds
 | [],_,h=>by cases h
 | (k,d)::ds,_,h=>by
  cases h with
  | nil=>exact .nil
  | cons h0 h1 h2=>exact .cons (let ⟨o,y1,y2⟩:=h0;⟨o,e _ _ y1,y2⟩) (Rp.mono e d _ h1) (RpX.mono e ds _ h2)
end
end
section
variable {H H':Hp}
theorem Rp.same{v:V}{d:D}(h:Rp H v d)(e:Same H H'):Rp H' v d:=Rp.mono e d v h
theorem RpL.same{v:List V}{d:List D}(h:RpL H v d)(e:Same H H'):RpL H' v d:=RpL.mono e d v h
theorem RpL.length:∀ {vs:List V} {ds:List D},RpL H vs ds→vs.length=ds.length
 | _,_,.nil=>rfl
 | _,_,.cons _ t=>by simp[RpL.length t]
theorem RpL.get:∀ {vs:List V} {ds:List D} (i:Nat) {d:D},RpL H vs ds→ds[i]? = some d→∃v,vs[i]? = some v∧Rp H v d
 | _,_,_,_,.nil,e=>by simp at e
 | _,_,0,_,.cons h _,e=>by simp at e;subst e;exact⟨_,rfl,h⟩
 | _,_,i+1,_,.cons _ t,e=>by
  obtain⟨v,h1,h2⟩:=RpL.get (i:=i) t (by simpa using e)
  exact⟨v,by simpa using h1,h2⟩
theorem RpL.append:∀ {vs ws:List V} {ds es:List D},RpL H vs ds→RpL H ws es→RpL H (vs++ws) (ds++es)
 | _,_,_,_,.nil,s=>s
 | _,_,_,_,.cons h t,s=>.cons h (RpL.append t s)
theorem RpL.take:∀ {vs:List V} {ds:List D} (n:Nat),RpL H vs ds→RpL H (vs.take n) (ds.take n)
 | _,_,0,_=>by simp;exact .nil
 | _,_,_+1,.nil=>.nil
 | _,_,n+1,.cons h t=>.cons h (RpL.take n t)
theorem RpL.drop:∀ {vs:List V} {ds:List D} (n:Nat),RpL H vs ds→RpL H (vs.drop n) (ds.drop n)
 | _,_,0,h=>h
 | _,_,_+1,.nil=>.nil
 | _,_,n+1,.cons _ t=>RpL.drop n t
theorem RpL.one{v:V}{d:D}(h:Rp H v d):RpL H [v] [d]:=.cons h .nil
theorem RpL.reverse:∀ {vs:List V} {ds:List D},RpL H vs ds→RpL H vs.reverse ds.reverse
 | _,_,.nil=>.nil
 | _,_,.cons h t=>by
  rw[List.reverse_cons,List.reverse_cons]
  exact(RpL.reverse t).append (.one h)
end
mutual
def vf:D→Bool
 | .list ds=>vq ds
 | .tuple ds=>vq ds
 | .dict _=>false
 | _=>true
def vq:List D→Bool
 | []=>true
 | d::ds=>vf d&&vq ds
end
section
variable {K:PySem.W.Frag} {H:Hp}
mutual
theorem Rp.dp:∀(d:D) (v:V),vf d=true→Rp H v d→Dp K H v d
 | .none,_,_,h=>by cases h;exact .non
 | .bool b,_,_,h=>by cases h;exact .bl _
 | .int b,_,_,h=>by cases h;exact .int _
 | .str b,_,_,h=>by cases h;exact .str _
 | .list ds,_,n,h=>by
  cases h with
  | lst h1 h2=>exact .lst (SqL.of h1) (RpL.dp ds _ (by simpa[vf] using n) h2)
 | .tuple ds,_,n,h=>by
  cases h with
  | tup h1 h0 h2=>exact .tup (.inl (.inr ⟨_,h1⟩)) (RpL.dp ds _ (by simpa[vf] using n) h2)
 | .dict ds,_,n,h=>by simp[vf] at n
theorem RpL.dp:∀(ds:List D) (vs:List V),vq ds=true→RpL H vs ds→DpAll K H vs ds
 | [],_,_,h=>by cases h;exact .nil
 | d::ds,_,n,h=>by
  simp[vq] at n
  cases h with
  | cons h1 h2=>exact .cons (Rp.dp d _ n.1 h1) (RpL.dp ds _ n.2 h2)
end
end
abbrev Env:=List (Option D)
inductive Fl where
 | sh | ow | dd | bg | od (n:Nat) | fr | ox | st
 deriving DecidableEq
abbrev noH:Hp:=fun _=>none
theorem sN(H:Hp):Same noH H:=fun _ _ e=>nomatch e
structure Ctx where
 Hc:Hp
 Hb0:Hp
 io:Option Addr
 Hg:Hp
 g0:Same Hg Hb0
mutual
inductive Ow(c:Ctx)(Hb H:Hp):Nat→List Addr→V→D→Prop
 | leaf {v:V} {d:D}:Rp Hb v d→Ow c Hb H 0 [] v d
 | lst {n:Nat} {p:Addr} {xs:List V} {as:List Addr} {ds:List D}:H p=some (.lst xs)→Hb p=none→c.Hc p=none→p∉as→OwL c Hb H n as xs ds→Ow c Hb H (n+1) (p::as) (.ref p) (.list ds)
 | dK {n:Nat} {p:Addr} {kvs:List (Key×V)} {as:List Addr} {ds:List (D×D)}:H p=some (.dK kvs)→Hb p=none→c.Hc p=none→p∉as→OwK c Hb H n as kvs ds→Ow c Hb H (n+1) (p::as) (.ref p) (.dict ds)
inductive OwL(c:Ctx)(Hb H:Hp):Nat→List Addr→List V→List D→Prop
 | nil {n:Nat}:OwL c Hb H n [] [] []
 | cons {n:Nat} {a as:List Addr} {v:V} {vs:List V} {d:D} {ds:List D}:Ow c Hb H n a v d→OwL c Hb H n as vs ds→(∀x∈a,x∉as)→OwL c Hb H n (a++as) (v::vs) (d::ds)
inductive OwK(c:Ctx)(Hb H:Hp):Nat→List Addr→List (Key×V)→List (D×D)→Prop
 | nil {n:Nat}:OwK c Hb H n [] [] []
 | cons {n:Nat} {a as:List Addr} {k:Key} {v:V} {vs:List (Key×V)} {d:D} {ds:List (D×D)}:Ow c Hb H n a v d→OwK c Hb H n as vs ds→(∀x∈a,x∉as)→OwK c Hb H n (a++as) ((k,v)::vs) ((kD k,d)::ds)
end
section
variable {c:Ctx} {Hb H Hb' H':Hp}
mutual
theorem Ow.mono(sb:Same Hb Hb'):∀(d:D) (n:Nat) (as:List Addr) (v:V),(∀a∈as,∀o,H a=some o→H' a=some o)→(∀a∈as,Hb' a=none)→Ow c Hb H n as v d→Ow c Hb' H' n as v d
 | .list ds,_,_,_,hp,hn,h=>by
  cases h with
  | leaf r=>exact .leaf (r.same sb)
  | lst h1 h2 h3 h4 h5=>exact .lst (hp _ (by simp) _ h1) (hn _ (by simp)) h3 h4 (OwL.mono sb ds _ _ _ (fun a ha=>hp a (List.mem_cons_of_mem _ ha)) (fun a ha=>hn a (List.mem_cons_of_mem _ ha)) h5)
 | .dict ds,_,_,_,hp,hn,h=>by
  cases h with
  | leaf r=>exact .leaf (r.same sb)
  | dK h1 h2 h3 h4 h5=>exact .dK (hp _ (by simp) _ h1) (hn _ (by simp)) h3 h4 (OwK.mono sb ds _ _ _ (fun a ha=>hp a (List.mem_cons_of_mem _ ha)) (fun a ha=>hn a (List.mem_cons_of_mem _ ha)) h5)
 | .none,_,_,_,_,_,h=>by cases h with | leaf r=>exact .leaf (r.same sb)
 | .bool _,_,_,_,_,_,h=>by cases h with | leaf r=>exact .leaf (r.same sb)
 | .int _,_,_,_,_,_,h=>by cases h with | leaf r=>exact .leaf (r.same sb)
 | .str _,_,_,_,_,_,h=>by cases h with | leaf r=>exact .leaf (r.same sb)
 | .tuple _,_,_,_,_,_,h=>by cases h with | leaf r=>exact .leaf (r.same sb)
theorem OwL.mono(sb:Same Hb Hb'):∀(ds:List D) (n:Nat) (as:List Addr) (vs:List V),(∀a∈as,∀o,H a=some o→H' a=some o)→(∀a∈as,Hb' a=none)→OwL c Hb H n as vs ds→OwL c Hb' H' n as vs ds
 | [],_,_,_,_,_,h=>by cases h;exact .nil
 | d::ds,_,_,_,hp,hn,h=>by
  cases h with
  | cons h1 h2 h3=>exact .cons (Ow.mono sb d _ _ _ (fun a ha=>hp a (List.mem_append_left _ ha)) (fun a ha=>hn a (List.mem_append_left _ ha)) h1) (OwL.mono sb ds _ _ _ (fun a ha=>hp a (List.mem_append_right _ ha)) (fun a ha=>hn a (List.mem_append_right _ ha)) h2) h3
theorem OwK.mono(sb:Same Hb Hb'):∀(ds:List (D×D)) (n:Nat) (as:List Addr) (vs:List (Key×V)),(∀a∈as,∀o,H a=some o→H' a=some o)→(∀a∈as,Hb' a=none)→OwK c Hb H n as vs ds→OwK c Hb' H' n as vs ds
 | [],_,_,_,_,_,h=>by cases h;exact .nil
 | (k,d)::ds,_,_,_,hp,hn,h=>by
  cases h with
  | cons h1 h2 h3=>exact .cons (Ow.mono sb d _ _ _ (fun a ha=>hp a (List.mem_append_left _ ha)) (fun a ha=>hn a (List.mem_append_left _ ha)) h1) (OwK.mono sb ds _ _ _ (fun a ha=>hp a (List.mem_append_right _ ha)) (fun a ha=>hn a (List.mem_append_right _ ha)) h2) h3
end
mutual
theorem Ow.live:∀(d:D) (n:Nat) (as:List Addr) (v:V),Ow c Hb H n as v d→∀a∈as,H a≠none∧Hb a=none∧c.Hc a=none
 | .list ds,_,_,_,h=>by
  cases h with
  | leaf r=>exact fun a ha=>by cases ha
  | lst h1 h2 h3 h4 h5 =>
   intro a ha
   rcases List.mem_cons.mp ha with z | z
   ·subst z;exact⟨by rw[h1];simp,h2,h3⟩
   ·exact OwL.live ds _ _ _ h5 a z
 | .dict ds,_,_,_,h=>by
  cases h with
  | leaf r=>exact fun a ha=>by cases ha
  | dK h1 h2 h3 h4 h5 =>
   intro a ha
   rcases List.mem_cons.mp ha with z | z
   ·subst z;exact⟨by rw[h1];simp,h2,h3⟩
   ·exact OwK.live ds _ _ _ h5 a z
 | .none,_,_,_,h=>by cases h with | leaf r=>exact fun a ha=>by cases ha
 | .bool _,_,_,_,h=>by cases h with | leaf r=>exact fun a ha=>by cases ha
 | .int _,_,_,_,h=>by cases h with | leaf r=>exact fun a ha=>by cases ha
 | .str _,_,_,_,h=>by cases h with | leaf r=>exact fun a ha=>by cases ha
 | .tuple _,_,_,_,h=>by cases h with | leaf r=>exact fun a ha=>by cases ha
theorem OwL.live:∀(ds:List D) (n:Nat) (as:List Addr) (vs:List V),OwL c Hb H n as vs ds→∀a∈as,H a≠none∧Hb a=none∧c.Hc a=none
 | [],_,_,_,h=>by cases h;exact fun a ha=>by cases ha
 | d::ds,_,_,_,h=>by
  cases h with
  | cons h1 h2 h3 =>
   intro a ha
   rcases List.mem_append.mp ha with z | z
   ·exact Ow.live d _ _ _ h1 a z
   ·exact OwL.live ds _ _ _ h2 a z
theorem OwK.live:∀(ds:List (D×D)) (n:Nat) (as:List Addr) (vs:List (Key×V)),OwK c Hb H n as vs ds→∀a∈as,H a≠none∧Hb a=none∧c.Hc a=none
 | [],_,_,_,h=>by cases h;exact fun a ha=>by cases ha
 | (k,d)::ds,_,_,_,h=>by
  cases h with
  | cons h1 h2 h3 =>
   intro a ha
   rcases List.mem_append.mp ha with z | z
   ·exact Ow.live d _ _ _ h1 a z
   ·exact OwK.live ds _ _ _ h2 a z
end
mutual
theorem Ow.uniq:∀(d:D) (n:Nat) (as bs:List Addr) (v:V),Ow c Hb H n as v d→Ow c Hb H n bs v d→as=bs
 | .list ds,_,_,_,_,h,k=>by
  cases h with
  | leaf r=>cases k;rfl
  | lst h1 h2 h3 h4 h5 =>
   cases k with
   | lst k1 k2 k3 k4 k5 =>
    rw[h1] at k1;cases k1
    rw[OwL.uniq ds _ _ _ _ h5 k5]
 | .dict ds,_,_,_,_,h,k=>by
  cases h with
  | leaf r=>cases k;rfl
  | dK h1 h2 h3 h4 h5 =>
   cases k with
   | dK k1 k2 k3 k4 k5 =>
    rw[h1] at k1;cases k1
    rw[OwK.uniq ds _ _ _ _ h5 k5]
 | .none,_,_,_,_,h,k=>by cases h;cases k;rfl
 | .bool _,_,_,_,_,h,k=>by cases h;cases k;rfl
 | .int _,_,_,_,_,h,k=>by cases h;cases k;rfl
 | .str _,_,_,_,_,h,k=>by cases h;cases k;rfl
 | .tuple _,_,_,_,_,h,k=>by cases h;cases k;rfl
theorem OwL.uniq:∀(ds:List D) (n:Nat) (as bs:List Addr) (vs:List V),OwL c Hb H n as vs ds→OwL c Hb H n bs vs ds→as=bs
 | [],_,_,_,_,h,k=>by cases h;cases k;rfl
 | d::ds,_,_,_,_,h,k=>by
  cases h with
  | cons h1 h2 h3 =>
   cases k with
   | cons k1 k2 k3=>rw[Ow.uniq d _ _ _ _ h1 k1,OwL.uniq ds _ _ _ _ h2 k2]
theorem OwK.uniq:∀(ds:List (D×D)) (n:Nat) (as bs:List Addr) (vs:List (Key×V)),OwK c Hb H n as vs ds→OwK c Hb H n bs vs ds→as=bs
 | [],_,_,_,_,h,k=>by cases h;cases k;rfl
 | (k0,d)::ds,_,_,_,_,h,k=>by
  cases h with
  | cons h1 h2 h3 =>
   cases k with
   | cons k1 k2 k3=>rw[Ow.uniq d _ _ _ _ h1 k1,OwK.uniq ds _ _ _ _ h2 k2]
end
end
def JS:D→Bool
 | .none=>true
 | .bool _=>true
 | .int _=>true
 | .str _=>true
 | _=>false
mutual
inductive Fw(c:Ctx)(Hb H:Hp):List Addr→V→D→Prop
 | sc {v:V} {d:D}:JS d=true→Rp Hb v d→Fw c Hb H [] v d
 | lst {p:Addr} {xs:List V} {as:List Addr} {ds:List D}:H p=some (.lst xs)→Hb p=none→c.Hc p=none→FwL c Hb H as xs ds→Fw c Hb H (p::as) (.ref p) (.list ds)
 | tup {t:Addr} {o:Obj} {xs:List V} {as:List Addr} {ds:List D}:Hb t=some (.frz o (.tup xs))→o.dict=none→FwL c Hb H as xs ds→Fw c Hb H as (.ref t) (.tuple ds)
inductive FwL(c:Ctx)(Hb H:Hp):List Addr→List V→List D→Prop
 | nil:FwL c Hb H [] [] []
 | cons {a as:List Addr} {v:V} {vs:List V} {d:D} {ds:List D}:Fw c Hb H a v d→FwL c Hb H as vs ds→FwL c Hb H (a++as) (v::vs) (d::ds)
end
section
variable {c:Ctx} {Hb H Hb' H':Hp}
mutual
theorem Fw.mono(sb:Same Hb Hb'):∀(d:D) (as:List Addr) (v:V),(∀a∈as,∀o,H a=some o→H' a=some o)→(∀a∈as,Hb' a=none)→Fw c Hb H as v d→Fw c Hb' H' as v d
 | .list ds,_,_,hp,hn,h=>by
  cases h with
  | sc r _=>cases r
  | lst h1 h2 h3 h5=>exact .lst (hp _ (by simp) _ h1) (hn _ (by simp)) h3 (FwL.mono sb ds _ _ (fun a ha=>hp a (List.mem_cons_of_mem _ ha)) (fun a ha=>hn a (List.mem_cons_of_mem _ ha)) h5)
 | .tuple ds,_,_,hp,hn,h=>by
  cases h with
  | sc r _=>cases r
  | tup h1 h2 h5=>exact .tup (sb _ _ h1) h2 (FwL.mono sb ds _ _ hp hn h5)
 | .dict ds,_,_,_,_,h=>by cases h with | sc r _=>cases r
 | .none,_,_,_,_,h=>by cases h with | sc r k=>exact .sc r (k.same sb)
 | .bool _,_,_,_,_,h=>by cases h with | sc r k=>exact .sc r (k.same sb)
 | .int _,_,_,_,_,h=>by cases h with | sc r k=>exact .sc r (k.same sb)
 | .str _,_,_,_,_,h=>by cases h with | sc r k=>exact .sc r (k.same sb)
theorem FwL.mono(sb:Same Hb Hb'):∀(ds:List D) (as:List Addr) (vs:List V),(∀a∈as,∀o,H a=some o→H' a=some o)→(∀a∈as,Hb' a=none)→FwL c Hb H as vs ds→FwL c Hb' H' as vs ds
 | [],_,_,_,_,h=>by cases h;exact .nil
 | d::ds,_,_,hp,hn,h=>by
  cases h with
  | cons h1 h2=>exact .cons (Fw.mono sb d _ _ (fun a ha=>hp a (List.mem_append_left _ ha)) (fun a ha=>hn a (List.mem_append_left _ ha)) h1) (FwL.mono sb ds _ _ (fun a ha=>hp a (List.mem_append_right _ ha)) (fun a ha=>hn a (List.mem_append_right _ ha)) h2)
end
mutual
theorem Fw.live:∀(d:D) (as:List Addr) (v:V),Fw c Hb H as v d→∀a∈as,H a≠none∧Hb a=none∧c.Hc a=none
 | .list ds,_,_,h=>by
  cases h with
  | sc r _=>cases r
  | lst h1 h2 h3 h5 =>
   intro a ha
   rcases List.mem_cons.mp ha with z | z
   ·subst z;exact⟨by rw[h1];simp,h2,h3⟩
   ·exact FwL.live ds _ _ h5 a z
 | .tuple ds,_,_,h=>by
  cases h with
  | sc r _=>cases r
  | tup h1 h2 h5=>exact FwL.live ds _ _ h5
 | .dict ds,_,_,h=>by cases h with | sc r _=>cases r
 | .none,_,_,h=>by cases h;exact fun a ha=>by cases ha
 | .bool _,_,_,h=>by cases h;exact fun a ha=>by cases ha
 | .int _,_,_,h=>by cases h;exact fun a ha=>by cases ha
 | .str _,_,_,h=>by cases h;exact fun a ha=>by cases ha
theorem FwL.live:∀(ds:List D) (as:List Addr) (vs:List V),FwL c Hb H as vs ds→∀a∈as,H a≠none∧Hb a=none∧c.Hc a=none
 | [],_,_,h=>by cases h;exact fun a ha=>by cases ha
 | d::ds,_,_,h=>by
  cases h with
  | cons h1 h2 =>
   intro a ha
   rcases List.mem_append.mp ha with z | z
   ·exact Fw.live d _ _ h1 a z
   ·exact FwL.live ds _ _ h2 a z
end
mutual
theorem Fw.uniq:∀(d:D) (as bs:List Addr) (v:V),Fw c Hb H as v d→Fw c Hb H bs v d→as=bs
 | .list ds,_,_,_,h,k=>by
  cases h with
  | sc r _=>cases r
  | lst h1 h2 h3 h5 =>
   cases k with
   | sc r _=>cases r
   | lst k1 k2 k3 k5 =>
    rw[h1] at k1;cases k1
    rw[FwL.uniq ds _ _ _ h5 k5]
 | .tuple ds,_,_,_,h,k=>by
  cases h with
  | sc r _=>cases r
  | tup h1 h2 h5 =>
   cases k with
   | sc r _=>cases r
   | tup k1 k2 k5 =>
    rw[h1] at k1;cases k1
    exact FwL.uniq ds _ _ _ h5 k5
 | .dict ds,_,_,_,h,k=>by cases h with | sc r _=>cases r
 | .none,_,_,_,h,k=>by cases h;cases k;rfl
 | .bool _,_,_,_,h,k=>by cases h;cases k;rfl
 | .int _,_,_,_,h,k=>by cases h;cases k;rfl
 | .str _,_,_,_,h,k=>by cases h;cases k;rfl
theorem FwL.uniq:∀(ds:List D) (as bs:List Addr) (vs:List V),FwL c Hb H as vs ds→FwL c Hb H bs vs ds→as=bs
 | [],_,_,_,h,k=>by cases h;cases k;rfl
 | d::ds,_,_,_,h,k=>by
  cases h with
  | cons h1 h2 =>
   cases k with
   | cons k1 k2=>rw[Fw.uniq d _ _ _ h1 k1,FwL.uniq ds _ _ _ h2 k2]
end
end
def abC(a:Addr)(S:Key→Bool):HO:=.ext fun h=>∃h0 n,TheW.sx h0 a S n∧∀o,h0.get? a=some o→h.get? a=some o
def DXo(a:Addr)(kvs:List KX):HO:=.ext fun h=>∃o,h.get? a=some o∧aah TheW.hk a o kvs
def jE(c:Ctx)(Hb H:Hp):Fl→V→D→Prop
 | .sh,v,d=>Rp Hb v d
 | .ow,v,d=>∃p xs ds,v=.ref p∧d=.list ds∧H p=some (.lst xs)∧Hb p=none∧c.Hc p=none∧RpL Hb xs ds
 | .od n,v,d=>∃as,Ow c Hb H n as v d
 | .fr,v,d=>∃as,Fw c Hb H as v d∧as.Nodup
 | .ox,v,d=>∃p kvs ds,v=.ref p∧d=.dict ds∧H p=some (DXo p kvs)∧Hb p=none∧c.Hc p=none∧RpX Hb kvs ds
 | .st,v,d=>∃(p:Addr) (ks:List Key),v=.ref p∧d=.list (ks.map kD)∧H p=some (abC p fun j=>ks.any fun k=>decide (j=k))∧Hb p=none∧c.Hc p=none
 | .dd,_,_=>True
 | .bg,_,_=>True
def Jw(c:Ctx)(Hb H:Hp):Fl→V→D→Addr→Prop
 | .ow,v,_,a=>v=.ref a
 | .od n,v,d,a=>∃as,Ow c Hb H n as v d∧a∈as
 | .fr,v,d,a=>∃as,Fw c Hb H as v d∧a∈as
 | .ox,v,_,a=>v=.ref a
 | .st,v,_,a=>v=.ref a
 | _,_,_,_=>False
def zK(c:Ctx)(Γ:List Fl)(Hb H:Hp)(env:Env)(σ:L2.St)(i:Nat)(a:Addr):Prop:=∃d fl v,env[i]? = some (some d)∧Γ[i]? = some fl∧σ[i]? = some (some v)∧Jw c Hb H fl v d a
def V5(Hb:Hp)(o:HO)(g:D):Prop:=(∃xs ds,o=.lst xs∧g=.list ds∧RpL Hb xs ds)∨∃kvs ds,o=.dK kvs∧g=.dict ds∧RpK Hb kvs ds
theorem V5.same{Hb Hb':Hp}{o:HO}{g:D}(h:V5 Hb o g)(s:Same Hb Hb'):V5 Hb' o g:=by
 rcases h with⟨xs,ds,e1,e2,r⟩ | ⟨kvs,ds,e1,e2,r⟩
 ·exact .inl ⟨xs,ds,e1,e2,r.same s⟩
 ·exact .inr ⟨kvs,ds,e1,e2,RpK.mono s ds kvs r⟩
theorem V5.lst{Hb:Hp}{o:HO}{ds:List D}(h:V5 Hb o (.list ds)):∃xs,o=.lst xs∧RpL Hb xs ds:=by
 rcases h with⟨xs,ds',e1,e2,r⟩ | ⟨kvs,ds',e1,e2,r⟩
 ·cases e2;exact⟨xs,e1,r⟩
 ·cases e2
structure Rel(c:Ctx)(Γ:List Fl)(Hb H:Hp)(env:Env)(g:D)(σ:L2.St):Prop where
 ext:Same Hb H
 ent:∀a o,c.Hc a=some o→c.io≠some a→H a=some o
 dom:∀a,H a=none→c.Hc a=none
 b0:Same c.Hb0 Hb
 gro:∀a o,Hb a=some o→c.Hb0 a=none→c.Hc a=none
 bag:∀b,c.io=some b→∃(o:HO) (_:Unit),True∧H b=some o∧Hb b=none∧V5 c.Hg o g
 bgs:∀b,c.io=some b→c.Hc b≠none
 slot:∀(i:Nat) (d:D),env[i]? = some (some d)→∃fl v, Γ[i]? = some fl∧σ[i]? = some (some v)∧jE c Hb H fl v d
 sep:∀(i j:Nat) (a:Addr),i≠j→zK c Γ Hb H env σ i a→zK c Γ Hb H env σ j a→False
 lene:env.length=σ.length
 leng:Γ.length=σ.length
 bgf:∀k:Nat, Γ[k]? = some .bg→∃b,c.io=some b∧σ[k]? = some (some (.ref b))
theorem Rel.gb{c:Ctx}{Γ:List Fl}{Hb H:Hp}{env:Env}{g:D}{σ:L2.St}(R:Rel c Γ Hb H env g σ):Same c.Hg Hb:=c.g0.trans R.b0
theorem zK.eqs{c:Ctx}{Γ Γ':List Fl}{Hb H:Hp}{env env':Env}{σ σ':L2.St}{i:Nat}{a:Addr}(h1:Γ'[i]? = Γ[i]?)(h2:env'[i]? = env[i]?)(h3:σ'[i]? = σ[i]?)(h:zK c Γ' Hb H env' σ' i a):zK c Γ Hb H env σ i a:=by
 obtain⟨d,fl,v,e1,e2,e3,e4⟩:=h
 exact⟨d,fl,v,h2▸e1,h1▸e2,h3▸e3,e4⟩
theorem Jw.live{c:Ctx}{Hb H:Hp}{fl:Fl}{v:V}{d:D}{a:Addr}(s:jE c Hb H fl v d)(h:Jw c Hb H fl v d a):H a≠none∧Hb a=none∧c.Hc a=none:=by
 cases fl with
 | ow =>
  obtain⟨p,xs,ds,rfl,_,h3,h4,h5,_⟩:=s
  cases(show V.ref p=V.ref a from h)
  exact⟨by rw[h3];simp,h4,h5⟩
 | od n =>
  obtain⟨as,h1,h2⟩:=h
  exact Ow.live d n as v h1 a h2
 | fr =>
  obtain⟨as,h1,h2⟩:=h
  exact Fw.live d as v h1 a h2
 | ox =>
  obtain⟨p,xs,ds,rfl,_,h3,h4,h5,_⟩:=s
  cases(show V.ref p=V.ref a from h)
  exact⟨by rw[h3];simp,h4,h5⟩
 | st =>
  obtain⟨p,ks,rfl,_,h3,h4,h5⟩:=s
  cases(show V.ref p=V.ref a from h)
  exact⟨by rw[h3];simp,h4,h5⟩
 | sh=>exact h.elim
 | dd=>exact h.elim
 | bg=>exact h.elim
theorem zK.live{c:Ctx}{Γ:List Fl}{Hb H:Hp}{env:Env}{g:D}{σ:L2.St}{i:Nat}{a:Addr}(R:Rel c Γ Hb H env g σ)(h:zK c Γ Hb H env σ i a):H a≠none∧Hb a=none∧c.Hc a=none:=by
 obtain⟨d,fl,v,h1,h2,h3,h4⟩:=h
 obtain⟨fl',v',k1,k2,k3⟩:=R.slot i d h1
 rw[h2] at k1;cases k1
 rw[h3] at k2;cases k2
 exact Jw.live k3 h4
theorem jE.keep{c:Ctx}{Hb H Hb' H':Hp}{fl:Fl}{v:V}{d:D}(s:jE c Hb H fl v d)(sb:Same Hb Hb')(hp:∀a,Jw c Hb H fl v d a→(∀o,H a=some o→H' a=some o)∧Hb' a=none):jE c Hb' H' fl v d:=by
 cases fl with
 | sh=>exact Rp.same s sb
 | dd=>trivial
 | bg=>trivial
 | ow =>
  obtain⟨p,xs,ds,rfl,e2,e3,e4,e5,e6⟩:=s
  have z:=hp p rfl
  exact⟨p,xs,ds,rfl,e2,z.1 _ e3,z.2,e5,e6.same sb⟩
 | ox =>
  obtain⟨p,xs,ds,rfl,e2,e3,e4,e5,e6⟩:=s
  have z:=hp p rfl
  exact⟨p,xs,ds,rfl,e2,z.1 _ e3,z.2,e5,RpX.mono sb ds xs e6⟩
 | st =>
  obtain⟨p,ks,rfl,e2,e3,e4,e5⟩:=s
  have z:=hp p rfl
  exact⟨p,ks,rfl,e2,z.1 _ e3,z.2,e5⟩
 | od n =>
  obtain⟨as,h⟩:=s
  exact⟨as,Ow.mono sb d n as v (fun a ha=>(hp a ⟨as,h,ha⟩).1) (fun a ha=>(hp a ⟨as,h,ha⟩).2) h⟩
 | fr =>
  obtain⟨as,h,nd⟩:=s
  exact⟨as,Fw.mono sb d as v (fun a ha=>(hp a ⟨as,h,ha⟩).1) (fun a ha=>(hp a ⟨as,h,ha⟩).2) h,nd⟩
theorem Jw.back{c:Ctx}{Hb H Hb' H':Hp}{fl:Fl}{v:V}{d:D}{a:Addr}(s:jE c Hb H fl v d)(sb:Same Hb Hb')(hp:∀a,Jw c Hb H fl v d a→(∀o,H a=some o→H' a=some o)∧Hb' a=none)(h:Jw c Hb' H' fl v d a):Jw c Hb H fl v d a:=by
 cases fl with
 | sh=>exact h
 | dd=>exact h
 | bg=>exact h
 | ow=>exact h
 | ox=>exact h
 | st=>exact h
 | od n =>
  obtain⟨as,k⟩:=s
  obtain⟨bs,h1,h2⟩:=h
  have k2:=Ow.mono sb d n as v (fun a ha=>(hp a ⟨as,k,ha⟩).1) (fun a ha=>(hp a ⟨as,k,ha⟩).2) k
  exact⟨as,k,by rw[Ow.uniq d n as bs v k2 h1];exact h2⟩
 | fr =>
  obtain⟨as,k,_⟩:=s
  obtain⟨bs,h1,h2⟩:=h
  have k2:=Fw.mono sb d as v (fun a ha=>(hp a ⟨as,k,ha⟩).1) (fun a ha=>(hp a ⟨as,k,ha⟩).2) k
  exact⟨as,k,by rw[Fw.uniq d as bs v k2 h1];exact h2⟩
theorem zK.back{c:Ctx}{Γ:List Fl}{Hb H Hb' H':Hp}{env:Env}{g:D}{σ:L2.St}{i:Nat}{a:Addr}(R:Rel c Γ Hb H env g σ)(sb:Same Hb Hb')(hp:∀a,zK c Γ Hb H env σ i a→(∀o,H a=some o→H' a=some o)∧Hb' a=none)(h:zK c Γ Hb' H' env σ i a):zK c Γ Hb H env σ i a:=by
 obtain⟨d,fl,v,h1,h2,h3,h4⟩:=h
 obtain⟨fl',v',k1,k2,k3⟩:=R.slot i d h1
 rw[h2] at k1;cases k1
 rw[h3] at k2;cases k2
 exact⟨d,fl,v,h1,h2,h3,h4.back k3 sb fun a ha=>hp a ⟨d,fl,v,h1,h2,h3,ha⟩⟩
structure Grow(c:Ctx)(Hb H Hb' H':Hp):Prop where
 b:Same Hb Hb'
 h:∀a o,H a=some o→c.io≠some a→H' a=some o
 n:∀a,Hb' a≠none→Hb a=none→H a=none
 d:∀a,H' a=none→H a=none
theorem Grow.refl(c:Ctx)(Hb H:Hp):Grow c Hb H Hb H:=⟨Same.refl _,fun _ _ h _=>h,fun _ e z=>absurd z e,fun _ e=>e⟩
theorem Grow.trans{c:Ctx}{Hb H Hb1 H1 Hb2 H2:Hp}(x:Grow c Hb H Hb1 H1)(y:Grow c Hb1 H1 Hb2 H2):Grow c Hb H Hb2 H2 :=
 ⟨x.b.trans y.b,fun a o h n=>y.h a o (x.h a o h n) n,fun a e z=>by
  cases q:Hb1 a with
  | some o=>exact x.n a (by rw[q];simp) z
  | none=>exact x.d a (y.n a e q),fun a e=>x.d a (y.d a e)⟩
section
variable {c:Ctx} {Γ:List Fl} {Hb H Hb' H':Hp} {env:Env} {g g':D} {σ:L2.St}
theorem Qd(R:Rel c Γ Hb H env g σ)(h:∀a o,H a=some o→c.io≠some a→H' a=some o)(n:∀a,Hb' a≠none→Hb a=none→H a=none):∀i a,zK c Γ Hb H env σ i a→(∀o,H a=some o→H' a=some o)∧Hb' a=none:=fun i a ho=>by
 obtain⟨l1,l2,l3⟩:=ho.live R
 refine⟨fun o e=>h a o e fun q=>(R.bgs _ q) l3,?_⟩
 cases q:Hb' a with
 | none=>rfl
 | some o=>exact absurd (n a (by rw[q];simp) l2) l1
theorem jE.grow{i:Nat}{fl:Fl}{v:V}{d:D}(R:Rel c Γ Hb H env g σ)(b:Same Hb Hb')(h:∀a o,H a=some o→c.io≠some a→H' a=some o)(n:∀a,Hb' a≠none→Hb a=none→H a=none)(e1:env[i]? = some (some d))(e2:Γ[i]? = some fl)(e3:σ[i]? = some (some v))(s:jE c Hb H fl v d):jE c Hb' H' fl v d :=
 s.keep b fun a ha=>Qd R h n i a ⟨d,fl,v,e1,e2,e3,ha⟩
theorem Rel.grow(R:Rel c Γ Hb H env g σ)(b:Same Hb Hb')(x:Same Hb' H')(h:∀a o,H a=some o→c.io≠some a→H' a=some o)(n:∀a,Hb' a≠none→Hb a=none→H a=none)(d:∀a,H' a=none→H a=none)
  (bg:∀b,c.io=some b→∃(o:HO) (_:Unit),True∧H' b=some o∧Hb' b=none∧V5 c.Hg o g'):Rel c Γ Hb' H' env g' σ where
 ext:=x
 ent:=fun a o e i=>h a o (R.ent a o e i) i
 dom:=fun a e=>R.dom a (d a e)
 b0:=R.b0.trans b
 gro:=fun a o e z=>by
  cases q:Hb a with
  | some u=>exact R.gro a u q z
  | none=>exact R.dom a (n a (by rw[e];simp) q)
 bag:=bg
 bgs:=R.bgs
 slot:=fun i d e=>by
  obtain⟨fl,v,e1,e2,s⟩:=R.slot i d e
  exact⟨fl,v,e1,e2,jE.grow R b h n e e1 e2 s⟩
 sep:=fun i j a ij o1 o2=>R.sep i j a ij (o1.back R b (Qd R h n i)) (o2.back R b (Qd R h n j))
 lene:=R.lene
 leng:=R.leng
 bgf:=R.bgf
theorem Rel.grow0(R:Rel c Γ Hb H env g σ)(b:Same Hb Hb')(x:Same Hb' H')(h:Same H H')(n:∀a,Hb' a≠none→Hb a=none→H a=none):Rel c Γ Hb' H' env g σ:=by
 refine R.grow b x (fun a o e _=>h a o e) n (fun a e=>h.free e) fun bb hb=>?_
 obtain⟨xs,ds,e1,e2,e3,e4⟩:=R.bag bb hb
 refine⟨xs,ds,e1,h _ _ e2,?_,e4⟩
 cases q:Hb' bb with
 | none=>rfl
 | some o =>
  have z:=n bb (by rw[q];simp) e3
  rw[e2] at z;cases z
theorem yE{p:Addr}{o:HO}(h:H p=none):Same H (upd H p o):=fun b x e=>by
 rw[upd_ne (ne_of_none e h)]
 exact e
theorem Rel.new(R:Rel c Γ Hb H env g σ){p:Addr}{o:HO}(h:H p=none):Rel c Γ (upd Hb p o) (upd H p o) env g σ:=by
 have hb:Hb p=none:=R.ext.free h
 refine R.grow0 (yE hb) (fun a x e=>?_) (yE h) fun a e z=>?_
 ·by_cases q:a=p
  ·subst q;rw[upd_same] at e ⊢;exact e
  ·rw[upd_ne q] at e ⊢;exact R.ext a x e
 ·by_cases q:a=p
  ·subst q;exact h
  ·rw[upd_ne q] at e;exact absurd z e
theorem Rel.newOwn(R:Rel c Γ Hb H env g σ){p:Addr}{o:HO}(h:H p=none):Rel c Γ Hb (upd H p o) env g σ :=
 R.grow0 (Same.refl _) (R.ext.trans (yE h)) (yE h) fun a e z=>absurd z e
end
abbrev XF:=Env→D→Option (D×D)
abbrev BF:=Env→D→Option (Bool×D)
abbrev LF:=Env→D→Option (List D×D)
def RfE(Γ:List Fl)(te:TE)(f:XF):Prop:=∀(c:Ctx) (Hb H:Hp) (env:Env) (g:D) (σ:L2.St) (d g':D),Rel c Γ Hb H env g σ→f env g=some (d,g') →
 ∀Q:VK,(∀v Hb' H',Grow c Hb H Hb' H'→Rel c Γ Hb' H' env g' σ→Rp Hb' v d→Q v H')→te σ H Q
def RfN(Γ:List Fl)(te:TE)(f:XF):Prop:=∀(c:Ctx) (Hb H:Hp) (env:Env) (g:D) (σ:L2.St) (d g':D),Rel c Γ Hb H env g σ→f env g=some (d,g') →
 ∀Q:VK,(∀p xs ds Hb' H',Grow c Hb H Hb' H'→Rel c Γ Hb' H' env g' σ→d=.list ds→H' p=some (.lst xs)→Hb' p=none→H p=none→c.Hc p=none→RpL Hb' xs ds→Q (.ref p) H')→te σ H Q
def RfT(Γ:List Fl)(tt:TT)(f:BF):Prop:=∀(c:Ctx) (Hb H:Hp) (env:Env) (g:D) (σ:L2.St) (b:Bool) (g':D),Rel c Γ Hb H env g σ→f env g=some (b,g') →
 ∀Q:Bool→Hp→Prop,(∀Hb' H',Grow c Hb H Hb' H'→Rel c Γ Hb' H' env g' σ→Q b H')→tt σ H Q
def RfA(Γ:List Fl)(ta:TA)(f:LF):Prop:=∀(c:Ctx) (Hb H:Hp) (env:Env) (g:D) (σ:L2.St) (ds:List D) (g':D),Rel c Γ Hb H env g σ→f env g=some (ds,g') →
 ∀Q:List V→Hp→Prop,(∀vs Hb' H',Grow c Hb H Hb' H'→Rel c Γ Hb' H' env g' σ→RpL Hb' vs ds→Q vs H')→ta σ H Q
section
variable {Γ:List Fl} {te ta tb:TE} {f fa fb:XF}
theorem RfN.old{Γ:List Fl}{c:Ctx}{Hb H Hb' H':Hp}{env:Env}{g:D}{σ:L2.St}(R:Rel c Γ Hb H env g σ)(G:Grow c Hb H Hb' H'){i:Nat}{a:Addr}(h:zK c Γ Hb' H' env σ i a):H a≠none :=
 ((h.back R G.b (Qd R G.h G.n i)).live R).1
theorem RfN.e(h:RfN Γ te f):RfE Γ te f:=fun c Hb H env g σ d g' R e Q q =>
 h c Hb H env g σ d g' R e Q fun p xs ds Hb' H' G R' e1 e2 e3 e4 e5 e6=>by
  subst e1
  have sm:Same Hb' (upd Hb' p (.lst xs)):=yE e3
  refine q (.ref p) (upd Hb' p (.lst xs)) H' ⟨G.b.trans sm,G.h,fun a e z=>?_,G.d⟩ ?_ (.lst upd_same (e6.same sm))
  ·by_cases y:a=p
   ·subst y;exact e4
   ·rw[upd_ne y] at e;exact G.n a e z
  have hx:Same (upd Hb' p (.lst xs)) H':=fun a x e=>by
   by_cases z:a=p
   ·subst z;rw[upd_same] at e;cases e;exact e2
   ·rw[upd_ne z] at e;exact R'.ext a x e
  -- the base alone grows,by an object of ours
  have kp:∀i a,zK c Γ Hb' H' env σ i a→(∀o,H' a=some o→H' a=some o)∧upd Hb' p (.lst xs) a=none:=fun i a ho=>by
   refine⟨fun o e=>e,?_⟩
   have:a≠p:=fun y=>by
    -- a slot's list stood before;the new one did not
    subst y
    exact absurd e4 (RfN.old R G ho)
   rw[upd_ne this];exact(ho.live R').2.1
  refine { ext:=hx,ent:=R'.ent,dom:=R'.dom,b0:=R'.b0.trans sm,gro:=fun a o e z=>?_,bag:=fun b hb=>?_,bgs:=R'.bgs,slot:=fun i d e=>?_,sep:=fun i j a ij o1 o2=>R'.sep i j a ij (o1.back R' sm (kp i)) (o2.back R' sm (kp j)),lene:=R'.lene,leng:=R'.leng,bgf:=R'.bgf }
  ·by_cases y:a=p
   ·subst y;exact e5
   ·rw[upd_ne y] at e;exact R'.gro a o e z
  ·obtain⟨ys,es,z1,z2,z3,z4⟩:=R'.bag b hb
   refine⟨ys,es,z1,z2,?_,z4⟩
   rw[upd_ne (fun(y:b=p)=>(R'.bgs b hb) (by rw[y];exact e5))]
   exact z3
  ·obtain⟨fl,v,z1,z2,s⟩:=R'.slot i d e
   exact⟨fl,v,z1,z2,s.keep sm fun a ha=>kp i a ⟨d,fl,v,e,z1,z2,ha⟩⟩
end
end
section
variable [TheW]
section
variable {X:Cx} {es:List Expr} {pos:Pos} {t:TA}
def yP(t:TA):TE:=fun σ H Q=>t σ H fun xs H1=>xs.length≤sizeLine∧∀p od,H1 p=none→od.dict=none→Q (.ref p) (upd H1 p (.frz od (.tup xs)))
theorem WZ{pins:List (Addr×Obj)}{σ:L2.St}{H:Hp}{s:Shared}{xs:List V}{us:List Value}{a:Addr}{h':Heap}{t':Nat}(I:Inv X pins σ H s)(k:∀b u,s.heap.get? b=some u→h'.get? b=some u)(ha:s.heap.objs.size≤a)(z:xs.length≤sizeLine)(r:Vals xs us)
  (e:h'.get? a=some { cls:=.type "tuple",data:=.seq us.toArray }):∃od:Obj,od.dict=none∧Inv X pins σ (upd H a (.frz od (.tup xs))) { s with heap:=h',toks:=t' } :=
 ⟨{ cls:=.type "tuple",data:=.seq us.toArray },rfl,I.laid (t':=t') k ha ⟨e,z,us,r,⟨_,e,rfl,_,rfl⟩⟩⟩
theorem zT{x1}(h:PA X es t):PE X (.Tuple es x1 pos) (yP t):=by
 refine⟨fun pins s σ H Q I hq=>wpAny_Tuple_spliced (thn (h.run pos pins s σ H _ I hq) fun us s1 ⟨xs,H1,I1,r,z,q⟩=>⟨by rw[←r.length];exact z,?_⟩)⟩
 obtain⟨od,hd,I2⟩:=WZ (t':=s1.toks) I1 (fun b u e=>Heap.get?_push_of_some _ e) (Nat.le_refl _) z r (Heap.get?_push_size _ rfl)
 exact⟨.ref s1.heap.objs.size,_,I2,rfl,q _ od (I1.hok.fresh (Nat.le_refl _)) hd⟩
def agv(K:PySem.W.Frag):R2:=fun x y H Q=>∃a b xs ys,x=.ref a∧y=.ref b∧SqT K H a xs∧SqT K H b ys∧xs.length+ys.length≤sizeLine ∧
 (xs=[]→Q (.ref b) H)∧(xs≠[]→ys=[]→Q (.ref a) H)∧∀p od,H p=none→od.dict=none→Q (.ref p) (upd H p (.frz od (.tup (xs++ys))))
theorem afL:OpR X (binaryOp .Add) (agv X.K):=by
 intro pins s σ H x y v u Q I rx ry h
 obtain⟨a,b,xs,ys,rfl,rfl,ha,hb,hz,q0,q1,q2⟩:=h
 by_cases hx:xs=[]
 ·exact op_catA pins s σ H _ _ v u Q I rx ry ⟨a,b,xs,ys,rfl,rfl,ha,hb,hz,q0,q1,fun w=>absurd hx w⟩
 ·cases rx;cases ry
  obtain⟨its,r1,p1,_⟩:=I.tuple ha
  obtain⟨its2,r2,p2,_⟩:=I.tuple hb
  refine HT.cat_tup p1 p2 (fun z=>hx (r1.nil_iff.mp z)) (fun z=>⟨.ref a,H,I,rfl,q1 hx (r2.nil_iff.mp z)⟩) (fun z=>?_) (by rw[←r1.length,←r2.length];exact hz)
  obtain⟨od,hd,I2⟩:=WZ (h':=s.heap.push { cls:=.type "tuple",data:=.seq (its++its2).toArray }) (t':=s.toks) I (fun b ob q=>Heap.get?_push_of_some _ q) (Nat.le_refl _) (by rw[List.length_append];exact hz) (r1.append r2) (Heap.get?_push_size _ rfl)
  exact⟨.ref s.heap.objs.size,_,I2,rfl,q2 _ od (I.hok.fresh (Nat.le_refl _)) hd⟩
def agw(K:PySem.W.Frag):List V→Hp→VK→Prop:=fun xs H Q=>∃p ys,xs=[.ref p]∧((SqL K H p ys∧∀l od,H l=none→od.dict=none→Q (.ref l) (upd H l (.frz od (.tup ys))))∨(SqT K H p ys∧Q (.ref p) H))
theorem yQ:CallR X (.type "tuple") (agw X.K):=by
 intro pins s σ H xs us Q I r h
 obtain⟨p,ys,rfl,h⟩:=h
 rcases h with⟨hq,q⟩ | ⟨hq,q⟩
 ·rw[Vals.ref1 r]
  obtain⟨its,r',pl,hz⟩:=I.list hq
  refine call_tuple_list pl.isList (fun h' kp=>?_) (by rw[List.size_toArray,←r'.length];exact hz)
  have I1:Inv X pins σ H { s with heap:=h' }:=I.kept (t':=s.toks) kp
  obtain⟨od,hd,I2⟩:=WZ (t':=s.toks) I1 (fun b o e=>Heap.get?_push_of_some _ e) (Nat.le_refl _) hz r' (Heap.get?_push_size _ rfl)
  exact⟨.ref h'.objs.size,_,I2,rfl,q _ od (I1.hok.fresh (Nat.le_refl _)) hd⟩
 ·exact call_tuple_of pins s σ H _ us Q I r ⟨p,ys,rfl,.inr ⟨hq,q⟩⟩
def ahE(K:PySem.W.Frag):V→Option Int→Option Int→Hp→VK→Prop:=fun x lo hi H Q=>∃a xs,x=.ref a∧SqT K H a xs ∧
 (cutV xs lo hi=xs→Q (.ref a) H)∧∀p od,H p=none→od.dict=none→Q (.ref p) (upd H p (.frz od (.tup (cutV xs lo hi))))
theorem afM:SlR X (ahE X.K):=by
 intro pins s σ H x v vl vu lo hi sl Q I rx hs pl pu h
 obtain⟨a,xs,rfl,hx,q1,q2⟩:=h
 by_cases hw:HT.sIx xs.length 0 lo=0∧HT.sIx xs.length xs.length hi=xs.length
 ·refine sl_tupA pins s σ H _ v vl vu lo hi sl Q I rx hs pl pu ⟨a,xs,rfl,hx,fun _=>q1 ?_,fun w=>absurd hw w⟩
  unfold cutV
  rw[hw.1,hw.2];simp
 ·cases rx
  obtain⟨its,r,ht,hz⟩:=I.tuple hx
  have hlen:its.toArray.size=xs.length:=by rw[List.size_toArray];exact r.length.symm
  refine⟨"tuple",_,PyProof.Rows.slot_tuple_getitem.lookup,ht.typeIs,?_⟩
  refine HT.getItem_tuple_cut ht hs pl pu (by rw[hlen];exact hw) ?_ (by rw[hlen];exact hz)
  rw[hlen]
  obtain⟨od,hd,I2⟩:=WZ (t':=s.toks) I (fun b ob q=>Heap.get?_push_of_some _ q) (Nat.le_refl _) (Nat.le_trans (cutV_length xs lo hi) hz) ((r.drop (HT.sIx xs.length 0 lo)).take (HT.sIx xs.length xs.length hi - HT.sIx xs.length 0 lo)) (Heap.get?_push_size _ rfl)
  exact⟨.ref s.heap.objs.size,_,I2,rfl,q2 _ od (I.hok.fresh (Nat.le_refl _)) hd⟩
end
end
section
variable [TheW]
structure Nw(Hb H Hb' H':Hp):Prop where
 b:Same Hb Hb'
 x:Same Hb' H'
 h:Same H H'
 n:∀a,Hb' a≠none→Hb a=none→H a=none
section
variable {c:Ctx} {Γ:List Fl} {Hb H Hb' H' Hb2 H2:Hp} {env:Env} {g g':D} {σ:L2.St}
theorem Nw.refl(x:Same Hb H):Nw Hb H Hb H:=⟨Same.refl _,x,Same.refl _,fun a e z=>absurd z e⟩
theorem Nw.trans(a:Nw Hb H Hb' H')(b:Nw Hb' H' Hb2 H2):Nw Hb H Hb2 H2:=⟨a.b.trans b.b,b.x,a.h.trans b.h,fun p e z=>by
 cases q:Hb' p with
 | some o=>exact a.n p (by rw[q];simp) z
 | none=>exact a.h.free (b.n p e q)⟩
theorem Nw.new{p:Addr}{o:HO}(x:Same Hb H)(h:H p=none):Nw Hb H (upd Hb p o) (upd H p o):=by
 refine⟨yE (x.free h),fun a u e=>?_,yE h,fun a e z=>?_⟩
 ·by_cases q:a=p
  ·subst q;rw[upd_same] at e ⊢;exact e
  ·rw[upd_ne q] at e ⊢;exact x a u e
 ·by_cases q:a=p
  ·subst q;exact h
  ·rw[upd_ne q] at e;exact absurd z e
theorem Nw.newOwn{p:Addr}{o:HO}(x:Same Hb H)(h:H p=none):Nw Hb H Hb (upd H p o):=⟨Same.refl _,x.trans (yE h),yE h,fun a e z=>absurd z e⟩
theorem Nw.give{p:Addr}{o:HO}(x:Same Hb H)(e:H p=some o)(hb:Hb p=none):Same Hb (upd Hb p o)∧Same (upd Hb p o) H:=⟨yE hb,fun a u z=>by
 by_cases q:a=p
 ·subst q;rw[upd_same] at z;cases z;exact e
 ·rw[upd_ne q] at z;exact x a u z⟩
theorem Nw.rel(w:Nw Hb H Hb' H')(R:Rel c Γ Hb H env g σ):Rel c Γ Hb' H' env g σ:=R.grow0 w.b w.x w.h w.n
theorem Nw.gr(w:Nw Hb H Hb' H'):Grow c Hb H Hb' H':=⟨w.b,fun a o e _=>w.h a o e,w.n,fun a e=>w.h.free e⟩
end
def W0(H:Hp)(p:Addr)(xs:List V):Prop:=∃o:Obj,H p=some (.frz o (.tup xs))∧o.dict=none
theorem W0.sq{K:PySem.W.Frag}{Hb H:Hp}{p:Addr}{xs:List V}(h:W0 Hb p xs)(sm:Same Hb H):SqT K H p xs:=let ⟨_,e,_⟩:=h;.inl (.inr ⟨_,sm _ _ e⟩)
theorem Rp.tp{H:Hp}{p:Addr}{xs:List V}{ds:List D}(h:W0 H p xs)(r:RpL H xs ds):Rp H (.ref p) (.tuple ds):=let ⟨_,e,d⟩:=h;.tup e d r
def RpU(H:Hp)(v:V)(d:D):Prop:=∃a xs ds,v=.ref a∧d=.tuple ds∧H a=some (.tup xs)∧RpL H xs ds
def RpW(H:Hp)(v:V)(d:D):Prop:=Rp H v d∨RpU H v d
theorem RpU.same{H H':Hp}{v:V}{d:D}(h:RpU H v d)(e:Same H H'):RpU H' v d:=let ⟨a,xs,ds,e1,e2,e3,e4⟩:=h;⟨a,xs,ds,e1,e2,e _ _ e3,e4.same e⟩
def Rb(c:Ctx)(Hb H:Hp)(v:V)(d:D):Prop:=Rp Hb v d∨∃p xs ds,v=.ref p∧d=.list ds∧H p=some (.lst xs)∧RpL Hb xs ds∧c.io≠some p
inductive RbL(c:Ctx)(Hb H:Hp):List V→List D→Prop
 | nil:RbL c Hb H [] []
 | cons {v:V} {vs:List V} {d:D} {ds:List D}:Rb c Hb H v d→RbL c Hb H vs ds→RbL c Hb H (v::vs) (d::ds)
section
variable {c:Ctx} {Γ:List Fl} {Hb H Hb' H' Hb2 H2:Hp} {env:Env} {g g':D} {σ:L2.St} {v:V} {d:D}
theorem Rb.grow(h:Rb c Hb H v d)(w:Grow c Hb H Hb' H'):Rb c Hb' H' v d:=by
 rcases h with h | ⟨p,xs,ds,e1,e2,e3,e4,e5⟩
 ·exact .inl (h.same w.b)
 ·exact .inr ⟨p,xs,ds,e1,e2,w.h _ _ e3 e5,e4.same w.b,e5⟩
theorem RbL.grow:∀ {vs:List V} {ds:List D},RbL c Hb H vs ds→Grow c Hb H Hb' H'→RbL c Hb' H' vs ds
 | _,_,.nil,_=>.nil
 | _,_,.cons h t,w=>.cons (h.grow w) (t.grow w)
theorem Rb.rp(h:Rb c Hb H v d)(x:Same Hb H):Rp H v d:=by
 rcases h with h | ⟨p,xs,ds,rfl,rfl,e3,e4,e5⟩
 ·exact h.same x
 ·exact .lst e3 (e4.same x)
theorem Rb.list{ds:List D}(h:Rb c Hb H v (.list ds))(x:Same Hb H):∃p xs,v=.ref p∧H p=some (.lst xs)∧RpL Hb xs ds:=by
 rcases h with h | ⟨p,xs,es,rfl,e2,e3,e4,e5⟩
 ·cases h with
  | lst a b=>exact⟨_,_,rfl,x _ _ a,b⟩
 ·cases e2;exact⟨p,xs,rfl,e3,e4⟩
theorem Rb.tuple{ds:List D}(h:Rb c Hb H v (.tuple ds)):∃p xs,v=.ref p∧W0 Hb p xs∧RpL Hb xs ds:=by
 rcases h with h | ⟨p,xs,es,rfl,e2,e3,e4,e5⟩
 ·cases h with
  | tup a hd b=>exact⟨_,_,rfl,⟨_,a,hd⟩,b⟩
 ·cases e2
theorem Rb.int{i:Int}(h:Rb c Hb H v (.int i)):v=.int i:=by
 rcases h with h | ⟨p,xs,es,rfl,e2,e3,e4,e5⟩
 ·cases h;rfl
 ·cases e2
theorem Rb.str{i:Str}(h:Rb c Hb H v (.str i)):v=.str i:=by
 rcases h with h | ⟨p,xs,es,rfl,e2,e3,e4,e5⟩
 ·cases h;rfl
 ·cases e2
theorem Rb.bool{i:Bool}(h:Rb c Hb H v (.bool i)):v=.bl i:=by
 rcases h with h | ⟨p,xs,es,rfl,e2,e3,e4,e5⟩
 ·cases h;rfl
 ·cases e2
theorem Rb.none(h:Rb c Hb H v .none):v=.non:=by
 rcases h with h | ⟨p,xs,es,rfl,e2,e3,e4,e5⟩
 ·cases h;rfl
 ·cases e2
end
def RfB(Γ:List Fl)(te:TE)(f:XF):Prop:=∀(c:Ctx) (Hb H:Hp) (env:Env) (g:D) (σ:L2.St) (d g':D),Rel c Γ Hb H env g σ→f env g=some (d,g') →
 ∀Q:VK,(∀v Hb' H',Grow c Hb H Hb' H'→Rel c Γ Hb' H' env g' σ→Rb c Hb' H' v d→Q v H')→te σ H Q
def aai(Γ:List Fl)(ta:TA)(f:LF):Prop:=∀(c:Ctx) (Hb H:Hp) (env:Env) (g:D) (σ:L2.St) (ds:List D) (g':D),Rel c Γ Hb H env g σ→f env g=some (ds,g') →
 ∀Q:List V→Hp→Prop,(∀vs Hb' H',Grow c Hb H Hb' H'→Rel c Γ Hb' H' env g' σ→RbL c Hb' H' vs ds→Q vs H')→ta σ H Q
theorem RfE.b{Γ:List Fl}{te:TE}{f:XF}(h:RfE Γ te f):RfB Γ te f:=fun c Hb H env g σ d g' R e Q q=>h c Hb H env g σ d g' R e Q fun v Hb' H' G R' r=>q v Hb' H' G R' (.inl r)
def xV(i:Nat):XF:=fun env g=>match env[i]? with
 | some (some d)=>some (d,g)
 | _=>none
def xC(d:D):XF:=fun _ g=>some (d,g)
theorem jl{i:Nat}{env:Env}{g d g':D}(h:xV i env g=some (d,g')):env[i]? = some (some d)∧g'=g:=by
 unfold xV at h
 split at h
 ·cases h;exact⟨by assumption,rfl⟩
 ·cases h
section
variable {Γ:List Fl} {ta tb te:TE} {f fa fb:XF}
theorem yO{i:Nat}(h:Γ[i]? = some .sh):RfE Γ (tVar i) (xV i):=fun c Hb H env g σ d g' R e Q q=>by
 obtain⟨e1,rfl⟩:=jl e
 obtain⟨fl,v,z1,z2,z3⟩:=R.slot i d e1
 rw[h] at z1;cases z1
 exact⟨v,z2,q v Hb H (Grow.refl _ _ _) R z3⟩
theorem vt{i:Nat}(h:Γ[i]? = some .ow):RfB Γ (tVar i) (xV i):=fun c Hb H env g σ d g' R e Q q=>by
 obtain⟨e1,rfl⟩:=jl e
 obtain⟨fl,v,z1,z2,z3⟩:=R.slot i d e1
 rw[h] at z1;cases z1
 obtain⟨p,xs,ds,y1,y2,y3,y4,y5,y6⟩:=z3
 exact⟨v,z2,q v Hb H (Grow.refl _ _ _) R (.inr ⟨p,xs,ds,y1,y2,y3,y6,fun z=>(R.bgs _ z) y5⟩)⟩
theorem zx(i:Int):RfE Γ (tC (.int i)) (xC (.int i)):=fun c Hb H env g σ d g' R e Q q=>by cases e;exact q _ _ _ (Grow.refl _ _ _) R (.int i)
theorem yB(i:Str):RfE Γ (tC (.str i)) (xC (.str i)):=fun c Hb H env g σ d g' R e Q q=>by cases e;exact q _ _ _ (Grow.refl _ _ _) R (.str i)
theorem Yi(i:Bool):RfE Γ (tC (.bl i)) (xC (.bool i)):=fun c Hb H env g σ d g' R e Q q=>by cases e;exact q _ _ _ (Grow.refl _ _ _) R (.bl i)
theorem Gv:RfE Γ (tC .non) (xC .none):=fun c Hb H env g σ d g' R e Q q=>by cases e;exact q _ _ _ (Grow.refl _ _ _) R .non
def zb:LF:=fun _ g=>some ([],g)
def za(fa:XF)(fr:LF):LF:=fun env g=>(fa env g).bind fun p=>(fr env p.2).bind fun q=>some (p.1::q.1,q.2)
def y9:D→Option (List D)
 | .list ds=>some ds
 | .tuple ds=>some ds
 | _=>none
def jc(fa:XF)(fr:LF):LF:=fun env g=>(fa env g).bind fun p=>(y9 p.1).bind fun xs=>(fr env p.2).bind fun q=>some (xs++q.1,q.2)
theorem Jx{fr:LF}{env:Env}{g g':D}{ds:List D}(h:za fa fr env g=some (ds,g')):∃d g1 es,fa env g=some (d,g1)∧fr env g1=some (es,g')∧ds=d::es:=by
 unfold za at h
 cases e:fa env g with
 | none=>rw[e] at h;cases h
 | some p =>
  rw[e] at h
  cases e2:fr env p.2 with
  | none=>rw[Option.bind_some,e2] at h;cases h
  | some q=>rw[Option.bind_some,e2] at h;cases h;exact⟨p.1,p.2,q.1,rfl,e2,rfl⟩
theorem zp:RfA Γ tNil zb:=fun c Hb H env g σ ds g' R e Q q=>by cases e;exact q [] _ _ (Grow.refl _ _ _) R .nil
theorem zc{tr:TA}{fr:LF}(ha:RfE Γ ta fa)(hr:RfA Γ tr fr):RfA Γ (tCons ta tr) (za fa fr):=fun c Hb H env g σ ds g' R e Q q=>by
 obtain⟨d,g1,es,e1,e2,rfl⟩:=Jx e
 exact ha c Hb H env g σ d g1 R e1 _ fun v Hb1 H1 G1 R1 r1=>hr c Hb1 H1 env g1 σ es g' R1 e2 _ fun vs Hb2 H2 G2 R2 r2=>q (v::vs) Hb2 H2 (G1.trans G2) R2 (.cons (r1.same G2.b) r2)
theorem zH:aai Γ tNil zb:=fun c Hb H env g σ ds g' R e Q q=>by cases e;exact q [] _ _ (Grow.refl _ _ _) R .nil
theorem zA{tr:TA}{fr:LF}(ha:RfB Γ ta fa)(hr:aai Γ tr fr):aai Γ (tCons ta tr) (za fa fr):=fun c Hb H env g σ ds g' R e Q q=>by
 obtain⟨d,g1,es,e1,e2,rfl⟩:=Jx e
 exact ha c Hb H env g σ d g1 R e1 _ fun v Hb1 H1 G1 R1 r1=>hr c Hb1 H1 env g1 σ es g' R1 e2 _ fun vs Hb2 H2 G2 R2 r2=>q (v::vs) Hb2 H2 (G1.trans G2) R2 (.cons (r1.grow G2) r2)
theorem J3{K:PySem.W.Frag}{tr:TA}{fr:LF}(ha:RfB Γ ta fa)(hr:RfA Γ tr fr):RfA Γ (StX.tStar K ta tr) (jc fa fr):=fun c Hb H env g σ ds g' R e Q q=>by
 unfold jc at e
 cases e1:fa env g with
 | none=>rw[e1] at e;cases e
 | some p =>
  rw[e1,Option.bind_some] at e
  cases e2:y9 p.1 with
  | none=>rw[e2] at e;cases e
  | some xs =>
   rw[e2,Option.bind_some] at e
   cases e3:fr env p.2 with
   | none=>rw[e3] at e;cases e
   | some es =>
    rw[e3] at e;cases e
    refine ha c Hb H env g σ p.1 p.2 R e1 _ fun v Hb1 H1 G1 R1 r1=>?_
    have:∃a ys,v=V.ref a∧(SqT K H1 a ys∨SqL K H1 a ys)∧RpL Hb1 ys xs:=by
     cases e4:p.1 with
     | list ds =>
      rw[e4] at r1 e2;cases e2
      obtain⟨a,ys,z1,z2,z3⟩:=r1.list R1.ext
      exact⟨a,ys,z1,.inr (SqL.of z2),z3⟩
     | tuple ds =>
      rw[e4] at r1 e2;cases e2
      obtain⟨a,ys,z1,z2,z3⟩:=r1.tuple
      exact⟨a,ys,z1,.inl (z2.sq R1.ext),z3⟩
     | none=>rw[e4] at e2;cases e2
     | bool b=>rw[e4] at e2;cases e2
     | int b=>rw[e4] at e2;cases e2
     | str b=>rw[e4] at e2;cases e2
     | dict b=>rw[e4] at e2;cases e2
    obtain⟨a,ys,rfl,hs,hy⟩:=this
    exact⟨a,ys,rfl,hs,hr c Hb1 H1 env p.2 σ es.1 es.2 R1 e3 _ fun vs Hb2 H2 G2 R2 r2=>q (ys++vs) Hb2 H2 (G1.trans G2) R2 ((hy.same G2.b).append r2)⟩
def sz(n:Nat):Bool:=decide (n<16000000)
theorem V9{n:Nat}(h:sz n=true):n≤sizeLine:=by
 have:=of_decide_eq_true h
 rw[sizeLine_eq];omega
theorem Gw{n:Nat}(h:sz n=true):n<sizeLine:=by
 have:=of_decide_eq_true h
 rw[sizeLine_eq];omega
def zV(fa:LF):XF:=fun env g=>(fa env g).bind fun p=>if sz p.1.length then some (.tuple p.1,p.2) else none
def zY(fa:LF):XF:=fun env g=>(fa env g).bind fun p=>if sz p.1.length then some (.list p.1,p.2) else none
theorem aee{α β:Type}{o:Option α}{p:α→Bool}{k:α→β}{y:β}(h:(o.bind fun x=>if p x then some (k x) else none)=some y):∃x,o=some x∧p x=true∧k x=y:=by
 cases o with
 | none=>cases h
 | some x =>
  rw[Option.bind_some] at h
  split at h
  ·cases h;exact⟨x,rfl,by assumption,rfl⟩
  ·cases h
theorem yA{t:TA}{fl:LF}(h:RfA Γ t fl):RfE Γ (yP t) (zV fl):=fun c Hb H env g σ d g2 R e Q q=>by
 obtain⟨⟨ds,g1⟩,e1,e2,e3⟩:=aee e
 cases e3
 refine h c Hb H env g σ ds g1 R e1 _ fun vs Hb1 H1 G1 R1 r1=>⟨by rw[r1.length];exact V9 e2,fun p od hp hd=>?_⟩
 have w:Nw Hb1 H1 (upd Hb1 p (.frz od (.tup vs))) (upd H1 p (.frz od (.tup vs))):=Nw.new R1.ext hp
 exact q _ _ _ (G1.trans w.gr) (w.rel R1) (.tup upd_same hd (r1.same w.b))
def RfV(Vk:Hp→V→D→Prop)(Γ:List Fl)(te:TE)(f:XF):Prop:=∀(c:Ctx) (Hb H:Hp) (env:Env) (g:D) (σ:L2.St) (d g':D),Rel c Γ Hb H env g σ→f env g=some (d,g') →
 ∀Q:VK,(∀v Hb' H',Grow c Hb H Hb' H'→Rel c Γ Hb' H' env g' σ→Vk Hb' v d→Q v H')→te σ H Q
theorem yC{t:TA}{fl:LF}(h:RfA Γ t fl):RfN Γ (tLst t) (zY fl):=fun c Hb H env g σ d g2 R e Q q=>by
 obtain⟨⟨ds,g1⟩,e1,e2,e3⟩:=aee e
 cases e3
 refine h c Hb H env g σ ds g1 R e1 _ fun vs Hb1 H1 G1 R1 r1=>⟨by rw[r1.length];exact V9 e2,fun p hp=>?_⟩
 have w:Nw Hb1 H1 Hb1 (upd H1 p (.lst vs)):=Nw.newOwn R1.ext hp
 have h0:H p=none:=G1.d p hp
 exact q p vs ds _ _ (G1.trans w.gr) (w.rel R1) rfl upd_same (R1.ext.free hp) h0 (R1.dom p hp) r1
end
def RfO(r:R2)(h:D→D→Option D):Prop:=∀(c:Ctx) (Hb H:Hp) (x y:V) (dx dy d:D),Same Hb H→Rb c Hb H x dx→Rb c Hb H y dy→h dx dy=some d →
 ∀Q:VK,(∀v Hb' H',Nw Hb H Hb' H'→Rp Hb' v d→Q v H')→r x y H Q
def RfU(r:V→Hp→VK→Prop)(h:D→Option D):Prop:=∀(c:Ctx) (Hb H:Hp) (x:V) (dx d:D),Same Hb H→Rb c Hb H x dx→h dx=some d →
 ∀Q:VK,(∀v Hb' H',Nw Hb H Hb' H'→Rp Hb' v d→Q v H')→r x H Q
def RfC(r:List V→Hp→VK→Prop)(h:List D→Option D):Prop:=∀(c:Ctx) (Hb H:Hp) (xs:List V) (ds:List D) (d:D),Same Hb H→RbL c Hb H xs ds→h ds=some d →
 ∀Q:VK,(∀v Hb' H',Nw Hb H Hb' H'→Rp Hb' v d→Q v H')→r xs H Q
def agO(r:List V→Hp→VK→Prop)(h:List D→Option (List D)):Prop:=∀(c:Ctx) (Hb H:Hp) (xs:List V) (ds:List D) (es:List D),Same Hb H→RbL c Hb H xs ds→h ds=some es →
 ∀Q:VK,(∀p xs Hb' H',Nw Hb H Hb' H'→H p=none→H' p=some (.lst xs)→Hb' p=none→RpL Hb' xs es→Q (.ref p) H')→r xs H Q
def xOp(h:D→D→Option D)(fa fb:XF):XF:=fun env g=>(fa env g).bind fun p=>(fb env p.2).bind fun q=>(h p.1 q.1).bind fun d=>some (d,q.2)
def xUn(h:D→Option D)(fa:XF):XF:=fun env g=>(fa env g).bind fun p=>(h p.1).bind fun d=>some (d,p.2)
def xCB(h:List D→Option D)(fa:LF):XF:=fun env g=>(fa env g).bind fun p=>(h p.1).bind fun d=>some (d,p.2)
def jC(h:List D→Option (List D))(fa:LF):XF:=fun env g=>(fa env g).bind fun p=>(h p.1).bind fun d=>some (.list d,p.2)
theorem zo{α β:Type}{o:Option α}{k:α→Option β}{y:β}(h:o.bind k=some y):∃x,o=some x∧k x=some y:=by
 cases o with
 | none=>cases h
 | some x=>exact⟨x,rfl,h⟩
section
variable {Γ:List Fl} {ta tb te:TE} {f fa fb:XF}
theorem zF{r:R2}{h:D→D→Option D}(hr:RfO r h)(ha:RfB Γ ta fa)(hb:RfB Γ tb fb):RfE Γ (tOp r ta tb) (xOp h fa fb):=fun c Hb H env g σ d g' R e Q q=>by
 obtain⟨p,e1,e⟩:=zo e
 obtain⟨p2,e2,e⟩:=zo e
 obtain⟨d2,e3,e⟩:=zo e
 cases e
 exact ha c Hb H env g σ p.1 p.2 R e1 _ fun v Hb1 H1 G1 R1 r1=>hb c Hb1 H1 env p.2 σ p2.1 p2.2 R1 e2 _ fun u Hb2 H2 G2 R2 r2 =>
  hr c Hb2 H2 v u p.1 p2.1 d R2.ext (r1.grow G2) r2 e3 _ fun z Hb3 H3 w3 r3=>q z Hb3 H3 ((G1.trans G2).trans w3.gr) (w3.rel R2) r3
theorem agP{r:V→Hp→VK→Prop}{h:D→Option D}(hr:RfU r h)(ha:RfB Γ ta fa):RfE Γ (tUn r ta) (xUn h fa):=fun c Hb H env g σ d g' R e Q q=>by
 obtain⟨p,e1,e⟩:=zo e
 obtain⟨d2,e3,e⟩:=zo e
 cases e
 exact ha c Hb H env g σ p.1 p.2 R e1 _ fun v Hb1 H1 G1 R1 r1=>hr c Hb1 H1 v p.1 d R1.ext r1 e3 _ fun z Hb3 H3 w3 r3=>q z Hb3 H3 (G1.trans w3.gr) (w3.rel R1) r3
theorem vg{r:List V→Hp→VK→Prop}{h:List D→Option D}{t:TA}{fl:LF}(hr:RfC r h)(ha:aai Γ t fl):RfE Γ (tCB r t) (xCB h fl):=fun c Hb H env g σ d g' R e Q q=>by
 obtain⟨p,e1,e⟩:=zo e
 obtain⟨d2,e3,e⟩:=zo e
 cases e
 exact ha c Hb H env g σ p.1 p.2 R e1 _ fun v Hb1 H1 G1 R1 r1=>hr c Hb1 H1 v p.1 d R1.ext r1 e3 _ fun z Hb3 H3 w3 r3=>q z Hb3 H3 (G1.trans w3.gr) (w3.rel R1) r3
theorem WJ{r:List V→Hp→VK→Prop}{h:List D→Option (List D)}{t:TA}{fl:LF}(hr:agO r h)(ha:aai Γ t fl):RfN Γ (tCB r t) (jC h fl):=fun c Hb H env g σ d g' R e Q q=>by
 obtain⟨p,e1,e⟩:=zo e
 obtain⟨d2,e3,e⟩:=zo e
 cases e
 exact ha c Hb H env g σ p.1 p.2 R e1 _ fun v Hb1 H1 G1 R1 r1=>hr c Hb1 H1 v p.1 d2 R1.ext r1 e3 _ fun z xs Hb3 H3 w3 h2 r3 r4 r5=>by
   have h0:H z=none:=G1.d z h2
   exact q z xs d2 Hb3 H3 (G1.trans w3.gr) (w3.rel R1) rfl r3 r4 h0 (R1.dom z h2) r5
def Gy:D→Option Bool
 | .bool b=>some b
 | _=>none
def bT(f:XF):BF:=fun env g=>(f env g).bind fun p=>(Gy p.1).bind fun b=>some (b,p.2)
def vr(f h:BF):BF:=fun env g=>(f env g).bind fun p=>if p.1 then h env p.2 else some (false,p.2)
def bOr(f h:BF):BF:=fun env g=>(f env g).bind fun p=>if p.1 then some (true,p.2) else h env p.2
def v8(f:BF):BF:=fun env g=>(f env g).bind fun p=>some (!p.1,p.2)
def Qe(f h:XF):XF:=fun env g=>(f env g).bind fun p=>(Gy p.1).bind fun b=>if b then h env p.2 else some (.bool false,p.2)
def afN(f h:XF):XF:=fun env g=>(f env g).bind fun p=>(Gy p.1).bind fun b=>if b then some (.bool true,p.2) else h env p.2
def xIf(t:BF)(f h:XF):XF:=fun env g=>(t env g).bind fun p=>if p.1 then f env p.2 else h env p.2
theorem WK{d:D}{b:Bool}(h:Gy d=some b):d=.bool b:=by
 cases d <;> simp[Gy] at h
 rw[h]
variable {tt tu:TT} {ft fu:BF}
theorem zR(h:RfB Γ te f):RfT Γ (tTest te) (bT f):=fun c Hb H env g σ b g' R e Q q=>by
 obtain⟨p,e1,e⟩:=zo e
 obtain⟨b2,e2,e⟩:=zo e
 cases e
 have e3:=WK e2
 exact h c Hb H env g σ p.1 p.2 R e1 _ fun v Hb1 H1 G1 R1 r1=>by
  rw[e3] at r1
  exact⟨b,r1.bool,q Hb1 H1 G1 R1⟩
theorem t_B(h:RfB Γ te f):RfT Γ (tB te) (bT f):=zR h
theorem Wa(h1:RfT Γ tt ft)(h2:RfT Γ tu fu):RfT Γ (tAnd tt tu) (vr ft fu):=fun c Hb H env g σ b g' R e Q q=>by
 obtain⟨p,e1,e⟩:=zo e
 refine h1 c Hb H env g σ p.1 p.2 R e1 _ fun Hb1 H1 G1 R1=>?_
 cases e2:p.1 with
 | true =>
  rw[e2] at e
  rw[if_pos rfl] at e ⊢
  exact h2 c Hb1 H1 env p.2 σ b g' R1 e _ fun Hb2 H2 G2 R2=>q Hb2 H2 (G1.trans G2) R2
 | false =>
  rw[e2,if_neg (by simp)] at e
  rw[if_neg (by simp)]
  cases e
  exact q Hb1 H1 G1 R1
theorem Vh(h1:RfT Γ tt ft)(h2:RfT Γ tu fu):RfT Γ (tOr tt tu) (bOr ft fu):=fun c Hb H env g σ b g' R e Q q=>by
 obtain⟨p,e1,e⟩:=zo e
 refine h1 c Hb H env g σ p.1 p.2 R e1 _ fun Hb1 H1 G1 R1=>?_
 cases e2:p.1 with
 | false =>
  rw[e2,if_neg (by simp)] at e
  rw[if_neg (by simp)]
  exact h2 c Hb1 H1 env p.2 σ b g' R1 e _ fun Hb2 H2 G2 R2=>q Hb2 H2 (G1.trans G2) R2
 | true =>
  rw[e2] at e
  rw[if_pos rfl] at e ⊢
  cases e
  exact q Hb1 H1 G1 R1
theorem Qg(h1:RfT Γ tt ft):RfT Γ (tNot tt) (v8 ft):=fun c Hb H env g σ b g' R e Q q=>by
 obtain⟨p,e1,e⟩:=zo e
 cases e
 exact h1 c Hb H env g σ p.1 p.2 R e1 _ fun Hb1 H1 G1 R1=>q Hb1 H1 G1 R1
theorem aef(h1:RfB Γ ta fa)(h2:RfE Γ tb fb):RfE Γ (tAndV ta tb) (Qe fa fb):=fun c Hb H env g σ d g' R e Q q=>by
 obtain⟨p,e1,e⟩:=zo e
 obtain⟨b,e2,e⟩:=zo e
 have e3:=WK e2
 refine h1 c Hb H env g σ p.1 p.2 R e1 _ fun v Hb1 H1 G1 R1 r1=>?_
 rw[e3] at r1
 refine⟨b,r1.bool,?_⟩
 cases b with
 | true =>
  rw[if_pos rfl] at e ⊢
  exact h2 c Hb1 H1 env p.2 σ d g' R1 e _ fun v2 Hb2 H2 G2 R2 r2=>q v2 Hb2 H2 (G1.trans G2) R2 r2
 | false =>
  rw[if_neg (by simp)] at e ⊢
  cases e
  exact q _ Hb1 H1 G1 R1 (.bl false)
theorem ahF(h1:RfB Γ ta fa)(h2:RfE Γ tb fb):RfE Γ (tOrV ta tb) (afN fa fb):=fun c Hb H env g σ d g' R e Q q=>by
 obtain⟨p,e1,e⟩:=zo e
 obtain⟨b,e2,e⟩:=zo e
 have e3:=WK e2
 refine h1 c Hb H env g σ p.1 p.2 R e1 _ fun v Hb1 H1 G1 R1 r1=>?_
 rw[e3] at r1
 refine⟨b,r1.bool,?_⟩
 cases b with
 | false =>
  rw[if_neg (by simp)] at e ⊢
  exact h2 c Hb1 H1 env p.2 σ d g' R1 e _ fun v2 Hb2 H2 G2 R2 r2=>q v2 Hb2 H2 (G1.trans G2) R2 r2
 | true =>
  rw[if_pos rfl] at e ⊢
  cases e
  exact q _ Hb1 H1 G1 R1 (.bl true)
theorem abE(ht:RfT Γ tt ft)(h1:RfE Γ ta fa)(h2:RfE Γ tb fb):RfE Γ (tIf tt ta tb) (xIf ft fa fb):=fun c Hb H env g σ d g' R e Q q=>by
 obtain⟨p,e1,e⟩:=zo e
 refine ht c Hb H env g σ p.1 p.2 R e1 _ fun Hb1 H1 G1 R1=>?_
 cases e2:p.1 with
 | true =>
  rw[e2] at e
  rw[if_pos rfl] at e ⊢
  exact h1 c Hb1 H1 env p.2 σ d g' R1 e _ fun v2 Hb2 H2 G2 R2 r2=>q v2 Hb2 H2 (G1.trans G2) R2 r2
 | false =>
  rw[e2,if_neg (by simp)] at e
  rw[if_neg (by simp)]
  exact h2 c Hb1 H1 env p.2 σ d g' R1 e _ fun v2 Hb2 H2 G2 R2 r2=>q v2 Hb2 H2 (G1.trans G2) R2 r2
end
def spP(n:Nat)(F:List D→Option D):Sp:=fun vs H Q _=>∃Hb ds d,Same Hb H∧RpL Hb vs ds∧vs.length=n∧F ds=some d∧∀v Hb' H',Nw Hb H Hb' H'→Rp Hb' v d→Q v H'
def spB(n:Nat)(F:List D→D→Option (D×D)):Sp:=fun vs H Q _=>∃Hg Hb b o g rest ds d g',vs=.ref b::rest∧Same Hg Hb∧Same Hb H∧H b=some o∧Hb b=none∧V5 Hg o g∧RpL Hb rest ds∧rest.length+1=n ∧
 F ds g=some (d,g')∧∀v Hb' H' o',Same Hb Hb'→Same Hb' H'→(∀a o,H a=some o→a≠b→H' a=some o)→(∀a,Hb' a≠none→Hb a=none→H a=none)→H' b=some o'→Hb' b=none→V5 Hg o' g'→Rp Hb' v d→Q v H'
def zy(F:List D→Option D)(fa:LF):XF:=fun env g=>(fa env g).bind fun p=>(F p.1).bind fun d=>some (d,p.2)
def zw(F:List D→D→Option (D×D))(fa:LF):XF:=fun env g=>(fa env g).bind fun p=>F p.1 p.2
section
variable {Γ:List Fl} {t:TA} {fl:LF} {E:XK}
theorem zN{n:Nat}{F:List D→Option D}(hn:∀env g p,fl env g=some p→p.1.length=n)(ha:RfA Γ t fl):RfE Γ (tCall (spP n F) [] E t) (zy F fl):=fun c Hb H env g σ d g' R e Q q=>by
 obtain⟨p,e1,e⟩:=zo e
 obtain⟨d2,e3,e⟩:=zo e
 cases e
 refine ha c Hb H env g σ p.1 p.2 R e1 _ fun vs Hb1 H1 G1 R1 r1=>?_
 rw[List.append_nil]
 exact⟨Hb1,p.1,d,R1.ext,r1,by rw[r1.length];exact hn _ _ _ e1,e3,fun v Hb2 H2 w r=>q v Hb2 H2 (G1.trans w.gr) (w.rel R1) r⟩
theorem z7{n:Nat}{F:List D→D→Option (D×D)}(hn:∀env g p,fl env g=some p→p.1.length+1=n)(ha:RfA Γ t fl){k:Nat}(hio:Γ[k]? = some .bg) :
  RfE Γ (tCall (spB n F) [] E (tCons (tVar k) t)) (zw F fl):=fun c Hb H env g σ d g' R e Q q=>by
 obtain⟨p,e1,e⟩:=zo e
 obtain⟨b,hb,hbs⟩:=R.bgf k hio
 refine⟨.ref b,hbs,ha c Hb H env g σ p.1 p.2 R e1 _ fun vs Hb1 H1 G1 R1 r1=>?_⟩
 obtain⟨xs,bs,z1,z2,z3,z4⟩:=R1.bag b hb
 refine⟨c.Hg,Hb1,b,xs,p.2,vs,p.1,d,g',?_,R1.gb,R1.ext,z2,z3,z4,r1,by rw[r1.length];exact hn _ _ _ e1,e,fun v Hb2 H2 xs' w1 w2 w3 w4 w6 w7 w8 r=>?_⟩
 ·rw[List.append_nil]
 ·have hh:∀a o,H1 a=some o→c.io≠some a→H2 a=some o:=fun a o y i=>w3 a o y fun k=>i (by rw[k];exact hb)
  have hd:∀a,H2 a=none→H1 a=none:=fun a y=>by
   cases k:H1 a with
   | none=>rfl
   | some o =>
    by_cases kb:a=b
    ·subst kb;rw[w6] at y;cases y
    ·rw[w3 a o k kb] at y;cases y
  refine q v Hb2 H2 (G1.trans ⟨w1,hh,w4,hd⟩) (R1.grow w1 w2 hh w4 hd fun b2 hb2=>?_) r
  ·rw[hb] at hb2;cases hb2
   exact⟨xs',(),trivial,w6,w7,w8⟩
end
end
section
variable [TheW]
section
variable {c:Ctx} {Γ Γ':List Fl} {Hb H Hb' H':Hp} {env env':Env} {g g':D} {σ σ':L2.St}
theorem Rel.regrow(R:Rel c Γ Hb H env g σ)(G:Grow c Hb H Hb' H')(x:Same Hb' H')(bg:∀b,c.io=some b→∃(o:HO) (_:Unit),True∧H' b=some o∧Hb' b=none∧V5 c.Hg o g'):Rel c Γ Hb' H' env g' σ :=
 R.grow G.b x G.h G.n G.d bg
theorem Rel.setS(R:Rel c Γ Hb H env g σ){i:Nat}{v:V}{d:D}(r:Rp Hb v d)(hi:i<Γ.length)(h0:Γ[i]? ≠ some .bg):Rel c (Γ.set i .sh) Hb H (env.set i (some d)) g (σ.set i (some v)):=by
 have hs:i<σ.length:=by rw[←R.leng];exact hi
 have he:i<env.length:=by rw[R.lene];exact hs
 have back:∀j a,zK c (Γ.set i .sh) Hb H (env.set i (some d)) (σ.set i (some v)) j a→zK c Γ Hb H env σ j a:=fun j a h=>by
  by_cases q:i=j
  ·subst q
   obtain⟨_,fl,_,_,e2,_,e4⟩:=h
   rw[List.getElem?_set_self hi] at e2;cases e2
   exact e4.elim
  ·exact h.eqs (List.getElem?_set_ne q) (List.getElem?_set_ne q) (List.getElem?_set_ne q)
 refine { ext:=R.ext,ent:=R.ent,dom:=R.dom,b0:=R.b0,gro:=R.gro,bag:=R.bag,bgs:=R.bgs,slot:=fun j d' e=>?_,sep:=fun j k a jk o1 o2=>R.sep j k a jk (back j a o1) (back k a o2),lene:=by simp[R.lene],leng:=by simp[R.leng],bgf:=fun m e=>?_ }
 ·by_cases q:i=j
  ·subst q
   rw[List.getElem?_set_self he] at e;cases e
   exact⟨.sh,v,List.getElem?_set_self hi,List.getElem?_set_self hs,r⟩
  ·rw[List.getElem?_set_ne q] at e
   obtain⟨fl,u,z1,z2,z3⟩:=R.slot j d' e
   exact⟨fl,u,by rw[List.getElem?_set_ne q];exact z1,by rw[List.getElem?_set_ne q];exact z2,z3⟩
 ·by_cases q:i=m
  ·subst q;rw[List.getElem?_set_self hi] at e;cases e
  ·rw[List.getElem?_set_ne q] at e ⊢;exact R.bgf m e
theorem Rel.setOf(R:Rel c Γ Hb H env g σ){i:Nat}{fl:Fl}{v:V}{d:D}(s:jE c Hb H fl v d)(hfl:fl≠.bg)(hi:i<Γ.length)(h0:Γ[i]? ≠ some .bg)
  (off:∀j a,j≠i→Jw c Hb H fl v d a→¬zK c Γ Hb H env σ j a):Rel c (Γ.set i fl) Hb H (env.set i (some d)) g (σ.set i (some v)):=by
 have hs:i<σ.length:=by rw[←R.leng];exact hi
 have he:i<env.length:=by rw[R.lene];exact hs
 have self:∀a,zK c (Γ.set i fl) Hb H (env.set i (some d)) (σ.set i (some v)) i a→Jw c Hb H fl v d a:=fun a h=>by
  obtain⟨d',fl',v',e1,e2,e3,e4⟩:=h
  rw[List.getElem?_set_self he] at e1;cases e1
  rw[List.getElem?_set_self hi] at e2;cases e2
  rw[List.getElem?_set_self hs] at e3;cases e3
  exact e4
 have other:∀j a,j≠i→zK c (Γ.set i fl) Hb H (env.set i (some d)) (σ.set i (some v)) j a→zK c Γ Hb H env σ j a:=fun j a q h =>
  h.eqs (List.getElem?_set_ne (Ne.symm q)) (List.getElem?_set_ne (Ne.symm q)) (List.getElem?_set_ne (Ne.symm q))
 refine { ext:=R.ext,ent:=R.ent,dom:=R.dom,b0:=R.b0,gro:=R.gro,bag:=R.bag,bgs:=R.bgs,slot:=fun j d' e=>?_,sep:=fun j k a jk o1 o2=>?_,lene:=by simp[R.lene],leng:=by simp[R.leng],bgf:=fun m e=>?_ }
 ·by_cases q:i=j
  ·subst q
   rw[List.getElem?_set_self he] at e;cases e
   exact⟨fl,v,List.getElem?_set_self hi,List.getElem?_set_self hs,s⟩
  ·rw[List.getElem?_set_ne q] at e
   obtain⟨fl,u,z1,z2,z3⟩:=R.slot j d' e
   exact⟨fl,u,by rw[List.getElem?_set_ne q];exact z1,by rw[List.getElem?_set_ne q];exact z2,z3⟩
 ·by_cases qj:j=i
  ·subst qj
   exact off k a (Ne.symm jk) (self a o1) (other k a (Ne.symm jk) o2)
  ·by_cases qk:k=i
   ·subst qk
    exact off j a qj (self a o2) (other j a qj o1)
   ·exact R.sep j k a jk (other j a qj o1) (other k a qk o2)
 ·by_cases q:i=m
  ·subst q;rw[List.getElem?_set_self hi] at e
   exact absurd (Option.some.inj e) hfl
  ·rw[List.getElem?_set_ne q] at e ⊢;exact R.bgf m e
theorem Rel.setO(R:Rel c Γ Hb H env g σ){i:Nat}{p:Addr}{xs:List V}{ds:List D}(e1:H p=some (.lst xs))(e2:Hb p=none)(e3:c.Hc p=none)(r:RpL Hb xs ds)(hi:i<Γ.length)(h0:Γ[i]? ≠ some .bg)
  (off:∀j,j≠i→¬zK c Γ Hb H env σ j p):Rel c (Γ.set i .ow) Hb H (env.set i (some (.list ds))) g (σ.set i (some (.ref p))) :=
 R.setOf (fl:=.ow) ⟨p,xs,ds,rfl,rfl,e1,e2,e3,r⟩ (by simp) hi h0 fun j a q o=>by
  cases(show V.ref p=V.ref a from o)
  exact off j q
theorem Rel.less(R:Rel c Γ Hb H env g σ)(he:env'.length=env.length)(hΓ:Γ'.length=Γ.length)(h0:∀k:Nat, Γ'[k]? = some .bg→Γ[k]? = some .bg)(h:∀(i:Nat) d,env'[i]? = some (some d)→env[i]? = some (some d)∧(Γ'[i]? = Γ[i]? ∨ Γ'[i]? = some .dd)):Rel c Γ' Hb H env' g σ:=by
 have back:∀i a,zK c Γ' Hb H env' σ i a→zK c Γ Hb H env σ i a:=fun i a o=>by
  obtain⟨d,fl,v,e1,e2,e3,e4⟩:=o
  obtain⟨y1,y2⟩:=h i d e1
  rcases y2 with y2 | y2
  ·exact⟨d,fl,v,y1,y2▸e2,e3,e4⟩
  ·rw[e2] at y2;cases y2;exact e4.elim
 exact {
 ext:=R.ext
 ent:=R.ent
 dom:=R.dom
 b0:=R.b0
 gro:=R.gro
 bag:=R.bag
 bgs:=R.bgs
 slot:=fun i d e=>by
  obtain⟨e1,e2⟩:=h i d e
  obtain⟨fl,u,z1,z2,z3⟩:=R.slot i d e1
  rcases e2 with e2 | e2
  ·exact⟨fl,u,e2.trans z1,z2,z3⟩
  ·exact⟨.dd,u,e2,z2,trivial⟩
 sep:=fun i j a ij o1 o2=>R.sep i j a ij (back i a o1) (back j a o2)
 lene:=he.trans R.lene
 leng:=hΓ.trans R.leng
 bgf:=fun k e=>R.bgf k (h0 k e) }
end
def Qz(Γ:List Fl)(vs:List Nat):Bool:=vs.all fun i=>!decide (Γ[i]? = some .bg)
theorem jm{Γ:List Fl}{vs:List Nat}(h:Qz Γ vs=true){k:Nat}(e:Γ[k]? = some .bg):k∉vs:=fun m=>by
 simp only[Qz,List.all_eq_true,Bool.not_eq_true',decide_eq_false_iff_not] at h
 exact h k m e
def zJ(env:Env):List Nat→Env
 | []=>env
 | v::vs=>(zJ env vs).set v none
theorem W2(env:Env):∀vs,(zJ env vs).length=env.length
 | []=>rfl
 | v::vs=>by simp[zJ,W2 env vs]
theorem QA{env:Env}{i:Nat}{d:D}:∀ {vs:List Nat},(zJ env vs)[i]? = some (some d)→env[i]? = some (some d)∧i∉vs
 | [],h=>⟨h,by simp⟩
 | v::vs,h=>by
  unfold zJ at h
  by_cases q:v=i
  ·subst q
   rw[List.getElem?_set] at h
   split at h
   ·split at h <;> cases h
   ·rename_i z;exact absurd rfl z
  ·rw[List.getElem?_set_ne q] at h
   obtain⟨h1,h2⟩:=QA h
   exact⟨h1,by simp[h2];exact Ne.symm q⟩
def Qh(Γ Γ':List Fl)(wp:List Nat):Bool:=Γ'.length == Γ.length&&((List.range Γ.length).all fun i=>!decide (Γ'[i]? = some .bg)||decide (Γ[i]? = some .bg))&&(List.range Γ.length).all fun i=>decide (Γ'[i]? = Γ[i]?)||decide (i∈wp)||decide (Γ'[i]? = some .dd)
section
variable {c:Ctx} {Γ Γ':List Fl} {Hb H Hb' H':Hp} {env env':Env} {g g':D} {σ σ':L2.St}
theorem Rel.wiped(R:Rel c Γ Hb H env g σ){wp:List Nat}(h:Qh Γ Γ' wp=true):Rel c Γ' Hb H (zJ env wp) g σ:=by
 simp only[Qh,Bool.and_eq_true,beq_iff_eq,List.all_eq_true,Bool.or_eq_true,decide_eq_true_eq,Bool.not_eq_true',decide_eq_false_iff_not] at h
 obtain⟨⟨h1,h2'⟩,h3⟩:=h
 have h2:∀k:Nat, Γ'[k]? = some .bg→Γ[k]? = some .bg:=fun k e=>by
  have hk:k<Γ.length:=by rw[←h1];exact(List.getElem?_eq_some_iff.mp e).1
  exact(h2' k (List.mem_range.mpr hk)).resolve_left fun z=>z e
 refine R.less (W2 _ _) h1 h2 fun i d e=>?_
 obtain⟨e1,e2⟩:=QA e
 refine⟨e1,?_⟩
 obtain⟨fl,u,z1,_,_⟩:=R.slot i d e1
 have hi:i<Γ.length:=by
  have:=List.getElem?_eq_some_iff.mp z1
  obtain⟨w,_⟩:=this
  exact w
 rcases h3 i (List.mem_range.mpr hi) with(z | z) | z
 ·exact .inl z
 ·exact absurd z e2
 ·exact .inr z
theorem Rel.takeUp(R:Rel c Γ Hb H env g σ){i:Nat}{fl:Fl}{v:V}{d:D}(hi:Γ[i]? = some fl)(hfl:fl≠.bg)(hd:env[i]? = some (some d))(hv:σ[i]? = some (some v))(sb:Same Hb Hb')(sx:Same Hb' H)(nw:∀a,Hb' a≠none→Hb a=none→Jw c Hb H fl v d a)(r:Rp Hb' v d):Rel c (Γ.set i .sh) Hb' H env g σ:=by
 have hl:i<Γ.length:=(List.getElem?_eq_some_iff.mp hi).1
 have own:∀ {a},Jw c Hb H fl v d a→zK c Γ Hb H env σ i a:=fun {a} o=>⟨d,fl,v,hd,hi,hv,o⟩
 have hbg:∀k:Nat,(Γ.set i .sh)[k]? = some .bg→Γ[k]? = some .bg:=fun k e=>by
  by_cases q:i=k
  ·subst q
   rw[List.getElem?_set_self hl] at e;cases e
  ·rw[List.getElem?_set_ne q] at e;exact e
 have kp:∀j,i≠j→∀a,zK c Γ Hb H env σ j a→(∀o,H a=some o→H a=some o)∧Hb' a=none:=fun j ij a o=>by
  refine⟨fun _ e=>e,?_⟩
  cases q:Hb' a with
  | none=>rfl
  | some x=>exact(R.sep i j a ij (own (nw a (by rw[q];simp) (o.live R).2.1)) o).elim
 have back:∀j a,zK c (Γ.set i .sh) Hb' H env σ j a→i≠j∧zK c Γ Hb H env σ j a:=fun j a o=>by
  by_cases q:i=j
  ·subst q
   obtain⟨_,fl',_,_,e2,_,e4⟩:=o
   rw[List.getElem?_set_self hl] at e2;cases e2
   exact e4.elim
  ·exact⟨q,zK.back R sb (kp j q) (o.eqs (List.getElem?_set_ne q) rfl rfl)⟩
 refine { ext:=sx,ent:=R.ent,dom:=R.dom,b0:=R.b0.trans sb,gro:=fun a o k z=>?_,bag:=fun b hb=>?_,bgs:=R.bgs,slot:=fun j d' k=>?_,sep:=fun j k a jk o1 o2=>R.sep j k a jk (back j a o1).2 (back k a o2).2,lene:=R.lene,leng:=by simp[R.leng],bgf:=fun m k=>R.bgf m (hbg m k) }
 ·cases q:Hb a with
  | some u=>exact R.gro a u q z
  | none=>exact((own (nw a (by rw[k];simp) q)).live R).2.2
 ·obtain⟨ys,es,w1,w2,w3,w4⟩:=R.bag b hb
  refine⟨ys,es,w1,w2,?_,w4⟩
  cases q:Hb' b with
  | none=>rfl
  | some x=>exact absurd ((own (nw b (by rw[q];simp) w3)).live R).2.2 (R.bgs b hb)
 ·by_cases q:i=j
  ·subst q
   rw[hd] at k;cases k
   exact⟨.sh,v,List.getElem?_set_self hl,hv,r⟩
  ·obtain⟨fl',u,w1,w2,w3⟩:=R.slot j d' k
   exact⟨fl',u,by rw[List.getElem?_set_ne q];exact w1,w2,w3.keep sb fun a ha=>kp j q a ⟨d',fl',u,k,w1,w2,ha⟩⟩
theorem Rel.giveNone(R:Rel c Γ Hb H env g σ){i:Nat}{fl:Fl}(hi:Γ[i]? = some fl)(hfl:fl≠.bg)(hd:env[i]? = some none):Rel c (Γ.set i .sh) Hb H env g σ:=by
 have hl:i<Γ.length:=(List.getElem?_eq_some_iff.mp hi).1
 have hbg:∀k:Nat,(Γ.set i .sh)[k]? = some .bg→Γ[k]? = some .bg:=fun k e=>by
  by_cases q:i=k
  ·subst q
   rw[List.getElem?_set_self hl] at e;cases e
  ·rw[List.getElem?_set_ne q] at e;exact e
 refine R.less rfl (by simp) hbg fun j d z=>⟨z,.inl ?_⟩
 by_cases q:i=j
 ·subst q;rw[hd] at z;cases z
 ·rw[List.getElem?_set_ne q]
theorem Rel.give(R:Rel c Γ Hb H env g σ){i:Nat}(hi:Γ[i]? = some .ow):∃Hb',Same Hb Hb'∧Rel c (Γ.set i .sh) Hb' H env g σ:=by
 have hl:i<Γ.length:=(List.getElem?_eq_some_iff.mp hi).1
 cases e:env[i]? with
 | none =>
  have:i<env.length:=by rw[R.lene,←R.leng];exact hl
  rw[List.getElem?_eq_getElem this] at e;cases e
 | some o =>
  cases o with
  | none=>exact⟨Hb,Same.refl _,R.giveNone hi (by simp) e⟩
  | some d =>
   obtain⟨fl,v,z1,z2,z3⟩:=R.slot i d e
   rw[hi] at z1;cases z1
   obtain⟨p,xs,ds,rfl,rfl,y3,y4,y5,y6⟩:=z3
   have sm:Same Hb (upd Hb p (.lst xs)):=yE y4
   refine⟨upd Hb p (.lst xs),sm,R.takeUp hi (by simp) e z2 sm (fun a x k=>?_) (fun a k z=>?_) (.lst upd_same (y6.same sm))⟩
   ·by_cases q:a=p
    ·subst q;rw[upd_same] at k;cases k;exact y3
    ·rw[upd_ne q] at k;exact R.ext a x k
   ·by_cases q:a=p
    ·subst q;rfl
    ·rw[upd_ne q] at k;exact absurd z k
theorem Rel.change(R:Rel c Γ Hb H env g σ){i:Nat}{fl:Fl}{v:V}{d d2:D}(hi:Γ[i]? = some fl)(hd:env[i]? = some (some d))(hv:σ[i]? = some (some v))(hh:∀a,¬Jw c Hb H fl v d a→H' a=H a)(hn:∀a,H' a=none→H a=none)(s:jE c Hb H' fl v d2)(ho:∀a,Jw c Hb H' fl v d2 a→Jw c Hb H fl v d a):Rel c Γ Hb H' (env.set i (some d2)) g σ:=by
 have he:i<env.length:=by rw[R.lene,←R.leng];exact(List.getElem?_eq_some_iff.mp hi).1
 have own:∀ {a},Jw c Hb H fl v d a→zK c Γ Hb H env σ i a:=fun {a} o=>⟨d,fl,v,hd,hi,hv,o⟩
 have off:∀a,(Hb a≠none∨c.Hc a≠none)→H' a=H a:=fun a h=>hh a fun o=>by
  have l:=(own o).live R
  rcases h with h | h
  ·exact h l.2.1
  ·exact h l.2.2
 have kp:∀j,i≠j→∀a,zK c Γ Hb H env σ j a→(∀o,H a=some o→H' a=some o)∧Hb a=none:=fun j ij a o =>
  ⟨fun x e=>by rw[hh a fun w=>R.sep i j a ij (own w) o];exact e,(o.live R).2.1⟩
 have back:∀j a,zK c Γ Hb H' (env.set i (some d2)) σ j a→zK c Γ Hb H env σ j a:=fun j a o=>by
  by_cases q:i=j
  ·subst q
   obtain⟨d',fl',v',e1,e2,e3,e4⟩:=o
   rw[List.getElem?_set_self he] at e1;cases e1
   rw[hi] at e2;cases e2
   rw[hv] at e3;cases e3
   exact own (ho a e4)
  ·exact zK.back R (Same.refl _) (kp j q) (o.eqs rfl (List.getElem?_set_ne q) rfl)
 refine { ext:=fun a x k=>?_,ent:=fun a o k io=>?_,dom:=fun a k=>R.dom a (hn a k),b0:=R.b0,gro:=R.gro,bag:=fun b hbb=>?_,bgs:=R.bgs,slot:=fun j d' k=>?_,sep:=fun j k a jk o1 o2=>R.sep j k a jk (back j a o1) (back k a o2),lene:=by simp[R.lene],leng:=R.leng,bgf:=R.bgf }
 ·rw[off a (.inl (by rw[k];simp))];exact R.ext a x k
 ·rw[off a (.inr (by rw[k];simp))];exact R.ent a o k io
 ·obtain⟨ys,es,w1,w2,w3,w4⟩:=R.bag b hbb
  exact⟨ys,es,w1,by rw[off b (.inr (R.bgs b hbb))];exact w2,w3,w4⟩
 ·by_cases q:i=j
  ·subst q
   rw[List.getElem?_set_self he] at k;cases k
   exact⟨fl,v,hi,hv,s⟩
  ·rw[List.getElem?_set_ne q] at k
   obtain⟨fl',u,w1,w2,w3⟩:=R.slot j d' k
   exact⟨fl',u,w1,w2,w3.keep (Same.refl _) fun a ha=>kp j q a ⟨d',fl',u,k,w1,w2,ha⟩⟩
theorem Rel.poke(R:Rel c Γ Hb H env g σ){i:Nat}{p:Addr}{xs:List V}{ds:List D}(hi:Γ[i]? = some .ow)(e:∃d,env[i]? = some (some d))(s:σ[i]? = some (some (.ref p)))(hb:Hb p=none)(hc:c.Hc p=none)(hp:H p≠none)(r:RpL Hb xs ds):Rel c Γ Hb (upd H p (.lst xs)) (env.set i (some (.list ds))) g σ:=by
 obtain⟨d0,e⟩:=e
 refine R.change hi e s (fun a h=>upd_ne fun q=>h (show V.ref p=V.ref a by rw[q])) (fun a h=>?_) ⟨p,xs,ds,rfl,rfl,upd_same,hb,hc,r⟩ (fun a o=>o)
 by_cases q:a=p
 ·subst q;rw[upd_same] at h;cases h
 ·rw[upd_ne q] at h;exact h
end
inductive SR where
 | nx (e:Env) (g:D) | rt (d:D) (g:D) | bk (e:Env) (g:D) | ct (e:Env) (g:D)
abbrev SF:=Env→D→Option SR
def agQ(c:Ctx)(Hb H:Hp)(g:D):Prop:=∃ Γ env σ,Rel c Γ Hb H env g σ
def Wt(c:Ctx)(Γ' Γk:List Fl)(Hb:Hp)(Dn:Ends):SR→Prop
 | .nx e g=>∀Hb' H' σ',Same Hb Hb'→Rel c Γ' Hb' H' e g σ'→Dn.nx σ' H'
 | .rt d g=>∀v Hb' H',Same Hb Hb'→agQ c Hb' H' g→Rp Hb' v d→Dn.rt v H'
 | .bk e g=>∀Hb' H' σ',Same Hb Hb'→Rel c Γk Hb' H' e g σ'→Dn.bk σ' H'
 | .ct e g=>∀Hb' H' σ',Same Hb Hb'→Rel c Γk Hb' H' e g σ'→Dn.ct σ' H'
def RfS(Γ Γ' Γk:List Fl)(ts:TS)(f:SF):Prop:=∀(c:Ctx) (Hb H:Hp) (env:Env) (g:D) (σ:L2.St) (r:SR),Rel c Γ Hb H env g σ→f env g=some r→∀Dn:Ends,Wt c Γ' Γk Hb Dn r→ts Dn σ H
def zv:SF:=fun env g=>some (.nx env g)
def zg(f h:SF):SF:=fun env g=>match f env g with
 | some (.nx e g')=>h e g'
 | r=>r
def z9(i:Nat)(f:XF):SF:=fun env g=>(f env g).bind fun p=>some (.nx (env.set i (some p.1)) p.2)
def ya(f:XF):SF:=fun env g=>(f env g).bind fun p=>some (.rt p.1 p.2)
def sIf(t:BF)(f h:SF):SF:=fun env g=>(t env g).bind fun p=>if p.1 then f env p.2 else h env p.2
def ahG:SF:=fun env g=>some (.bk env g)
theorem Wt.same{c:Ctx}{Γ' Γk:List Fl}{Hb Hb1:Hp}{Dn:Ends}{r:SR}(h:Wt c Γ' Γk Hb Dn r)(s:Same Hb Hb1):Wt c Γ' Γk Hb1 Dn r:=by
 cases r with
 | nx e g=>exact fun Hb' H' σ' z=>h Hb' H' σ' (s.trans z)
 | rt d g=>exact fun v Hb' H' z=>h v Hb' H' (s.trans z)
 | bk e g=>exact fun Hb' H' σ' z=>h Hb' H' σ' (s.trans z)
 | ct e g=>exact fun Hb' H' σ' z=>h Hb' H' σ' (s.trans z)
section
variable {Γ Γ1 Γ' Γk:List Fl} {ts tu:TS} {f h:SF} {te:TE} {fe:XF} {tt:TT} {ft:BF}
theorem zD:RfS Γ Γ Γk tNext zv:=fun c Hb H env g σ r R e Dn w=>by
 cases e
 exact w Hb H σ (Same.refl _) R
theorem zt(h1:RfS Γ Γ1 Γk ts f)(h2:RfS Γ1 Γ' Γk tu h):RfS Γ Γ' Γk (tSeq ts tu) (zg f h):=fun c Hb H env g σ r R e Dn w=>by
 cases e1:f env g with
 | none=>simp[zg,e1] at e
 | some r1 =>
  refine h1 c Hb H env g σ r1 R e1 _ ?_
  cases r1 with
  | nx e2 g2 =>
   simp only[zg,e1] at e
   exact fun Hb' H' σ' s R'=>h2 c Hb' H' e2 g2 σ' r R' e Dn (w.same s)
  | rt d g2=>simp only[zg,e1] at e;cases e;exact w
  | bk e2 g2=>simp only[zg,e1] at e;cases e;exact w
  | ct e2 g2=>simp only[zg,e1] at e;cases e;exact w
theorem vW{i:Nat}(he:RfE Γ te fe)(hi:i<Γ.length)(h0:Γ[i]? ≠ some .bg):RfS Γ (Γ.set i .sh) Γk (tAsg te (gName i)) (z9 i fe):=fun c Hb H env g σ r R e Dn w=>by
 obtain⟨p,e1,e⟩:=zo e
 cases e
 exact he c Hb H env g σ p.1 p.2 R e1 _ fun v Hb1 H1 G1 R1 r1=>w Hb1 H1 _ G1.b (R1.setS r1 hi h0)
theorem wm{i:Nat}(he:RfN Γ te fe)(hi:i<Γ.length)(h0:Γ[i]? ≠ some .bg):RfS Γ (Γ.set i .ow) Γk (tAsg te (gName i)) (z9 i fe):=fun c Hb H env g σ r R e Dn w=>by
 obtain⟨p,e1,e⟩:=zo e
 cases e
 refine he c Hb H env g σ p.1 p.2 R e1 _ fun a xs ds Hb1 H1 G1 R1 y1 y2 y3 y4 y5 y6=>?_
 rw[y1] at w
 exact w Hb1 H1 _ G1.b (R1.setO y2 y3 y5 y6 hi h0 fun j _ o=>RfN.old R G1 o y4)
theorem yn(he:RfE Γ te fe):RfS Γ Γ' Γk (tRet te) (ya fe):=fun c Hb H env g σ r R e Dn w=>by
 obtain⟨p,e1,e⟩:=zo e
 cases e
 exact he c Hb H env g σ p.1 p.2 R e1 _ fun v Hb1 H1 G1 R1 r1=>w v Hb1 H1 G1.b ⟨_,_,_,R1⟩ r1
theorem JP(ht:RfT Γ tt ft)(h1:RfS Γ Γ' Γk ts f)(h2:RfS Γ Γ' Γk tu h):RfS Γ Γ' Γk (tIfS tt ts tu) (sIf ft f h):=fun c Hb H env g σ r R e Dn w=>by
 obtain⟨p,e1,e⟩:=zo e
 refine ht c Hb H env g σ p.1 p.2 R e1 _ fun Hb1 H1 G1 R1=>?_
 cases e2:p.1 with
 | true =>
  rw[e2,if_pos rfl] at e
  rw[if_pos rfl]
  exact h1 c Hb1 H1 env p.2 σ r R1 e Dn (w.same G1.b)
 | false =>
  rw[e2,if_neg (by simp)] at e
  rw[if_neg (by simp)]
  exact h2 c Hb1 H1 env p.2 σ r R1 e Dn (w.same G1.b)
theorem Jy(i:Nat)(hi:Γ[i]? = some .ow)(h1:RfS (Γ.set i .sh) Γ' Γk ts f):RfS Γ Γ' Γk ts f:=fun c Hb H env g σ r R e Dn w=>by
 obtain⟨Hb1,s,R1⟩:=R.give hi
 exact h1 c Hb1 H env g σ r R1 e Dn (w.same s)
def aaj(wp:List Nat)(f:SF):SF:=fun env g=>f (zJ env wp) g
theorem agR(wp:List Nat)(ok:Qh Γ Γ1 wp=true)(h1:RfS Γ1 Γ' Γk ts f):RfS Γ Γ' Γk ts (aaj wp f):=fun c Hb H env g σ r R e Dn w =>
 h1 c Hb H _ g σ r (R.wiped ok) e Dn w
def Ji:D→Option (List D)
 | .list ds=>some ds
 | _=>none
theorem ZK{d:D}{ds:List D}(h:Ji d=some ds):d=.list ds:=by
 cases d <;> simp[Ji] at h
 rw[h]
def yI(i:Nat)(f:XF):SF:=fun env g=>(xV i env g).bind fun _=>(f env g).bind fun p=>(env[i]?.join.bind Ji).bind fun ds=>if sz ds.length then some (.nx (env.set i (some (.list (ds++[p.1])))) p.2) else none
theorem jd{c:Ctx}{Hb H:Hp}{env:Env}{g:D}{σ:L2.St}{i:Nat}{ds:List D}(R:Rel c Γ Hb H env g σ)(hi:Γ[i]? = some .ow)(e:env[i]?.join.bind Ji=some ds) :
  env[i]? = some (some (.list ds))∧∃p xs, σ[i]? = some (some (.ref p))∧H p=some (.lst xs)∧Hb p=none∧c.Hc p=none∧RpL Hb xs ds:=by
 cases e1:env[i]? with
 | none=>rw[e1] at e;cases e
 | some o =>
  cases o with
  | none=>rw[e1] at e;cases e
  | some d =>
   rw[e1] at e
   have e2:=ZK (show Ji d=some ds from e)
   subst e2
   obtain⟨fl,v,z1,z2,z3⟩:=R.slot i _ e1
   rw[hi] at z1;cases z1
   obtain⟨p,xs,es,rfl,y2,y3,y4,y5,y6⟩:=z3
   cases y2
   exact⟨rfl,p,xs,z2,y3,y4,y5,y6⟩
theorem Jz{K:PySem.W.Frag}{i:Nat}(hi:Γ[i]? = some .ow)(he:RfE Γ te fe):RfS Γ Γ Γk (tDrop (tBM K "list" rAppend (tVar i) (tCons te tNil))) (yI i fe):=fun c Hb H env g σ r R e Dn w=>by
 obtain⟨_,_,e⟩:=zo e
 obtain⟨p,e1,e⟩:=zo e
 obtain⟨ds,e2,e⟩:=zo e
 split at e
 ·rename_i hz
  cases e
  obtain⟨y0,a,xs,y1,y2,y3,y4,y5⟩:=jd R hi e2
  refine⟨.ref a,y1,.inl ⟨rfl,xs,SqL.of y2⟩,he c Hb H env g σ p.1 p.2 R e1 _ fun v Hb1 H1 G1 R1 r1=>?_⟩
  obtain⟨_,b,ys,z1,z2,z3,z4,z5⟩:=jd R1 hi e2
  rw[y1] at z1;cases z1
  refine⟨a,ys,v,rfl,rfl,z2,by rw[z5.length];exact Gw hz,?_⟩
  exact w Hb1 _ σ G1.b (R1.poke hi ⟨_,y0⟩ y1 z3 z4 (by rw[z2];simp) (z5.append (.one r1)))
 ·cases e
end
end
section
variable [TheW]
def Zi(K:PySem.W.Frag)(te:TE):TI:=fun σ H R=>te σ H fun x H1=>∃a,x=.ref a∧(((∃xs,SqL K H1 a xs)∧R (Itl K a) H1)∨((∃xs,SqT K H1 a xs)∧R (Itt K a) H1))
theorem zS{X:Cx}{tg l:Expr}{te:TE}(hl:PE X l te):PI X tg l (Zi X.K te):=by
 refine⟨fun pins s σ H R I h=>thn (hl.run pins s σ H _ I h) fun v s1 ⟨x,H1,I1,r1,a,e,q1⟩=>?_⟩
 subst e
 cases r1
 have fresh:∀b∈[s1.heap.objs.size],FpOk X pins H1 b:=fun b hb=>by
  rw[List.mem_singleton] at hb
  subst hb
  exact I1.fpOk (Nat.le_refl _) (I1.hok.fresh (Nat.le_refl _))
 rcases q1 with⟨⟨xs,hq⟩,q⟩ | ⟨⟨xs,hq⟩,q⟩
 ·obtain⟨its,rv,p,_⟩:=I1.list hq
  exact wpAny_pyIter_list p.isList ⟨s1.heap.objs.size,[s1.heap.objs.size],_,_,H1,rfl,I1.kept (t':=s1.toks) fun b o e=>Heap.get?_push_of_some _ e,turn_list a _,⟨_,Heap.get?_push_size _ rfl,rfl,rfl⟩,fresh,q⟩
 ·obtain⟨its,rv,p,_⟩:=I1.tuple hq
  exact wpAny_pyIter_tuple (show s1.heap.IsTuple a its.toArray from p) ⟨s1.heap.objs.size,[s1.heap.objs.size],_,_,H1,rfl,I1.kept (t':=s1.toks) fun b o e=>Heap.get?_push_of_some _ e,turn_tuple a _,⟨_,Heap.get?_push_size _ rfl,rfl,rfl⟩,fresh,q⟩
structure ItOk(W:Hp→V→D→Prop)(Hb:Hp)(J:It)(ds:List D):Prop where
 go:∀i H,Same Hb H→i<ds.length→J.go i H
 yld:∀i H Hb2 x H' d,Same Hb Hb2→Same Hb2 H→J.yld i H x H'→ds[i]? = some d→∃Hb',Nw Hb2 H Hb' H'∧W Hb' x d
 stop:∀i H,Same Hb H→ds.length≤i→J.stop i H
theorem ItOk.same{W:Hp→V→D→Prop}{Hb Hb':Hp}{J:It}{ds:List D}(h:ItOk W Hb J ds)(s:Same Hb Hb'):ItOk W Hb' J ds :=
 ⟨fun i H e=>h.go i H (s.trans e),fun i H Hb2 x H' d e1 e2=>h.yld i H Hb2 x H' d (s.trans e1) e2,fun i H e=>h.stop i H (s.trans e)⟩
abbrev IF:=Env→D→Option (List D×D)
def RfI(W:Hp→V→D→Prop)(Γ:List Fl)(wi:TI)(f:IF):Prop:=∀(c:Ctx) (Hb H:Hp) (env:Env) (g:D) (σ:L2.St) (ds:List D) (g':D),Rel c Γ Hb H env g σ→f env g=some (ds,g') →
 ∀R:It→Hp→Prop,(∀J Hb' H',Grow c Hb H Hb' H'→Rel c Γ Hb' H' env g' σ→ItOk W Hb' J ds→R J H')→wi σ H R
theorem Gz{K:PySem.W.Frag}{Hb:Hp}{a:Addr}{xs:List V}{ds:List D}(h:Hb a=some (.lst xs))(r:RpL Hb xs ds):ItOk Rp Hb (Itl K a) ds where
 go:=fun i H e hi=>by
  have:i<xs.length:=by rw[r.length];exact hi
  exact⟨xs,xs[i],SqL.of (e _ _ h),List.getElem?_eq_getElem this⟩
 yld:=fun i H Hb2 x H' d e1 e2 y hd=>by
  obtain⟨rfl,y⟩:=y
  obtain⟨v,hv,rv⟩:=r.get i hd
  have:=y xs (SqL.of (e2 _ _ (e1 _ _ h)))
  rw[hv] at this;cases this
  exact⟨Hb2,Nw.refl e2,rv.same e1⟩
 stop:=fun i H e hi=>⟨xs,SqL.of (e _ _ h),by rw[r.length];exact hi⟩
theorem aak{K:PySem.W.Frag}{Hb:Hp}{a:Addr}{xs:List V}{ds:List D}(h:W0 Hb a xs)(r:RpL Hb xs ds):ItOk Rp Hb (Itt K a) ds where
 go:=fun i H e hi=>by
  have:i<xs.length:=by rw[r.length];exact hi
  exact⟨xs,xs[i],h.sq e,List.getElem?_eq_getElem this⟩
 yld:=fun i H Hb2 x H' d e1 e2 y hd=>by
  obtain⟨rfl,y⟩:=y
  obtain⟨v,hv,rv⟩:=r.get i hd
  have:=y xs (h.sq (e1.trans e2))
  rw[hv] at this;cases this
  exact⟨Hb2,Nw.refl e2,rv.same e1⟩
 stop:=fun i H e hi=>⟨xs,h.sq e,by rw[r.length];exact hi⟩
def zG(f:XF):IF:=fun env g=>(f env g).bind fun p=>(y9 p.1).bind fun ds=>some (ds,p.2)
section
variable {Γ:List Fl} {te:TE} {f:XF} {K:PySem.W.Frag}
theorem yi(h:RfE Γ te f):RfI Rp Γ (Zi K te) (zG f):=fun c Hb H env g σ ds g' R e Q q=>by
 obtain⟨p,e1,e⟩:=zo e
 obtain⟨es,e2,e⟩:=zo e
 cases e
 refine h c Hb H env g σ p.1 p.2 R e1 _ fun v Hb1 H1 G1 R1 r1=>?_
 cases e4:p.1 with
 | list xs =>
  rw[e4] at r1 e2;cases e2
  cases r1 with
  | lst a b=>exact⟨_,rfl,.inl ⟨⟨_,SqL.of (R1.ext _ _ a)⟩,q _ Hb1 H1 G1 R1 (Gz a b)⟩⟩
 | tuple xs =>
  rw[e4] at r1 e2;cases e2
  cases r1 with
  | tup a hd b =>
   have tp:W0 Hb1 _ _:=⟨_,a,hd⟩
   exact⟨_,rfl,.inr ⟨⟨_,tp.sq R1.ext⟩,q _ Hb1 H1 G1 R1 (aak tp b)⟩⟩
 | none=>rw[e4] at e2;cases e2
 | bool b=>rw[e4] at e2;cases e2
 | int b=>rw[e4] at e2;cases e2
 | str b=>rw[e4] at e2;cases e2
 | dict b=>rw[e4] at e2;cases e2
def J4(lo:Int)(n:Nat):List D:=(List.range n).map fun k=>.int (lo+(k:Nat))
theorem ZL{Hb:Hp}{lo:Int}{n:Nat}:ItOk Rp Hb (Itr lo n) (J4 lo n) where
 go:=fun i H e hi=>show i<n by simpa[J4] using hi
 yld:=fun i H Hb2 x H' d e1 e2 y hd=>by
  obtain⟨rfl,rfl⟩:=y
  unfold J4 at hd
  rw[List.getElem?_map] at hd
  cases e:(List.range n)[i]? with
  | none=>rw[e] at hd;cases hd
  | some k =>
   rw[e] at hd
   cases hd
   have:k=i:=by
    rw[List.getElem?_range] at e
    ·cases e;rfl
    ·obtain⟨w,_⟩:=List.getElem?_eq_some_iff.mp e
     simpa using w
   subst this
   exact⟨Hb2,Nw.refl e2,.int _⟩
 stop:=fun i H e hi=>show n≤i by simpa[J4] using hi
def Zv(i:Int):Bool:=decide (-(2^62)≤i∧i<2^62)
def jT(fa:LF):IF:=fun env g=>(fa env g).bind fun p=>match p.1 with
 | [.int n]=>if Zv n then some (J4 0 n.toNat,p.2) else none
 | _=>none
theorem Yj{ta:TA}{fa:LF}(h:aai Γ ta fa):RfI Rp Γ (iRng1 ta) (jT fa):=fun c Hb H env g σ ds g' R e Q q=>by
 obtain⟨p,e1,e⟩:=zo e
 split at e
 ·rename_i n hp
  split at e
  ·rename_i hn
   cases e
   refine h c Hb H env g σ p.1 p.2 R e1 _ fun vs Hb1 H1 G1 R1 r1=>?_
   rw[hp] at r1
   cases r1 with
   | cons r rr =>
    cases rr
    have hn:=of_decide_eq_true hn
    exact⟨n,by rw[r.int],hn.1,hn.2,q _ Hb1 H1 G1 R1 ZL⟩
  ·cases e
 ·cases e
end
abbrev GF:=D→Env→Option Env
def RfG(W:Hp→V→D→Prop)(Γ Γ':List Fl)(is:List Nat)(g:TG)(h:GF):Prop:=∀(c:Ctx) (Hb H:Hp) (env:Env) (bag:D) (σ:L2.St) (x:V) (d:D) (env':Env),Rel c Γ Hb H env bag σ→W Hb x d→h d env=some env' →
 ∀Q:L2.St→Hp→Prop,(∀ σ',Rel c Γ' Hb H env' bag σ'→σ'.length=σ.length→(∀j,j∉is→σ'[j]? = σ[j]?)→Q σ' H)→g x σ H Q
abbrev GFs:=List D→Env→Option Env
def aeg(Γ Γ':List Fl)(is:List Nat)(g:TGs)(h:GFs):Prop:=∀(c:Ctx) (Hb H:Hp) (env:Env) (bag:D) (σ:L2.St) (xs:List V) (ds:List D) (env':Env),Rel c Γ Hb H env bag σ→RpL Hb xs ds→h ds env=some env' →
 ∀Q:L2.St→Hp→Prop,(∀ σ',Rel c Γ' Hb H env' bag σ'→σ'.length=σ.length→(∀j,j∉is→σ'[j]? = σ[j]?)→Q σ' H)→g xs σ H Q
def zh(i:Nat):GF:=fun d env=>some (env.set i (some d))
def j9:GFs:=fun ds env=>match ds with
 | []=>some env
 | _=>none
def yf(h:GF)(hr:GFs):GFs:=fun ds env=>match ds with
 | d::r=>(h d env).bind fun e=>hr r e
 | []=>none
def jS(n:Nat)(h:GFs):GF:=fun d env=>match d with
 | .tuple ds=>if ds.length == n then h ds env else none
 | _=>none
section
variable {Γ Γ1 Γ':List Fl}
theorem zE{i:Nat}(hi:i<Γ.length)(h0:Γ[i]? ≠ some .bg):RfG Rp Γ (Γ.set i .sh) [i] (gName i) (zh i):=fun c Hb H env bag σ x d env' R r e Q q=>by
 cases e
 exact q _ (R.setS r hi h0) (by simp) fun j hj=>List.getElem?_set_ne (by simpa using Ne.symm (show ¬j=i by simpa using hj))
theorem YE:aeg Γ Γ [] gNil j9:=fun c Hb H env bag σ xs ds env' R r e Q q=>by
 cases r with
 | nil=>cases e;exact⟨rfl,q _ R rfl fun _ _=>rfl⟩
 | cons _ _=>cases e
theorem vQ{is js:List Nat}{g:TG}{gs:TGs}{h:GF}{hs:GFs}(h1:RfG Rp Γ Γ1 is g h)(h2:aeg Γ1 Γ' js gs hs):aeg Γ Γ' (is++js) (gCons g gs) (yf h hs):=fun c Hb H env bag σ xs ds env' R r e Q q=>by
 cases r with
 | nil=>cases e
 | cons r1 rr =>
  obtain⟨e2,y1,y2⟩:=zo e
  refine⟨_,_,rfl,h1 c Hb H env bag σ _ _ e2 R r1 y1 _ fun σ1 R1 l1 k1=>h2 c Hb H e2 bag σ1 _ _ env' R1 rr y2 _ fun σ2 R2 l2 k2=>q σ2 R2 (l2.trans l1) fun j hj=>?_⟩
  rw[List.mem_append,not_or] at hj
  exact(k2 j hj.2).trans (k1 j hj.1)
theorem aeh{K:PySem.W.Frag}{n:Nat}{is:List Nat}{gs:TGs}{hs:GFs}(h:aeg Γ Γ' is gs hs):RfG RpW Γ Γ' is (gTup K n gs) (jS n hs):=fun c Hb H env bag σ x d env' R r e Q q=>by
 unfold jS at e
 split at e
 ·rename_i ds
  split at e
  ·rename_i hl
   have:∃a xs,x=.ref a∧SqT K H a xs∧RpL Hb xs ds:=by
    rcases r with r | ⟨a,xs,ds2,e1,e2,e3,e4⟩
    ·cases r with
     | tup a hd b =>
      have tp:W0 Hb _ _:=⟨_,a,hd⟩
      exact⟨_,_,rfl,tp.sq R.ext,b⟩
    ·cases e2
     exact⟨a,xs,e1,SqT.of (R.ext _ _ e3),e4⟩
   obtain⟨a,xs,rfl,h1,h2⟩:=this
   exact⟨_,_,rfl,h1,by rw[h2.length];exact beq_iff_eq.mp hl,h c Hb H env bag σ _ _ env' R h2 e Q q⟩
  ·cases e
 ·cases e
theorem ZM{K:PySem.W.Frag}{n:Nat}{is:List Nat}{gs:TGs}{hs:GFs}(h:aeg Γ Γ' is gs hs):RfG Rp Γ Γ' is (gTup K n gs) (jS n hs):=fun c Hb H env bag σ x d env' R r e Q q =>
 aeh h c Hb H env bag σ x d env' R (.inl r) e Q q
end
def wu(h:GF)(wp:List Nat)(body:SF):List D→Env→D→Option SR
 | [],env,g=>some (.nx env g)
 | d::ds,env,g=>(h d env).bind fun env1=>(body env1 g).bind fun r=>match r with
  | .nx e g'=>wu h wp body ds (zJ e wp) g'
  | .ct e g'=>wu h wp body ds (zJ e wp) g'
  | .bk e g'=>some (.nx (zJ e wp) g')
  | .rt d g'=>some (.rt d g')
def vd(fi:IF)(h:GF)(wp:List Nat)(body:SF):SF:=fun env g=>(fi env g).bind fun p=>wu h wp body p.1 (zJ env wp) p.2
section
variable {Γ Γ1 Γb Γk Γk':List Fl} {wi:TI} {g:TG} {tb:TS} {fi:IF} {h:GF} {body:SF} {is:List Nat}
theorem je{W:Hp→V→D→Prop}(wp:List Nat)(hi:RfI W Γ wi fi)(hg:RfG W Γ Γ1 is g h)(hb:RfS Γ1 Γb Γk' tb body)(k0:Qh Γ Γ wp=true)(k1:Qh Γb Γ wp=true)(k2:Qh Γk' Γ wp=true):RfS Γ Γ Γk (tFor wi g tb) (vd fi h wp body):=fun c Hb H env bag σ r R e Dn w=>by
 obtain⟨p,e1,e⟩:=zo e
 refine hi c Hb H env bag σ p.1 p.2 R e1 _ fun J Hb1 H1 G1 R1 it=>?_
 refine⟨fun i m σ' H'=>m=p.1.length - i∧i≤p.1.length∧∃Hb' env' g',Same Hb1 Hb'∧Rel c Γ Hb' H' env' g' σ'∧wu h wp body (p.1.drop i) env' g'=some r,⟨p.1.length,rfl,Nat.zero_le _,Hb1,_,_,Same.refl _,R1.wiped k0,by simpa using e⟩,?_⟩
 rintro i m σ' H' ⟨rfl,hil,Hb',env',g',sm,R',ef⟩
 by_cases hlt:i<p.1.length
 ·refine .inr ⟨it.go i H' (sm.trans R'.ext) hlt,?_⟩
  rw[List.drop_eq_getElem_cons hlt] at ef
  obtain⟨env1,y1,ef⟩:=zo ef
  obtain⟨r1,y2,ef⟩:=zo ef
  refine⟨fun σ2 H2=>∃Hb2 e2 g2,Same Hb1 Hb2∧Rel c Γ Hb2 H2 e2 g2 σ2∧wu h wp body (p.1.drop (i+1)) e2 g2=some r,fun σ2 H2 ⟨Hb2,e2,g2,q1,q2,q3⟩=>⟨p.1.length - (i+1),by omega,rfl,by omega,Hb2,e2,g2,q1,q2,q3⟩,fun x H2 hy=>?_⟩
  obtain⟨Hb2,nw,rx⟩:=it.yld i H' Hb' x H2 _ sm R'.ext hy (List.getElem?_eq_getElem hlt)
  refine hg c Hb2 H2 env' g' σ' x _ env1 (nw.rel R') rx y1 _ fun σ3 R3 _ _=>?_
  refine hb c Hb2 H2 env1 g' σ3 r1 R3 y2 _ ?_
  have s12:Same Hb1 Hb2:=sm.trans nw.b
  cases r1 with
  | nx e2 g2=>exact fun Hb3 H3 σ4 s R4=>⟨Hb3,_,g2,s12.trans s,R4.wiped k1,ef⟩
  | ct e2 g2=>exact fun Hb3 H3 σ4 s R4=>⟨Hb3,_,g2,s12.trans s,R4.wiped k2,ef⟩
  | bk e2 g2 =>
   cases ef
   exact fun Hb3 H3 σ4 s R4=>w Hb3 H3 σ4 (G1.b.trans (s12.trans s)) (R4.wiped k2)
  | rt d g2 =>
   cases ef
   exact fun v Hb3 H3 s R4 rv=>w v Hb3 H3 (G1.b.trans (s12.trans s)) R4 rv
 ·have:i=p.1.length:=by omega
  subst this
  refine .inl ⟨it.stop _ H' (sm.trans R'.ext) (Nat.le_refl _),?_⟩
  rw[List.drop_length] at ef
  cases ef
  exact w Hb' H' σ' (G1.b.trans sm) R'
def jq(t:BF)(wp:List Nat)(body:SF):Nat→Env→D→Option SR
 | 0,_,_=>none
 | n+1,env,g=>(t env g).bind fun p=>if p.1 then(body env p.2).bind fun r=>(match r with
  | .nx e g'=>jq t wp body n (zJ e wp) g'
  | .ct e g'=>jq t wp body n (zJ e wp) g'
  | .bk e g'=>some (.nx (zJ e wp) g')
  | .rt d g'=>some (.rt d g')) else some (.nx env p.2)
def abF(n:Nat)(t:BF)(wp:List Nat)(body:SF):SF:=fun env g=>jq t wp body n (zJ env wp) g
theorem acy{tt:TT}{ft:BF}(n:Nat)(wp:List Nat)(ht:RfT Γ tt ft)(hb:RfS Γ Γb Γk' tb body)(k0:Qh Γ Γ wp=true)(k1:Qh Γb Γ wp=true)(k2:Qh Γk' Γ wp=true):RfS Γ Γ Γk (tWhile tt tb) (abF n ft wp body):=fun c Hb H env bag σ r R e Dn w=>by
 refine⟨fun m σ' H'=>∃Hb' env' g',Same Hb Hb'∧Rel c Γ Hb' H' env' g' σ'∧jq ft wp body m env' g'=some r,⟨n,Hb,_,_,Same.refl _,R.wiped k0,e⟩,?_⟩
 rintro m σ' H' ⟨Hb',env',g',sm,R',ef⟩
 cases m with
 | zero=>cases ef
 | succ m =>
  obtain⟨q,y1,ef⟩:=zo ef
  refine ht c Hb' H' env' g' σ' q.1 q.2 R' y1 _ fun Hb1 H1 G1 R1=>?_
  cases e2:q.1 with
  | false =>
   rw[e2,if_neg (by simp)] at ef
   rw[if_neg (by simp)]
   cases ef
   exact w Hb1 H1 σ' (sm.trans G1.b) R1
  | true =>
   rw[e2,if_pos rfl] at ef
   rw[if_pos rfl]
   obtain⟨r1,y2,ef⟩:=zo ef
   refine⟨fun σ2 H2=>∃Hb2 e2 g2,Same Hb Hb2∧Rel c Γ Hb2 H2 e2 g2 σ2∧jq ft wp body m e2 g2=some r,fun σ2 H2 h2=>⟨m,Nat.lt_succ_self _,h2⟩,?_⟩
   refine hb c Hb1 H1 env' q.2 σ' r1 R1 y2 _ ?_
   have s1:Same Hb Hb1:=sm.trans G1.b
   cases r1 with
   | nx e3 g3=>exact fun Hb3 H3 σ4 s R4=>⟨Hb3,_,g3,s1.trans s,R4.wiped k1,ef⟩
   | ct e3 g3=>exact fun Hb3 H3 σ4 s R4=>⟨Hb3,_,g3,s1.trans s,R4.wiped k2,ef⟩
   | bk e3 g3 =>
    cases ef
    exact fun Hb3 H3 σ4 s R4=>w Hb3 H3 σ4 (s1.trans s) (R4.wiped k2)
   | rt d g3 =>
    cases ef
    exact fun v Hb3 H3 s R4 rv=>w v Hb3 H3 (s1.trans s) R4 rv
end
def lcF(h:GF)(t:BF)(f:XF):List D→Env→D→Option (List D×D)
 | [],_,g=>some ([],g)
 | d::ds,env,g=>(h d env).bind fun env1=>(t env1 g).bind fun p=>if p.1 then(f env1 p.2).bind fun q=>(lcF h t f ds env q.2).bind fun r=>some (q.1::r.1,r.2) else lcF h t f ds env p.2
def xLc(fi:IF)(h:GF)(t:BF)(f:XF)(vs:List Nat):XF:=fun env g=>(fi env g).bind fun p=>(lcF h t f p.1 (zJ env vs) p.2).bind fun r=>if sz r.1.length then some (.list r.1,r.2) else none
def vh:BF:=fun _ g=>some (true,g)
theorem jf{Γ:List Fl}:RfT Γ tYes vh:=fun c Hb H env g σ b g' R e Q q=>by
 cases e
 exact q Hb H (Grow.refl _ _ _) R
theorem ZN{σ:L2.St}{i:Nat}:∀ {vs:List Nat},i∉vs→(wipe σ vs)[i]? = σ[i]? := fun h=>wipe_out h
section
variable {c:Ctx} {Γ Γ':List Fl} {Hb H:Hp} {env:Env} {g:D} {σ:L2.St}
theorem Rel.block(R:Rel c Γ Hb H env g σ){vs:List Nat}(h:Qh Γ Γ' vs=true)(h0:Qz Γ vs=true):Rel c Γ' Hb H (zJ env vs) g (wipe σ vs):=by
 have R1:=R.wiped h
 have back:∀i a,zK c Γ' Hb H (zJ env vs) (wipe σ vs) i a→zK c Γ' Hb H (zJ env vs) σ i a:=fun i a o=>by
  obtain⟨d,fl,v,e1,e2,e3,e4⟩:=o
  rw[ZN (QA e1).2] at e3
  exact⟨d,fl,v,e1,e2,e3,e4⟩
 refine { ext:=R1.ext,ent:=R1.ent,dom:=R1.dom,b0:=R1.b0,gro:=R1.gro,bag:=R1.bag,bgs:=R1.bgs,slot:=fun i d e=>?_,sep:=fun i j a ij o1 o2=>R1.sep i j a ij (back i a o1) (back j a o2),lene:=?_,leng:=?_,bgf:=fun m e=>?_ }
 ·obtain⟨e1,e2⟩:=QA e
  obtain⟨fl,v,z1,z2,z3⟩:=R1.slot i d e
  exact⟨fl,v,z1,by rw[ZN e2];exact z2,z3⟩
 ·rw[wipe_length];exact R1.lene
 ·rw[wipe_length];exact R1.leng
 ·have e0:Γ[m]? = some .bg:=by
   simp only[Qh,Bool.and_eq_true,beq_iff_eq,List.all_eq_true,Bool.or_eq_true,decide_eq_true_eq,Bool.not_eq_true',decide_eq_false_iff_not] at h
   have hk:m<Γ.length:=by rw[←h.1.1];exact(List.getElem?_eq_some_iff.mp e).1
   exact(h.1.2 m (List.mem_range.mpr hk)).resolve_left fun z=>z e
  rw[ZN (jm h0 e0)]
  exact R1.bgf m e
theorem Rel.pokeOff(R:Rel c Γ Hb H env g σ){D:Addr}{o:HO}(hb:Hb D=none)(hc:c.Hc D=none)(hD:H D≠none)(off:∀j,¬zK c Γ Hb H env σ j D):Rel c Γ Hb (upd H D o) env g σ:=by
 have kp:∀i a,zK c Γ Hb H env σ i a→(∀x,H a=some x→upd H D o a=some x)∧Hb a=none:=fun i a w =>
  ⟨fun x e=>by rw[upd_ne (fun q:a=D=>off i (by rw[←q];exact w))];exact e,(w.live R).2.1⟩
 refine { ext:=fun a x k=>?_,ent:=fun a x k io=>?_,dom:=fun a k=>?_,b0:=R.b0,gro:=R.gro,bag:=fun b hbb=>?_,bgs:=R.bgs,slot:=fun j d' k=>?_,sep:=fun i j a ij o1 o2=>R.sep i j a ij (o1.back R (Same.refl _) (kp i)) (o2.back R (Same.refl _) (kp j)),lene:=R.lene,leng:=R.leng,bgf:=R.bgf }
 ·rw[upd_ne (fun q=>by subst q;rw[hb] at k;cases k)];exact R.ext a x k
 ·rw[upd_ne (fun q=>by subst q;rw[hc] at k;cases k)];exact R.ent a x k io
 ·by_cases q:a=D
  ·subst q;exact hc
  ·rw[upd_ne q] at k;exact R.dom a k
 ·obtain⟨ys,es,w1,w2,w3,w4⟩:=R.bag b hbb
  refine⟨ys,es,w1,?_,w3,w4⟩
  rw[upd_ne (fun(y:b=D)=>(R.bgs b hbb) (by rw[y];exact hc))]
  exact w2
 ·obtain⟨fl,u,w1,w2,w3⟩:=R.slot j d' k
  exact⟨fl,u,w1,w2,w3.keep (Same.refl _) fun a ha=>kp j a ⟨d',fl,u,k,w1,w2,ha⟩⟩
theorem Rel.offNew(R:Rel c Γ Hb H env g σ){D:Addr}(hD:H D=none):∀j,¬zK c Γ Hb H env σ j D:=fun j o=>(o.live R).1 hD
theorem Rel.offGrow{Hb' H':Hp}(R:Rel c Γ Hb H env g σ)(G:Grow c Hb H Hb' H'){D:Addr}(off:∀j,¬zK c Γ Hb H env σ j D):∀j,¬zK c Γ Hb' H' env σ j D:=fun j o=>off j (o.back R G.b (Qd R G.h G.n j))
end
theorem QB{σ σ':L2.St}{vs:List Nat}(hl:σ'.length=σ.length)(h:∀j,j∉vs→σ'[j]? = (wipe σ vs)[j]?):wipe σ' vs=wipe σ vs:=by
 have key:∀(ws:List Nat) (τ:L2.St) (j:Nat),j∈ws→j<τ.length→(wipe τ ws)[j]? = some none:=by
  intro ws
  induction ws with
  | nil=>intro τ j hj;simp at hj
  | cons v ws ih =>
   intro τ j hj hlt
   unfold wipe
   by_cases q:v=j
   ·subst q;rw[List.getElem?_set_self (by rw[wipe_length];exact hlt)]
   ·rw[List.getElem?_set_ne q]
    exact ih τ j (by simpa[Ne.symm q] using hj) hlt
 apply List.ext_getElem?
 intro j
 by_cases hj:j∈vs
 ·by_cases hlt:j<σ.length
  ·rw[key vs σ' j hj (by omega),key vs σ j hj hlt]
  ·rw[List.getElem?_eq_none (by rw[wipe_length];omega),List.getElem?_eq_none (by rw[wipe_length];omega)]
 ·rw[wipe_out hj,h j hj]
section
variable {Γ Γ0 Γ1:List Fl} {wi:TI} {g:TG} {tt:TT} {te:TE} {fi:IF} {h:GF} {t:BF} {f:XF} {vs is:List Nat}
theorem vO{W:Hp→V→D→Prop}(hi:RfI W Γ wi fi)(hg:RfG W Γ0 Γ1 is g h)(ht:RfT Γ1 tt t)(he:RfE Γ1 te f)(k0:Qh Γ Γ0 vs=true)(h0:Qz Γ vs=true)(hv:∀i∈is,i∈vs):RfN Γ (tLc wi g tt te vs) (xLc fi h t f vs):=fun c Hb H env bag σ d g' R e Q q=>by
 obtain⟨p,e1,e⟩:=zo e
 obtain⟨r,e2,e⟩:=zo e
 split at e
 ·rename_i hz
  cases e
  refine hi c Hb H env bag σ p.1 p.2 R e1 _ fun J Hb1 H1 G1 R1 it D hD=>?_
  have hDH:H D=none:=G1.d D hD
  have hDc:c.Hc D=none:=R1.dom D hD
  have hDb:Hb1 D=none:=R1.ext.free hD
  have RB:Rel c Γ0 Hb1 (upd H1 D (.lst [])) (zJ env vs) p.2 (wipe σ vs):=(R1.newOwn hD).block k0 h0
  have RW:=R1.block k0 h0
  have off:=RW.offNew hD
  refine⟨fun i m H2=>m=p.1.length - i∧i≤p.1.length∧∃Hb2 g2 xs acc rest,Grow c Hb1 H1 Hb2 H2∧Rel c Γ0 Hb2 H2 (zJ env vs) g2 (wipe σ vs)∧H2 D=some (.lst xs)∧Hb2 D=none∧RpL Hb2 xs acc∧lcF h t f (p.1.drop i) (zJ env vs) g2=some (rest,r.2)∧acc++rest=r.1,
   ⟨p.1.length,rfl,Nat.zero_le _,Hb1,p.2,[],[],r.1,(Nw.newOwn R1.ext hD).gr,RB,upd_same,hDb,.nil,by simpa using e2,rfl⟩,?_⟩
  rintro i m H2 ⟨rfl,hil,Hb2,g2,xs,acc,rest,G2,R2,hx,hb2,racc,ef,hr⟩
  by_cases hlt:i<p.1.length
  ·refine .inr ⟨it.go i H2 (G2.b.trans R2.ext) hlt,?_⟩
   rw[List.drop_eq_getElem_cons hlt] at ef
   obtain⟨env1,y1,ef⟩:=zo ef
   obtain⟨b,y2,ef⟩:=zo ef
   refine⟨fun H3=>∃Hb3 g3 xs acc rest,Grow c Hb1 H1 Hb3 H3∧Rel c Γ0 Hb3 H3 (zJ env vs) g3 (wipe σ vs)∧H3 D=some (.lst xs)∧Hb3 D=none∧RpL Hb3 xs acc∧lcF h t f (p.1.drop (i+1)) (zJ env vs) g3=some (rest,r.2)∧acc++rest=r.1,fun H3 hh=>⟨p.1.length - (i+1),by omega,rfl,by omega,hh⟩,fun x H3 hy=>?_⟩
   obtain⟨Hb3,nw,rx⟩:=it.yld i H2 Hb2 x H3 _ G2.b R2.ext hy (List.getElem?_eq_getElem hlt)
   have R3:=nw.rel R2
   refine hg c Hb3 H3 _ g2 _ x _ env1 R3 rx y1 _ fun σ4 R4 l4 k4=>⟨QB (by rw[l4,wipe_length]) fun j hj=>k4 j fun z=>hj (hv j z),?_⟩
   refine ht c Hb3 H3 env1 g2 σ4 b.1 b.2 R4 y2 _ fun Hb5 H5 G5 R5=>?_
   have Dok:∀ {Hbx Hx},Grow c Hb3 H3 Hbx Hx→Hx D=some (.lst xs)∧Hbx D=none:=fun {Hbx Hx} G=>by
    have h3:H3 D=some (.lst xs):=nw.h _ _ hx
    refine⟨G.h D _ h3 (fun z=>(R.bgs D z) hDc),?_⟩
    cases y:Hbx D with
    | none=>rfl
    | some o =>
     have b3:Hb3 D=none:=by
      cases y3:Hb3 D with
      | none=>rfl
      | some o3 =>
       have:=nw.n D (by rw[y3];simp) hb2
       rw[hx] at this;cases this
     have:=G.n D (by rw[y];simp) b3
     rw[h3] at this;cases this
   have back:∀ {Hbx Hx gx},Grow c Hb3 H3 Hbx Hx→Rel c Γ1 Hbx Hx env1 gx σ4→Rel c Γ0 Hbx Hx (zJ env vs) gx (wipe σ vs):=fun {Hbx Hx gx} G RR=>R3.regrow G RR.ext RR.bag
   cases e5:b.1 with
   | false =>
    rw[e5,if_neg (by simp)] at ef
    rw[if_neg (by simp)]
    obtain⟨d1,d2⟩:=Dok G5
    exact⟨Hb5,b.2,xs,acc,rest,G2.trans (nw.gr.trans G5),back G5 R5,d1,d2,(racc.same nw.b).same G5.b,ef,hr⟩
   | true =>
    rw[e5,if_pos rfl] at ef
    rw[if_pos rfl]
    obtain⟨y,y3,ef⟩:=zo ef
    obtain⟨rr,y4,ef⟩:=zo ef
    have ef2:=Option.some.inj ef
    have er1:y.1::rr.1=rest:=congrArg Prod.fst ef2
    have er2:rr.2=r.2:=by
     have z:=congrArg (fun w:List PyData×PyData=>w.2) ef2
     exact z
    subst er1
    refine he c Hb5 H5 env1 b.2 σ4 y.1 y.2 R5 y3 _ fun v Hb6 H6 G6 R6 r6=>?_
    have G56:=G5.trans G6
    obtain⟨d1,d2⟩:=Dok G56
    have ra:RpL Hb6 (xs++[v]) (acc++[y.1]):=(((racc.same nw.b).same G56.b)).append (.one r6)
    have R7:=back G56 R6
    have hlen:xs.length<sizeLine:=by
     rw[racc.length]
     have hz2:=of_decide_eq_true hz
     rw[←hr,List.length_append] at hz2
     rw[sizeLine_eq]
     omega
    have hD6:H6 D≠none:=by rw[d1];simp
    refine⟨xs,d1,hlen,Hb6,y.2,xs++[v],acc++[y.1],rr.1,?_,R7.pokeOff d2 hDc hD6 (RW.offGrow (G2.trans (nw.gr.trans G56)) off),upd_same,d2,ra,by rw[←er2];exact y4,by rw[←hr];simp⟩
    have GG:=G2.trans (nw.gr.trans G56)
    refine⟨GG.b,fun a o k io=>?_,GG.n,fun a k=>?_⟩
    ·rw[upd_ne (ne_of_none k hD)];exact GG.h a o k io
    ·by_cases z:a=D
     ·subst z;exact hD
     ·rw[upd_ne z] at k;exact GG.d a k
  ·have hi2:i=p.1.length:=by omega
   subst hi2
   refine .inl ⟨it.stop _ H2 (G2.b.trans R2.ext) (Nat.le_refl _),?_⟩
   rw[List.drop_length] at ef
   have ef2:=Option.some.inj ef
   have er1:[]=rest:=congrArg Prod.fst ef2
   have er2:g2=r.2:=by
    have z:=congrArg (fun w:List PyData×PyData=>w.2) ef2
    exact z
   subst er1
   rw[List.append_nil] at hr
   rw[hr] at racc
   rw[er2] at R2
   exact q D xs r.1 Hb2 H2 (G1.trans G2) (R1.regrow G2 R2.ext R2.bag) rfl hx hb2 hDH hDc racc
 ·cases e
end
end
section
variable [TheW]
structure FnG(P:Program)(w:World)(K:PySem.W.Frag)(mg:Str→Option Value)(base:Heap)(k:Nat)(f:Addr)(fd:FuncData)(ps:List Str)(sp:Sp):Prop where
 len:∀vs H Q E,sp vs H Q E→vs.length=ps.length
 runs:∀(A:Around) (outer:List PySem.Env) (s:Shared) (H:Hp) (args:Args) (us:List Value) (vs:List V) (Q:VK) (E:XK),A.guards=some []→Room k A→Env0 P w K mg base A outer s H→BindsTo s fd args (ps.zip us)→Vals vs us→sp vs H Q E →
  codeAny (model P w) A (.call (.ref f) args) (CR CX0 outer P w H s Q E) s
theorem FnG.mono{P:Program}{w:World}{K:PySem.W.Frag}{mg:Str→Option Value}{base:Heap}{j k:Nat}{f:Addr}{fd:FuncData}{ps:List Str}{sp:Sp}(F:FnG P w K mg base j f fd ps sp)(h:j≤k):FnG P w K mg base k f fd ps sp :=
 ⟨F.len,fun A outer s H args us vs Q E hg hr=>F.runs A outer s H args us vs Q E hg (hr.mono h)⟩
theorem FnOk.g{P:Program}{w:World}{K:PySem.W.Frag}{mg:Str→Option Value}{base:Heap}{k:Nat}{f:Addr}{fd:FuncData}{ps:List Str}{sp:Sp}(F:FnOk P w K mg base CX0 k f fd ps sp):FnG P w K mg base k f fd ps sp :=
 ⟨F.len,fun A outer s H args us vs Q E _ hr=>F.run A outer s H args us vs Q E hr⟩
section
variable {X:Cx} {k:Nat} {f:Addr} {fd:FuncData} {ps:List Str} {sp:Sp} {E:XK} {x:Str} {p pos:Pos} {e:Expr} {es:List Expr} {t:TA}
theorem ahH{pins:List (Addr×Obj)}{σ:L2.St}{H:Hp}{s:Shared}{Q:VK}{us:List Value}{vs:List V}(F:FnG X.prog X.w X.K X.mg X.base k f fd ps sp)(hgu:X.A.guards=some [])(hr:Room k X.A)(hb:Binds X.K fd ps [])
  (I:Inv X pins σ H s) (r:Vals vs us) (h:sp vs H Q E):wpAny (model X.prog X.w) X.A (call (.ref f) us) (EP X pins σ Q) X.xe s:=by
 have hl:us.length=ps.length:=r.length.symm.trans (F.len _ _ _ _ h)
 have hbs:=hb s us I.kIn (by rw[List.append_nil];exact hl)
 rw[List.append_nil] at hbs
 refine wpAny_call (codeAny_mono (F.runs X.A X.stack s H ⟨us,[]⟩ us vs Q E hgu hr I.env0 hbs r h) fun r s' hq=>?_)
 match r,hq with
 | .ok (.ret u),hq=>exact I.after hq
 | .ok .next,hq=>exact hq.elim
 | .ok .brk,hq=>exact hq.elim
 | .ok .cont,hq=>exact hq.elim
 | .error e,hq=>exact(show False from hq).elim
theorem aei(F:FnG X.prog X.w X.K X.mg X.base k f fd ps sp)(hgu:X.A.guards=some [])(hr:Room k X.A)(hg:Gl X x)(hm:X.mg x=some (.ref f))(hk:PySem.W.keepIn X.K (.ref f)=true)(hb:Binds X.K fd ps [])
  (ha:PA X (e::es) t) (hdb:(x == ("__debug__" : Str))=false:=by decide) (he:starEach (e::es) X.env=(false,eval e X.env)::starEach es X.env:=by rfl) (hpl:(backTo pos (starEach es X.env)).any (·.1)=false:=by rfl) :
  PE X (.Call (.Name x p) (e::es) [] pos) (tCall sp [] E t) :=
 ⟨fun pins s σ H Q I h=>wpAny_Call_Name_kw (ld_glob I hg hm (PySem.W.callWith_K (h₀:=X.base) I.ok.mod.kin hk (thn (ha.run pos pins s σ H _ I h) fun us s1 ⟨vs,H1,I1,r,q⟩ =>
  ⟨I1.kIn,ahH F hgu hr hb I1 r (List.append_nil vs▸(show sp (vs++[]) H1 Q E from q))⟩) he hpl) hdb)⟩
end
theorem Fun.okG{P:Program}{w:World}{K:PySem.W.Frag}{mg:Str→Option Value}{base:Heap}{x qual:Str}{st:Stmt}{f:Addr}{fd:FuncData}{N ps:List Str}{k:Nat}{sp:Sp}(F:Fun K x qual st f fd)(S:FnScope N ps (defScope st))(len:∀vs H Q E,sp vs H Q E→vs.length=ps.length)
  (hbody:∀(cdv:Value) (A:Around) (outer:List PySem.Env) (s:Shared) (H:Hp) (vs:List V) (Q:VK) (E:XK),A.guards=some []→Room k (A.deeper (envOfC qual (defScope st) s.heap.objs.size f cdv))→sp vs H Q E →
   ∃t,PSs (cxOf CX0 P w K mg base N qual (defScope st) f cdv A outer s H E).nox (defBody st) t∧t { nx:=fun _ H'=>Q .non H',rt:=Q } (start N vs) H):FnG P w K mg base (k+1) f fd ps sp:=by
 obtain⟨oc,od,kV,doc,pm,an,cdv,ct,osl,rfl,lk,hcd⟩:=F.ex
 refine⟨len,fun A outer s H args us vs Q E hgu hr e0 hb r hsp=>?_⟩
 -- at one call: the rule for defs,with a promise that speaks of this call alone
 have KX:K.In s.heap:=e0.mod.kin.keeps fun b o e=>(e0.bs b o e).1
 have lim:s.heap.NoLimit:=e0.mod.nolimit.keeps fun b o e=>(e0.bs b o e).1
 refine codeAny_call_function hr.depth (KX _ _ lk) rfl S.co S.gen rfl (PySem.W.codeRec_of KX hcd) (hb _ _ _ _ ?_)
 refine wpAny_newFunctionEnv_cells S.kind (fun y hy=>?_) fun env he s1 x=>?_
 ·rcases S.par y.1 (List.of_mem_zip (show(y.1,y.2)∈ps.zip us from hy)).1 with q | q
  ·exact .inl q
  ·exact .inr ⟨q,PySem.W.cellsFrom_some _ _ _ (.inl q)⟩
 ·subst he
  refine⟨lim.keeps x.toInCall.keep,codeAny_func ?_⟩
  obtain⟨t,ht,hq⟩:=hbody cdv A outer s H vs Q E hgu (hr.deeper _) hsp
  have I:=inv_start (CX:=CX0) (E:=E) S hr.hd e0 (len _ _ _ _ hsp) r x
  refine wpAny_mono (ht.nox.run [] s1 (start N vs) H _ I hq) (fun fl s' hs=>?_) fun e s' hs=>hs
  match fl,hs with
  | .ret u,⟨v, σ',H',J,rv,q⟩=>exact⟨v,H',J.os,J.bare,J.base,J.hok,rv,q⟩
  | .next,⟨σ',H',J,q⟩=>exact⟨.non,H',J.os,J.bare,J.base,J.hok,rfl,q⟩
  | .brk,⟨_,_,_,q⟩=>exact q.elim
  | .cont,⟨_,_,_,q⟩=>exact q.elim
def jU(m:Nat)(ds:List D):Env:=ds.map some++List.replicate (m - ds.length) none
def yZ(m:Nat)(f:SF)(ds:List D):Option D:=match f (jU m ds) .none with
 | some (.rt d _)=>some d
 | some (.nx _ _)=>some .none
 | _=>none
def Vi(m:Nat)(f:SF)(ds:List D)(g:D):Option (D×D):=match f (none::jU (m - 1) ds) g with
 | some (.rt d g')=>some (d,g')
 | some (.nx _ g')=>some (.none,g')
 | _=>none
def okP(n:Nat)(Γ:List Fl):Bool:=(List.range n).all fun i=>decide (Γ[i]? = some .sh)
def okB(n:Nat)(Γ:List Fl):Bool:=(decide (Γ[0]? = some .bg)&&((List.range Γ.length).all fun i=>i == 0||!decide (Γ[i]? = some .bg)))&&(List.range (n - 1)).all fun i=>decide (Γ[i+1]? = some .sh)
theorem Vj{m:Nat}{ds:List D}{i:Nat}{d:D}(h:(jU m ds)[i]? = some (some d)):ds[i]? = some d:=by
 unfold jU at h
 by_cases hi:i<ds.length
 ·rw[List.getElem?_append_left (by simpa using hi),List.getElem?_map] at h
  cases e:ds[i]? with
  | none=>rw[e] at h;cases h
  | some x=>rw[e] at h;cases h;rfl
 ·rw[List.getElem?_append_right (by simpa using hi),List.getElem?_replicate] at h
  split at h <;> cases h
theorem VP{N:List Str}{vs:List V}{i:Nat}{v:V}(h:vs[i]? = some v):(start N vs)[i]? = some (some v):=by
 have hi:i<vs.length:=(List.getElem?_eq_some_iff.mp h).1
 unfold L2.start
 rw[List.getElem?_append_left (by simpa using hi),List.getElem?_map,h]
 rfl
theorem Qi{N:List Str}{vs:List V}(h:vs.length≤N.length):(start N vs).length=N.length:=by
 unfold L2.start
 rw[List.length_append,List.length_map,List.length_replicate]
 omega
theorem agS{N:List Str}{n:Nat}{Γ:List Fl}{Hb H:Hp}{vs:List V}{ds:List D}(ok:okP n Γ=true)(hΓ:Γ.length=N.length)(hn:n≤N.length)(hbg:Qz Γ (List.range Γ.length)=true)(x:Same Hb H)(r:RpL Hb vs ds)(hl:vs.length=n) :
  Rel ⟨H,Hb,none,noH,sN _⟩ Γ Hb H (jU N.length ds) .none (start N vs):=by
 have hd:ds.length=n:=by rw[←r.length];exact hl
 refine { ext:=x,ent:=fun a o e _=>e,dom:=fun a e=>e,b0:=Same.refl _,gro:=fun a o e z=>?_,bag:=fun b z=>?_,bgs:=fun b z=>?_,slot:=fun i d e=>?_,sep:=fun i j p ij o1 o2=>?_,lene:=?_,leng:=?_,bgf:=fun k z=>absurd (List.mem_range.mpr (List.getElem?_eq_some_iff.mp z).1) (jm hbg z) }
 ·have z':Hb a=none:=z
  rw[e] at z';cases z'
 ·cases z
 ·cases z
 ·have hg:=Vj e
  obtain⟨v,hv,rv⟩:=r.get i hg
  have hi:i<n:=by rw[←hd];exact(List.getElem?_eq_some_iff.mp hg).1
  simp only[okP,List.all_eq_true,decide_eq_true_eq] at ok
  exact⟨.sh,v,ok i (List.mem_range.mpr hi),VP hv,rv⟩
 ·obtain⟨d,fl,v,e1,e2,e3,e4⟩:=o1
  have hg:=Vj e1
  have hi:i<n:=by rw[←hd];exact(List.getElem?_eq_some_iff.mp hg).1
  simp only[okP,List.all_eq_true,decide_eq_true_eq] at ok
  rw[ok i (List.mem_range.mpr hi)] at e2
  cases e2
  exact e4.elim
 ·rw[Qi (by omega)]
  unfold jU
  rw[List.length_append,List.length_map,List.length_replicate]
  omega
 ·rw[Qi (by omega)];exact hΓ
theorem agT{N:List Str}{n:Nat}{Γ:List Fl}{Hg Hb H:Hp}{b:Addr}{o:HO}{g:D}{rest:List V}{ds:List D}(hg0:Same Hg Hb)(ok:okB n Γ=true)(hΓ:Γ.length=N.length)(hn:n≤N.length)(h1:0<n)(x:Same Hb H)(hb:H b=some o)(hbb:Hb b=none)(rb:V5 Hg o g)(r:RpL Hb rest ds)(hl:rest.length+1=n) :
  Rel ⟨H,Hb,some b,Hg,hg0⟩ Γ Hb H (none::jU (N.length - 1) ds) g (start N (.ref b::rest)):=by
 have hd:ds.length+1=n:=by rw[←r.length];exact hl
 simp only[okB,Bool.and_eq_true,List.all_eq_true,decide_eq_true_eq] at ok
 have only:∀k:Nat, Γ[k]? = some .bg→k=0:=fun k e=>by
  have h:=ok.1.2 k (List.mem_range.mpr (List.getElem?_eq_some_iff.mp e).1)
  simpa[e] using h
 have get:∀(i:Nat) (d:D),(none::jU (N.length - 1) ds)[i]? = some (some d)→∃j,i=j+1∧ds[j]? = some d∧Γ[i]? = some .sh:=fun i d e=>by
  cases i with
  | zero=>cases e
  | succ j =>
   have hg:=Vj (show(jU (N.length - 1) ds)[j]? = some (some d) from e)
   have hj:j<ds.length:=(List.getElem?_eq_some_iff.mp hg).1
   exact⟨j,rfl,hg,ok.2 j (List.mem_range.mpr (by omega))⟩
 refine { ext:=x,ent:=fun a o e _=>e,dom:=fun a e=>e,b0:=Same.refl _,gro:=fun a o e z=>?_,bag:=fun b' z=>?_,bgs:=fun b' z=>?_,slot:=fun i d e=>?_,sep:=fun i j p ij o1 o2=>?_,lene:=?_,leng:=?_,bgf:=fun k z=>⟨b,rfl,?_⟩ }
 ·have z':Hb a=none:=z
  rw[e] at z';cases z'
 ·cases z;exact⟨o,(),trivial,hb,hbb,rb⟩
 ·cases z
  show H b≠none
  rw[hb];simp
 ·obtain⟨j,rfl,hg,hf⟩:=get i d e
  obtain⟨v,hv,rv⟩:=r.get j hg
  exact⟨.sh,v,hf,VP (show(V.ref b::rest)[j+1]? = some v from hv),rv⟩
 ·obtain⟨d,fl,v,e1,e2,e3,e4⟩:=o1
  obtain⟨j',rfl,hg,hf⟩:=get i d e1
  rw[hf] at e2;cases e2
  exact e4.elim
 ·rw[Qi (by simp;omega)]
  simp[jU]
  omega
 ·rw[Qi (by simp;omega)];exact hΓ
 ·rw[only k z];exact VP (by rfl)
section
variable {P:Program} {w:World} {K:PySem.W.Frag} {mg:Str→Option Value} {base:Heap} {x qual:Str} {st:Stmt} {f:Addr} {fd:FuncData} {N ps:List Str} {k n:Nat} {Γ Γ' Γk:List Fl} {fb:SF}
theorem afO(F:Fun K x qual st f fd)(S:FnScope N ps (defScope st))(hn:ps.length=n)(ok:okP n Γ=true)(hΓ:Γ.length=N.length)(hbg:Qz Γ (List.range Γ.length)=true)
  (body:∀(X:Cx),X.prog=P→X.w=w→X.K=K→X.mg=mg→X.base=base→X.N=N→X.A.guards=some []→Room k X.A→X.calm=true→X.env.scope=defScope st→X.fn=(fun _=>true)→X.xe=(fun _ _=>False)→∃t,PSs X (defBody st) t∧RfS Γ Γ' Γk t fb) :
  FnG P w K mg base (k+1) f fd ps (spP n (yZ N.length fb)):=by
 have hnN:n≤N.length:=by
  have:=congrArg List.length S.pre
  rw[List.length_take,hn] at this;omega
 refine Fun.okG F S (fun vs H Q E ⟨_,_,_,_,_,h,_⟩=>h.trans hn.symm) fun cdv A outer s H vs Q E hgu hr ⟨Hb,ds,d,x,r,hl,hF,q⟩=>?_
 obtain⟨t,ht,hs⟩:=body (cxOf CX0 P w K mg base N qual (defScope st) f cdv A outer s H E).nox rfl rfl rfl rfl rfl rfl hgu hr rfl rfl rfl rfl
 refine⟨t,ht,?_⟩
 have R:=agS ok hΓ hnN hbg x r hl
 unfold yZ at hF
 have fin:∀ {v:V} {d':D} {Hb' H':Hp} {g':D},d'=d→Same Hb Hb'→agQ ⟨H,Hb,none,noH,sN _⟩ Hb' H' g'→Rp Hb' v d'→Q v H':=fun {v d' Hb' H' g'} e s ⟨_,_,_,R'⟩ rv =>
  q v Hb' H' ⟨s,R'.ext,fun a o y=>R'.ent a o y (by simp),fun a y z=>by
   cases yb:Hb' a with
   | none=>exact absurd yb y
   | some o=>exact R'.gro a o yb z⟩ (e▸rv)
 split at hF
 ·rename_i d' g' e
  refine hs _ Hb H _ _ _ _ R e _ ?_
  exact fun v Hb' H' s R' rv=>fin (Option.some.inj hF) s R' rv
 ·rename_i e' g' e
  refine hs _ Hb H _ _ _ _ R e _ ?_
  exact fun Hb' H' σ' s R'=>fin (v:=.non) (Option.some.inj hF) s ⟨_,_,_,R'⟩ .non
 ·cases hF
theorem agU(F:Fun K x qual st f fd)(S:FnScope N ps (defScope st))(hn:ps.length=n)(h1:0<n)(ok:okB n Γ=true)(hΓ:Γ.length=N.length)
  (body:∀(X:Cx),X.prog=P→X.w=w→X.K=K→X.mg=mg→X.base=base→X.N=N→X.A.guards=some []→Room k X.A→X.calm=true→X.env.scope=defScope st→X.fn=(fun _=>true)→X.xe=(fun _ _=>False)→∃t,PSs X (defBody st) t∧RfS Γ Γ' Γk t fb) :
  FnG P w K mg base (k+1) f fd ps (spB n (Vi N.length fb)):=by
 have hnN:n≤N.length:=by
  have:=congrArg List.length S.pre
  rw[List.length_take,hn] at this;omega
 refine Fun.okG F S (fun vs H Q E ⟨_,_,_,_,_,rest,_,_,_,e,_,_,_,_,_,_,h,_⟩=>by rw[e,List.length_cons,h,hn]) fun cdv A outer s H vs Q E hgu hr ⟨Hg,Hb,b,ob,g0,rest,ds,d,g1,ev,hg0,x,hb,hbb,rb,r,hl,hF,q⟩=>?_
 obtain⟨t,ht,hs⟩:=body (cxOf CX0 P w K mg base N qual (defScope st) f cdv A outer s H E).nox rfl rfl rfl rfl rfl rfl hgu hr rfl rfl rfl rfl
 refine⟨t,ht,?_⟩
 subst ev
 have R:=agT hg0 ok hΓ hnN h1 x hb hbb rb r hl
 unfold Vi at hF
 have fin:∀ {v:V} {d':D} {Hb' H':Hp} {g':D},(d',g')=(d,g1)→Same Hb Hb'→agQ ⟨H,Hb,some b,Hg,hg0⟩ Hb' H' g'→Rp Hb' v d'→Q v H':=fun {v d' Hb' H' g'} e s ⟨_,_,_,R'⟩ rv=>by
  obtain⟨xs',bs',y1,y2,y3,y4⟩:=R'.bag b rfl
  cases e
  exact q v Hb' H' xs' s R'.ext (fun a o y z=>R'.ent a o y (by intro k;cases k;exact z rfl)) (fun a y z=>by
   cases yb:Hb' a with
   | none=>exact absurd yb y
   | some o=>exact R'.gro a o yb z) y2 y3 y4 rv
 split at hF
 ·rename_i d' g' e
  refine hs _ Hb H _ _ _ _ R e _ ?_
  exact fun v Hb' H' s R' rv=>fin (Option.some.inj hF) s R' rv
 ·rename_i e' g' e
  refine hs _ Hb H _ _ _ _ R e _ ?_
  exact fun Hb' H' σ' s R'=>fin (v:=.non) (Option.some.inj hF) s ⟨_,_,_,R'⟩ .non
 ·cases hF
end
end
section
variable [TheW]
theorem ww{d:D}{ds:List D}(h:y9 d=some ds):d=.list ds∨d=.tuple ds:=by
 cases d <;> simp[y9] at h
 ·exact .inl (by rw[h])
 ·exact .inr (by rw[h])
def agx(K:PySem.W.Frag):R2:=fun x y H Q=>rI0 (fun i j=>.int (i+j)) x y H Q∨(rCat x y H Q∨(agv K x y H Q∨∃i j:Str,x=.str i∧y=.str j∧i.length+j.length≤sizeLine∧Q (.str (i++j)) H))
theorem vD{X:Cx}:OpR X (binaryOp .Add) (agx X.K):=op_add.or (op_cat.or (afL.or op_add_str))
def va:D→D→Option D
 | .int i,.int j=>some (.int (i+j))
 | .list a,.list b=>if sz (a.length+b.length) then some (.list (a++b)) else none
 | .tuple a,.tuple b=>if sz (a.length+b.length) then some (.tuple (a++b)) else none
 | .str i,.str j=>if sz (i.length+j.length) then some (.str (i++j)) else none
 | _,_=>none
theorem vE{K:PySem.W.Frag}:RfO (agx K) va:=fun c Hb H x y dx dy d sm rx ry e Q q=>by
 unfold va at e
 split at e
 ·cases e
  exact .inl ⟨_,_,rx.int,ry.int,q _ Hb H (Nw.refl sm) (.int _)⟩
 ·rename_i a b
  split at e
  ·rename_i hz
   cases e
   obtain⟨p,xs,rfl,h1,h2⟩:=rx.list sm
   obtain⟨p2,ys,rfl,h3,h4⟩:=ry.list sm
   refine .inr (.inl ⟨p,p2,xs,ys,rfl,rfl,h1,h3,by rw[h2.length,h4.length];exact V9 hz,fun z hzn=>?_⟩)
   have w:=Nw.new (o:=.lst (xs++ys)) sm hzn
   exact q _ _ _ w (.lst upd_same ((h2.append h4).same w.b))
  ·cases e
 ·rename_i a b
  split at e
  ·rename_i hz
   cases e
   obtain⟨p,xs,rfl,h1,h2⟩:=rx.tuple
   obtain⟨p2,ys,rfl,h3,h4⟩:=ry.tuple
   refine .inr (.inr (.inl ⟨p,p2,xs,ys,rfl,rfl,h1.sq sm,h3.sq sm,by rw[h2.length,h4.length];exact V9 hz,fun ex=>?_,fun ex ey=>?_,fun z od hzn hd=>?_⟩))
   ·subst ex;cases h2
    exact q _ Hb H (Nw.refl sm) (.tp h3 h4)
   ·subst ey;cases h4
    rw[List.append_nil] at q
    exact q _ Hb H (Nw.refl sm) (.tp h1 h2)
   ·have w:=Nw.new (o:=.frz od (.tup (xs++ys))) sm hzn
    exact q _ _ _ w (.tup upd_same hd ((h2.append h4).same w.b))
  ·cases e
 ·split at e
  ·rename_i hz
   cases e
   exact .inr (.inr (.inr ⟨_,_,rx.str,ry.str,V9 hz,q _ Hb H (Nw.refl sm) (.str _)⟩))
  ·cases e
 ·cases e
def Ix:D→D→Option D
 | .int i,.int j=>some (.int (i - j))
 | _,_=>none
theorem Iy:RfO (rI0 fun i j=>.int (i - j)) Ix:=fun c Hb H x y dx dy d sm rx ry e Q q=>by
 unfold Ix at e
 split at e
 ·cases e
  exact⟨_,_,rx.int,ry.int,q _ Hb H (Nw.refl sm) (.int _)⟩
 ·cases e
def Vl:D→D→Option D
 | .int i,.int j=>if 0<j then some (.int (i % j)) else none
 | _,_=>none
theorem QC:RfO (rI (fun _ j=>0<j) fun i j=>.int (i % j)) Vl:=fun c Hb H x y dx dy d sm rx ry e Q q=>by
 unfold Vl at e
 split at e
 ·split at e
  ·rename_i hj
   cases e
   exact⟨_,_,rx.int,ry.int,hj,q _ Hb H (Nw.refl sm) (.int _)⟩
  ·cases e
 ·cases e
def U6:D→Option D
 | .int i=>some (.int (-i))
 | _=>none
theorem Iz:RfU (rU fun i=>.int (-i)) U6:=fun c Hb H x dx d sm rx e Q q=>by
 unfold U6 at e
 split at e
 ·cases e
  exact⟨_,rx.int,q _ Hb H (Nw.refl sm) (.int _)⟩
 ·cases e
def dOk(d:D):Bool:=vf d&&SeqAt.shaped d
def eqD(a b:D):Option D:=if dOk a&&dOk b then some (.bool (PyData.eqv a b)) else none
def neD(a b:D):Option D:=if dOk a&&dOk b then some (.bool (!PyData.eqv a b)) else none
theorem VQ{d:D}(h:dOk d=true):vf d=true∧SeqAt.shaped d=true:=by simpa[dOk] using h
theorem jr{K:PySem.W.Frag}:RfO (rEqD K) eqD:=fun c Hb H x y dx dy d sm rx ry e Q q=>by
 unfold eqD at e
 split at e
 ·rename_i h
  simp only[Bool.and_eq_true] at h
  cases e
  obtain⟨a1,a2⟩:=VQ h.1
  obtain⟨b1,b2⟩:=VQ h.2
  exact⟨dx,dy,Rp.dp _ _ a1 (rx.rp sm),Rp.dp _ _ b1 (ry.rp sm),a2,b2,q _ Hb H (Nw.refl sm) (.bl _)⟩
 ·cases e
theorem jV{K:PySem.W.Frag}:RfO (rNeD K) neD:=fun c Hb H x y dx dy d sm rx ry e Q q=>by
 unfold neD at e
 split at e
 ·rename_i h
  simp only[Bool.and_eq_true] at h
  cases e
  obtain⟨a1,a2⟩:=VQ h.1
  obtain⟨b1,b2⟩:=VQ h.2
  exact⟨dx,dy,Rp.dp _ _ a1 (rx.rp sm),Rp.dp _ _ b1 (ry.rp sm),a2,b2,q _ Hb H (Nw.refl sm) (.bl _)⟩
 ·cases e
def agV(K:PySem.W.Frag):R2:=fun x y H Q=>(rI0 (fun i j=>.bl (decide (i<j))) x y H Q∨∃i j:Str,x=.str i∧y=.str j∧Q (.bl (decide (i.cps.toList<j.cps.toList))) H)∨rLtT K x y H Q
theorem agW{X:Cx}(hu:X.A.units+1<cLine):OpR X (compareOp .Lt) (agV X.K):=(op_lt.or op_lt_str).or (op_ltT (by omega))
def GA:List D→Option (List Int)
 | []=>some []
 | .int i::ds=>(GA ds).map (i::·)
 | _=>none
theorem ZO{H:Hp}:∀ {ds:List D} {ns:List Int} {vs:List V},GA ds=some ns→RpL H vs ds→vs=ns.map V.int
 | [],ns,vs,e,h=>by
  cases h
  simp[GA] at e
  subst e
  rfl
 | d::ds,ns,vs,e,h=>by
  cases h with
  | cons h1 h2 =>
   cases d <;> simp[GA] at e
   obtain⟨ms,e1,rfl⟩:=e
   cases h1
   rw[ZO e1 h2]
   rfl
def ltD:D→D→Option D
 | .int i,.int j=>some (.bool (decide (i<j)))
 | .str i,.str j=>some (.bool (decide (i.cps.toList<j.cps.toList)))
 | .tuple xs,.tuple ys=>(GA xs).bind fun ns=>(GA ys).bind fun ms=>some (.bool (HT.lexLt ns ms))
 | _,_=>none
theorem agX{K:PySem.W.Frag}:RfO (agV K) ltD:=fun c Hb H x y dx dy d sm rx ry e Q q=>by
 unfold ltD at e
 split at e
 ·cases e
  exact .inl (.inl ⟨_,_,rx.int,ry.int,q _ Hb H (Nw.refl sm) (.bl _)⟩)
 ·cases e
  exact .inl (.inr ⟨_,_,rx.str,ry.str,q _ Hb H (Nw.refl sm) (.bl _)⟩)
 ·obtain⟨ns,e1,e⟩:=zo e
  obtain⟨ms,e2,e⟩:=zo e
  cases e
  cases rx.rp sm with
  | tup h1 h0 h2 =>
   cases ry.rp sm with
   | tup k1 k0 k2 =>
    rw[ZO e1 h2] at h1
    rw[ZO e2 k2] at k1
    exact .inr ⟨_,_,ns,ms,rfl,rfl,.inl (.inr ⟨_,h1⟩),.inl (.inr ⟨_,k1⟩),q _ Hb H (Nw.refl sm) (.bl _)⟩
 ·cases e
def gtD:D→D→Option D
 | .int i,.int j=>some (.bool (decide (j<i)))
 | _,_=>none
theorem Vm:RfO (rI0 fun i j=>.bl (decide (j<i))) gtD:=fun c Hb H x y dx dy d sm rx ry e Q q=>by
 unfold gtD at e
 split at e
 ·cases e
  exact⟨_,_,rx.int,ry.int,q _ Hb H (Nw.refl sm) (.bl _)⟩
 ·cases e
def leD:D→D→Option D
 | .int i,.int j=>some (.bool (decide (i≤j)))
 | .list a,.list b=>if PySem.W.alike (.list a) (.list b)&&vq a&&vq b&&decide ((PyData.list a).depth≤64) then some (.bool (!PySem.W.dataLt (.list b) (.list a))) else none
 | _,_=>none
def geD:D→D→Option D
 | .int i,.int j=>some (.bool (decide (j≤i)))
 | _,_=>none
theorem agY:RfO (rI0 fun i j=>.bl (decide (j≤i))) geD:=fun c Hb H x y dx dy d sm rx ry e Q q=>by
 unfold geD at e
 split at e
 ·cases e
  exact⟨_,_,rx.int,ry.int,q _ Hb H (Nw.refl sm) (.bl _)⟩
 ·cases e
def jD(K:PySem.W.Frag)(neg:Bool):R2:=fun x y H Q=>∃d ds,Dp K H x d∧(Dp K H y (.list ds)∨Dp K H y (.tuple ds))∧SeqAt.shaped d=true∧PyData.canLayAll0 ds=true∧Q (.bl (if neg then !(ds.any fun z=>PyData.eqv z d) else ds.any fun z=>PyData.eqv z d)) H
theorem IA{A:Around}{d:D}{n:Nat}(h:SeqAt.shaped d=true)(hu:A.units+65<cLine):A.units+1+min n d.depth<cLine:=by
 have h1:=SeqAt.depth_of_shaped h
 have h2:min n d.depth≤d.depth:=Nat.min_le_right _ _
 omega
theorem wn{X:Cx}(hu:X.A.units+65<cLine):OpR X (compareOp .In) (jD X.K false):=fun pins s σ H x y v u Q I rx ry ⟨d,ds,hd,he,sd,se,q⟩=>by
 obtain⟨as,r1⟩:=Dp.reads I d x v hd rx
 rcases he with he | he
 ·obtain⟨bs,r2⟩:=Dp.reads I (.list ds) y u he ry
  exact SeqAt.in_list_reads r2 r1 se (SeqAt.canLay_of_shaped sd) (IA sd hu) ⟨.bl _,H,I,rfl,q⟩
 ·obtain⟨bs,r2⟩:=Dp.reads I (.tuple ds) y u he ry
  exact SeqAt.in_tuple_reads r2 r1 se (SeqAt.canLay_of_shaped sd) (IA sd hu) ⟨.bl _,H,I,rfl,q⟩
theorem vR{X:Cx}(hu:X.A.units+65<cLine):OpR X (compareOp .NotIn) (jD X.K true):=fun pins s σ H x y v u Q I rx ry ⟨d,ds,hd,he,sd,se,q⟩=>by
 obtain⟨as,r1⟩:=Dp.reads I d x v hd rx
 rcases he with he | he
 ·obtain⟨bs,r2⟩:=Dp.reads I (.list ds) y u he ry
  exact SeqAt.notIn_list_reads r2 r1 se (SeqAt.canLay_of_shaped sd) (IA sd hu) ⟨.bl _,H,I,rfl,q⟩
 ·obtain⟨bs,r2⟩:=Dp.reads I (.tuple ds) y u he ry
  exact SeqAt.notIn_tuple_reads r2 r1 se (SeqAt.canLay_of_shaped sd) (IA sd hu) ⟨.bl _,H,I,rfl,q⟩
def inL(neg:Bool)(d:D)(ds:List D):Option D:=if dOk d&&vq ds&&PyData.canLayAll0 ds then some (.bool (if neg then !(ds.any fun z=>PyData.eqv z d) else ds.any fun z=>PyData.eqv z d)) else none
def inD(neg:Bool)(d e:D):Option D:=(y9 e).bind fun ds=>inL neg d ds
theorem yR{K:PySem.W.Frag}{neg:Bool}:RfO (jD K neg) (inD neg):=fun c Hb H x y dx dy d sm rx ry e Q q=>by
 obtain⟨ds,e1,e⟩:=zo e
 unfold inL at e
 split at e
 ·rename_i h
  simp only[Bool.and_eq_true] at h
  cases e
  obtain⟨a1,a2⟩:=VQ h.1.1
  refine⟨dx,ds,Rp.dp _ _ a1 (rx.rp sm),?_,a2,h.2,q _ Hb H (Nw.refl sm) (.bl _)⟩
  rcases ww e1 with z | z
  ·subst z;exact .inl (Rp.dp _ _ (by simpa[vf] using h.1.2) (ry.rp sm))
  ·subst z;exact .inr (Rp.dp _ _ (by simpa[vf] using h.1.2) (ry.rp sm))
 ·cases e
def ixD:D→D→Option D
 | .list ds,.int i=>atI ds i
 | .tuple ds,.int i=>atI ds i
 | _,_=>none
def v9(K:PySem.W.Frag):R2:=fun x y H Q=>rIxL K x y H Q∨rIxT K x y H Q
theorem yW{X:Cx}:IxR X (v9 X.K):=ix_list.or ix_tup
theorem abG{Hb:Hp}{xs:List V}{ds:List D}{i:Int}{d:D}(r:RpL Hb xs ds)(e:atI ds i=some d):∃v,atI xs i=some v∧Rp Hb v d:=by
 unfold atI at e ⊢
 obtain⟨j,e1,e2⟩:=zo e
 obtain⟨v,hv,rv⟩:=r.get j e2
 exact⟨v,by rw[r.length,e1];exact hv,rv⟩
theorem yj{K:PySem.W.Frag}:RfO (v9 K) ixD:=fun c Hb H x y dx dy d sm rx ry e Q q=>by
 unfold ixD at e
 split at e
 ·obtain⟨p,xs,rfl,h1,h2⟩:=rx.list sm
  obtain⟨v,hv,rv⟩:=abG h2 e
  exact .inl ⟨p,xs,_,v,rfl,ry.int,SqL.of h1,hv,q v Hb H (Nw.refl sm) rv⟩
 ·obtain⟨p,xs,rfl,h1,h2⟩:=rx.tuple
  obtain⟨v,hv,rv⟩:=abG h2 e
  exact .inr ⟨p,xs,_,v,rfl,ry.int,h1.sq sm,hv,q v Hb H (Nw.refl sm) rv⟩
 ·cases e
def wx:List D→Option D
 | [.list ds]=>some (.int (ds.length:Nat))
 | [.tuple ds]=>some (.int (ds.length:Nat))
 | _=>none
theorem JT{K:PySem.W.Frag}:RfC (fun xs H Q=>∃p ys,xs=[.ref p]∧(SqL K H p ys∨SqT K H p ys)∧Q (.int ys.length) H) wx:=fun c Hb H xs ds d sm r e Q q=>by
 unfold wx at e
 split at e
 ·cases e
  cases r with
  | cons r1 rr =>
   cases rr
   obtain⟨p,ys,rfl,h1,h2⟩:=r1.list sm
   exact⟨p,ys,rfl,.inl (SqL.of h1),by rw[h2.length];exact q _ Hb H (Nw.refl sm) (.int _)⟩
 ·cases e
  cases r with
  | cons r1 rr =>
   cases rr
   obtain⟨p,ys,rfl,h1,h2⟩:=r1.tuple
   exact⟨p,ys,rfl,.inr (h1.sq sm),by rw[h2.length];exact q _ Hb H (Nw.refl sm) (.int _)⟩
 ·cases e
def yq:List D→Option D
 | [.list ds]=>some (.tuple ds)
 | [.tuple ds]=>some (.tuple ds)
 | _=>none
theorem yo{K:PySem.W.Frag}:RfC (agw K) yq:=fun c Hb H xs ds d sm r e Q q=>by
 unfold yq at e
 split at e
 ·cases e
  cases r with
  | cons r1 rr =>
   cases rr
   obtain⟨p,ys,rfl,h1,h2⟩:=r1.list sm
   refine⟨p,ys,rfl,.inl ⟨SqL.of h1,fun l od hl hd=>?_⟩⟩
   have w:=Nw.new (o:=.frz od (.tup ys)) sm hl
   exact q _ _ _ w (.tup upd_same hd (h2.same w.b))
 ·cases e
  cases r with
  | cons r1 rr =>
   cases rr
   obtain⟨p,ys,rfl,h1,h2⟩:=r1.tuple
   exact⟨p,ys,rfl,.inr ⟨h1.sq sm,q _ Hb H (Nw.refl sm) (.tp h1 h2)⟩⟩
 ·cases e
def VR:List D→Option (List D)
 | [d]=>y9 d
 | _=>none
theorem aej{K:PySem.W.Frag}:agO (fun xs H Q=>∃p ys,xs=[.ref p]∧(SqL K H p ys∨SqT K H p ys)∧∀l,H l=none→Q (.ref l) (upd H l (.lst ys))) VR:=fun c Hb H xs ds es sm r e Q q=>by
 unfold VR at e
 split at e
 ·cases r with
  | cons r1 rr =>
   cases rr
   rcases ww e with z | z
   ·subst z
    obtain⟨p,ys,rfl,h1,h2⟩:=r1.list sm
    exact⟨p,ys,rfl,.inl (SqL.of h1),fun l hl=>q l _ Hb _ (Nw.newOwn sm hl) hl upd_same (sm.free hl) h2⟩
   ·subst z
    obtain⟨p,ys,rfl,h1,h2⟩:=r1.tuple
    exact⟨p,ys,rfl,.inr (h1.sq sm),fun l hl=>q l _ Hb _ (Nw.newOwn sm hl) hl upd_same (sm.free hl) h2⟩
 ·cases e
def Vn:List D→Option (List Bool)
 | []=>some []
 | .bool b::r=>(Vn r).bind fun bs=>some (b::bs)
 | _=>none
theorem GB{H:Hp}:∀ {ds:List D} {bs:List Bool} {xs:List V},Vn ds=some bs→RpL H xs ds→xs=bs.map V.bl
 | [],_,_,e,.nil=>by cases e;rfl
 | .bool b::r,_,_,e,.cons h t=>by
  obtain⟨bs,e1,e2⟩:=zo (show(Vn r).bind (fun bs=>some (b::bs))=some _ from e)
  cases e2
  cases h
  rw[GB e1 t];rfl
 | .none::r,_,_,e,_=>by cases e
 | .int _::r,_,_,e,_=>by cases e
 | .str _::r,_,_,e,_=>by cases e
 | .list _::r,_,_,e,_=>by cases e
 | .tuple _::r,_,_,e,_=>by cases e
 | .dict _::r,_,_,e,_=>by cases e
def agZ:List D→Option D
 | [.list ds]=>(Vn ds).bind fun bs=>some (.bool (bs.all id))
 | _=>none
def ah0:List D→Option D
 | [.list ds]=>(Vn ds).bind fun bs=>some (.bool (bs.any id))
 | _=>none
theorem afP{K:PySem.W.Frag}:RfC (rAny K) ah0:=fun c Hb H xs ds d sm r e Q q=>by
 unfold ah0 at e
 split at e
 ·obtain⟨bs,e1,e2⟩:=zo e
  cases e2
  cases r with
  | cons r1 rr =>
   cases rr
   obtain⟨p,ys,rfl,h1,h2⟩:=r1.list sm
   rw[GB e1 h2] at h1
   exact⟨p,bs,rfl,SqL.of h1,q _ Hb H (Nw.refl sm) (.bl _)⟩
 ·cases e
def J5:List D→Option D
 | [.int i]=>some (.int i)
 | [.bool b]=>some (.int (if b then 1 else 0))
 | _=>none
theorem Jk:RfC (fun xs H Q=>(∃i,xs=[.int i]∧Q (.int i) H)∨∃k,xs=[.bl k]∧Q (.int (if k then 1 else 0)) H) J5:=fun c Hb H xs ds d sm r e Q q=>by
 unfold J5 at e
 split at e
 ·cases e
  cases r with
  | cons r1 rr=>cases rr;exact .inl ⟨_,by rw[r1.int],q _ Hb H (Nw.refl sm) (.int _)⟩
 ·cases e
  cases r with
  | cons r1 rr=>cases rr;exact .inr ⟨_,by rw[r1.bool],q _ Hb H (Nw.refl sm) (.int _)⟩
 ·cases e
end
end KP
namespace KP
open PySem PySem.Spec PyProof.Rows L2
variable [TheW]
def acz(K:PySem.W.Frag):List V→Hp→VK→Prop:=fun xs H Q=>∃x d,xs=[x]∧Dp K H x d∧d.showable=true∧SeqAt.shaped d=true∧d.shown.length≤sizeLine∧Q (.str d.shown) H
theorem Zw{X:Cx}(hg:X.A.guards=some [])(hu:X.A.units+100<cLine):CallR X (.builtin "repr") (acz X.K):=by
 intro pins s σ H xs us Q I r h
 obtain⟨x,d,rfl,hd,hs,sh,hz,q⟩:=h
 cases r with
 | cons r rr =>
  cases rr
  have big:∀ {a:Addr} (rd:∃as,Reads s.heap (.ref a) d as),wpAny (model X.prog X.w) X.A (call (.builtin "repr") [.ref a]) (EP X pins σ Q) X.xe s:=fun {a} ⟨as,rd⟩=>by
   have hdp:=SeqAt.depth_of_shaped sh
   exact PySem.repr_of_reads' rd hs (PyData.noDict_hsm (PyData.hasDict_of_canLay d (SeqAt.canLay_of_shaped sh))) hg (by omega) (fun _ _ e=>e) (fun h' u tk hk=>⟨.str d.shown,H,I.kept hk,⟨u,rfl⟩,q⟩) hz
  obtain⟨as,rd⟩:=Dp.reads I d x _ hd r
  cases hd with
  | non=>cases r;exact PySem.P.repr_of_none ⟨.str "None",H,I.tok _,⟨_,rfl⟩,q⟩
  | bl b=>cases r;exact PySem.P.repr_of_bool ⟨.str (PyData.shown (.bool b)),H,I.tok _,⟨_,rfl⟩,q⟩
  | int i =>
   obtain⟨t,rfl⟩:=r
   exact PySem.P.repr_of_int (by simpa[PyData.showable] using hs) ⟨.str (PyData.shown (.int i)),H,I.tok _,⟨_,rfl⟩,q⟩
  | str i =>
   obtain⟨t,rfl⟩:=r
   exact PySem.P.repr_of_str ⟨.str (PyData.shown (.str i)),H,I.tok _,⟨_,rfl⟩,q⟩ hz
  | lst _ _=>cases r;exact big ⟨as,rd⟩
  | tup _ _=>cases r;exact big ⟨as,rd⟩
def YF:List D→Option D
 | [d]=>if d.showable&&dOk d&&decide (d.shown.length≤sizeLine) then some (.str d.shown) else none
 | _=>none
theorem W3{K:PySem.W.Frag}:RfC (acz K) YF:=fun c Hb H xs ds d sm r e Q q=>by
 unfold YF at e
 split at e
 ·split at e
  ·rename_i h
   simp only[Bool.and_eq_true,decide_eq_true_eq] at h
   cases e
   cases r with
   | cons r1 rr =>
    cases rr
    obtain⟨a1,a2⟩:=VQ h.1.2
    exact⟨_,_,rfl,Rp.dp _ _ a1 (r1.rp sm),h.1.1,a2,h.2,q _ Hb H (Nw.refl sm) (.str _)⟩
  ·cases e
 ·cases e
section
variable {prog:Program} {w:World} {A:Around} {E:Value→Shared→Prop} {s:Shared}
theorem aal{l:Addr}{vs:List Value}{Q:List Value→Shared→Prop}(hl:IsTup s.heap l vs.toArray)
  (h:Q vs { s with heap:=(s.heap.push (seqObj "list" #[] 0)).update s.heap.objs.size (Obj.mapSeq (· ++ vs.toArray)) }) (hsz:vs.length≤sizeLine) :
  wpAny (model prog w) A (collect (.ref l)) Q E s:=by
 obtain⟨o,ho,hc,n,hd⟩:=id hl
 unfold collect
 refine wpAny_bind (wpAny_runValue (codeAny_builtin entry_proto_collect' ?_))
 show wpAny _ _ (do again (.builtin "list.__iadd__" ⟨[←newList [],.ref l],[]⟩)) _ _ s
 refine wpAny_bind (wpAny_newList (wpAny_pure ⟨Code.quiet_builtin _ (by decide +kernel),codeAny_builtin entry_list_iadd' ?_⟩))
 show wpAny _ _ (Builtin.List.listExtendWith (.ref s.heap.objs.size) (.ref l) (.ref s.heap.objs.size)) _ _ { s with heap:=s.heap.push (seqObj "list" #[] 0) }
 unfold Builtin.List.listExtendWith
 have ho':(s.heap.push (seqObj "list" #[] 0)).get? l=some o:=Heap.get?_push_of_some _ ho
 refine wpAny_bind (wpAny_typeOf (T := "tuple") ⟨o,ho',hc⟩ ?_)
 rw[if_pos (by rw[Bool.or_eq_true];exact .inr (by rfl))]
 refine wpAny_bind (listItems_at ho' hd ?_)
 refine wpAny_bind (listItems_at (xs := #[]) (n:=0) (Heap.get?_push_size _ rfl) rfl ?_)
 rw[if_neg (by simp)]
 refine wpAny_bind (listUpdate_at (xs := #[]) (n:=0) (Heap.get?_push_size _ rfl) rfl ?_ (Nat.zero_le _) (by show(#[]++vs.toArray).size≤sizeLine+1;simp only[Array.size_append,List.size_toArray,List.length_nil];omega))
 refine wpAny_pure ?_
 show wpAny (model prog w) A (load s.heap.objs.size >>= _) Q E { s with heap:=(s.heap.push (seqObj "list" #[] 0)).update s.heap.objs.size (Obj.mapSeq (· ++ vs.toArray)) }
 refine wpAny_bind (wpAny_load (get?_update_seq (Heap.get?_push_size _ rfl) _) ?_)
 show wpAny _ _ (pure ((#[]:Array Value)++vs.toArray).toList) Q E _
 rw[show((#[]:Array Value)++vs.toArray).toList=vs by simp]
 exact wpAny_pure h
open PySem.W in
theorem aam{x:Value}{vs:List Value}{κ:PyProof.Rows.KeyKind}{Q:Value→Shared→Prop}
  (col:∀(A':Around) (E':Value→Shared→Prop) (Q':List Value→Shared→Prop),Q' vs { s with heap:=(s.heap.push (seqObj "list" #[] 0)).update s.heap.objs.size (Obj.mapSeq (· ++ vs.toArray)) }→wpAny (model prog w) A' (collect x) Q' E' s)
  (S:SortsAt prog w A.in1.in1 { s with heap:=sortingHeap (copyHeap s.heap vs) (s.heap.objs.size+1) vs } κ vs) (hL:vs.length≤sizeLine)
  (h:Q (.ref (s.heap.objs.size+1)) { s with heap:=sortedAll s.heap vs (sortVals κ false vs vs).toArray }):wpAny (model prog w) A (call (.builtin "sorted") [x]) Q E s:=by
 refine call_function_entry_kw kind_sorted plain_sorted entry_sorted (args_sorted1 _) ?_
 unfold Builtin.«sorted»
 refine wpAny_bind (m:=checkCount "sorted" 1 1 _) (wpAny_pure (wpAny_bind (col _ _ _ (wpAny_bind (wpAny_newList ?_ hL)))))
 have hsz:((s.heap.push (seqObj "list" #[] 0)).update s.heap.objs.size (Obj.mapSeq (· ++ vs.toArray))).objs.size=s.heap.objs.size+1:=by
  rw[Heap.size_update,size_push']
 show wpAny _ _ _ _ _ { s with heap:=copyHeap s.heap vs }
 rw[hsz]
 refine wpAny_bind (wpAny_holding (wpAny_call_entry_kw slot_list_sort ⟨_,copyHeap_at s.heap vs,rfl⟩ entry_list_sort ?body (args_list_sort _)))
 case body =>
  show wpAny (model prog w) A.in1.in1 (Builtin.«list.sort» ⟨[.ref (s.heap.objs.size+1)],[]⟩) _ _ _
  refine wpAny_mono (list_sort_vals (P:=fun f s'=>f=.done (.ret .none)∧Q (.ref (s.heap.objs.size+1)) s') (s:={ s with heap:=copyHeap s.heap vs }) (copyHeap_at s.heap vs) S hL ⟨rfl,h⟩) (fun f s' hf=>?_) fun _ _ e=>e
  obtain⟨rfl,hq⟩:=hf
  exact⟨_,rfl,wpAny_pure ⟨_,rfl,hq⟩⟩
end
def Vf(a b:D):Bool:=PySem.W.dataLe false (fun d:D=>d) a b
def wq(ds:List D):List D:=ds.mergeSort Vf
def abH(ds:List D):Bool:=ds.all fun a=>ds.all fun b=>PySem.W.alike a b
def ah1(d:D):Bool:=match d with
 | .tuple (_::_)=>true
 | _=>false
def afQ(d:D):Bool:=match d with
 | .tuple _=>false
 | .none=>false
 | _=>true
def Ja(ds:List D):Bool:=abH ds&&(ds.all ah1||ds.all afQ)&&ds.all fun d=>decide (d.depth≤64)
theorem aan{ds:List D}(h:Ja ds=true):PySem.W.AllAlike ds∧PySem.W.Sortable ds∧∀d∈ds,d.depth≤64:=by
 simp only[Ja,abH,Bool.and_eq_true,Bool.or_eq_true,List.all_eq_true,decide_eq_true_eq] at h
 obtain⟨⟨h1,h2⟩,h3⟩:=h
 refine⟨fun d hd d' hd'=>h1 d hd d' hd',?_,h3⟩
 rcases h2 with h2 | h2
 ·refine .inl fun d hd=>?_
  have:=h2 d hd
  unfold ah1 at this
  split at this
  ·exact⟨_,_,rfl⟩
  ·cases this
 ·refine .inr fun d hd=>?_
  have:=h2 d hd
  unfold afQ at this
  split at this
  ·cases this
  ·cases this
  ·rename_i n1 n2
   exact⟨n2,n1⟩
def GC(xs:List V)(ds:List D):List (V×D):=(xs.zip ds).mergeSort (PySem.W.dataLe false fun p:V×D=>p.2)
theorem adm{xs:List V}{ds:List D}(h:xs.length=ds.length):(GC xs ds).map (·.2)=wq ds:=by
 unfold GC wq
 have z:=List.map_mergeSort (r:=PySem.W.dataLe false fun p:V×D=>p.2) (s:=Vf) (f:=fun p:V×D=>p.2) (l:=xs.zip ds) (fun a _ b _=>rfl)
 rw[z,List.map_snd_zip (by omega)]
theorem ZP{H:Hp}:∀ {xs:List V} {ds:List D},RpL H xs ds→∀p∈xs.zip ds,Rp H p.1 p.2
 | _,_,.nil,p,h=>by simp at h
 | _,_,.cons h1 h2,p,h=>by
  rw[List.zip_cons_cons,List.mem_cons] at h
  rcases h with h | h
  ·subst h;exact h1
  ·exact ZP h2 p h
theorem aek:∀ {H:Hp} {zs:List (V×D)},(∀p∈zs,Rp H p.1 p.2)→RpL H (zs.map (·.1)) (zs.map (·.2))
 | _,[],_=>.nil
 | _,z::zs,h=>.cons (h z List.mem_cons_self) (aek fun p hp=>h p (List.mem_cons_of_mem _ hp))
theorem ael{H:Hp}{xs:List V}{ds:List D}(r:RpL H xs ds):RpL H ((GC xs ds).map (·.1)) (wq ds):=by
 rw[←adm r.length]
 exact aek fun p hp=>ZP r p ((List.mergeSort_perm _ _).mem_iff.mp hp)
def abI(K:PySem.W.Frag):List V→Hp→VK→Prop:=fun vs H Q=>∃(a:Addr) (xs:List V) (ds:List D),vs=[.ref a]∧(SqL K H a xs∨SqT K H a xs)∧DpAll K H xs ds∧Ja ds=true∧xs.length≤sizeLine∧∀p,H p=none→Q (.ref p) (upd H p (.lst ((GC xs ds).map (·.1))))
theorem W4{K:PySem.W.Frag}{H:Hp}:∀ {xs:List V} {ds:List D},DpAll K H xs ds→xs.length=ds.length
 | _,_,.nil=>rfl
 | _,_,.cons _ t=>by simp[W4 t]
open PySem.W in
theorem aao{X:Cx}{pins:List (Addr×Obj)}{σ:L2.St}{H:Hp}{s:Shared}(I:Inv X pins σ H s):∀ {xs:List V} {ds:List D} {us:List Value},DpAll X.K H xs ds→Vals xs us →
  EachIs (fun u (b:V×D)=>RelV b.1 u) us (xs.zip ds)∧EachIs (fun u (b:V×D)=>∃as,Reads s.heap u b.2 as) us (xs.zip ds)
 | [],_,_,.nil,.nil=>⟨.nil,.nil⟩
 | x::xs,d::ds,u::us,.cons h1 h2,.cons r1 r2=>by
  obtain⟨e1,e2⟩:=aao I h2 r2
  exact⟨.cons r1 e1,.cons (Dp.reads I d x u h1 r1) e2⟩
open PySem.W in
theorem GD:∀ {us:List Value} {bs:List (V×D)},EachIs (fun u (b:V×D)=>RelV b.1 u) us bs→Vals (bs.map (·.1)) us
 | [],_,.nil=>.nil
 | _::_,_,.cons h t=>.cons h (GD t)
open PySem.W in
theorem vF{X:Cx}(hu:X.A.units+100<cLine):CallR X (.builtin "sorted") (abI X.K):=by
 intro pins s σ H vs us Q I r h
 obtain⟨a,xs,ds,rfl,hs,hd,ok,hz,q⟩:=h
 rw[Vals.ref1 r]
 obtain⟨hal,hk,hdep⟩:=aan ok
 have hlen:=W4 hd
 -- the values of the list or tuple
 have go:∀(its:List Value),Vals xs its→(∀(A':Around) (E':Value→Shared→Prop) (Q':List Value→Shared→Prop),Q' its { s with heap:=(s.heap.push (seqObj "list" #[] 0)).update s.heap.objs.size (Obj.mapSeq (· ++ its.toArray)) }→wpAny (model X.prog X.w) A' (collect (.ref a)) Q' E' s) →
   wpAny (model X.prog X.w) X.A (call (.builtin "sorted") [.ref a]) (EP X pins σ Q) X.xe s:=fun its rv col=>by
  obtain⟨e,er⟩:=aao I hd rv
  have em:(xs.zip ds).map (fun p:V×D=>p.2)=ds:=List.map_snd_zip (by omega)
  have hal':AllAlike ((xs.zip ds).map fun p:V×D=>p.2):=by rw[em];exact hal
  have hk':Sortable ((xs.zip ds).map fun p:V×D=>p.2):=by rw[em];exact hk
  have er':EachIs (fun v (b:V×D)=>∃as,Reads (sortingHeap (copyHeap s.heap its) (s.heap.objs.size+1) its) v b.2 as) its (xs.zip ds):=er.mono fun _ _ ⟨as,rr⟩=>⟨as,PyProof.Rows.Reads.keeps (fun _ _=>sorting_copy_old) rr⟩
  have hL:its.length≤sizeLine:=by rw[←rv.length];exact hz
  refine aam col (SortsAt.data (s:={ s with heap:=sortingHeap (copyHeap s.heap its) (s.heap.objs.size+1) its }) (each_map (R:=fun v d=>∃as,Reads (sortingHeap (copyHeap s.heap its) (s.heap.objs.size+1) its) v d as) (fun p:V×D=>p.2) er') hal' hk' fun d hd'=>?_) hL ?_
  ·rw[em] at hd'
   have:=hdep d hd'
   show X.A.units+1+1+d.depth<cLine
   omega
  ·have out:=sortVals_data (enc:=fun p:V×D=>p.2) false e er' hal'
   have hlo:=sortVals_length (κ:=dataKind (sortingHeap (copyHeap s.heap its) (s.heap.objs.size+1) its) ((xs.zip ds).map fun p:V×D=>p.2)) false (rfl:its.length=its.length)
   generalize sortVals (dataKind (sortingHeap (copyHeap s.heap its) (s.heap.objs.size+1) its) ((xs.zip ds).map fun p:V×D=>p.2)) false its its=out0 at out hlo ⊢
   obtain⟨ep,he⟩:=sortedAll_at s.heap its out0.toArray
   have rv2:Vals ((GC xs ds).map (·.1)) out0:=GD out
   refine⟨.ref (s.heap.objs.size+1),_,I.laid (t':=s.toks) (o:=.lst ((GC xs ds).map (·.1))) (fun _ _=>sortedAll_old) (Nat.le_succ _) ⟨?_,out0,ep,rv2,he⟩,rfl,q _ (I.hok.fresh (Nat.le_succ _))⟩
   rw[rv2.length,hlo];exact hL
 rcases hs with hs | hs
 ·obtain⟨its,rv,hl,_⟩:=I.list hs
  exact go its rv fun A' E' Q' h'=>collect_list hl.isList h' (by rw[←rv.length];exact hz)
 ·obtain⟨its,rv,hl,_⟩:=I.tuple hs
  exact go its rv fun A' E' Q' h'=>aal hl h' (by rw[←rv.length];exact hz)
def yu:List D→Option (List D)
 | [d]=>(y9 d).bind fun ds=>if Ja ds&&vq ds&&sz ds.length then some (wq ds) else none
 | _=>none
theorem yS{K:PySem.W.Frag}:agO (abI K) yu:=fun c Hb H xs ds es sm r e Q q=>by
 unfold yu at e
 split at e
 ·obtain⟨zs,e1,e⟩:=zo e
  split at e
  ·rename_i h
   simp only[Bool.and_eq_true] at h
   cases e
   cases r with
   | cons r1 rr =>
    cases rr
    have fin:∀(p:Addr) (ys:List V),(SqL K H p ys∨SqT K H p ys)→RpL Hb ys zs→abI K [V.ref p] H Q:=fun p ys h1 h2 =>
     ⟨p,ys,zs,rfl,h1,RpL.dp _ _ h.1.2 (h2.same sm),h.1.1,by rw[h2.length];exact V9 h.2,fun z hz=>q z _ Hb _ (Nw.newOwn sm hz) hz upd_same (sm.free hz) (ael h2)⟩
    rcases ww e1 with z | z
    ·subst z
     obtain⟨p,ys,rfl,h1,h2⟩:=r1.list sm
     exact fin p ys (.inl (SqL.of h1)) h2
    ·subst z
     obtain⟨p,ys,rfl,h1,h2⟩:=r1.tuple
     exact fin p ys (.inr (h1.sq sm)) h2
  ·cases e
 ·cases e
end KP
namespace KP
open PySem PySem.Spec PyProof.Rows L2
variable [TheW]
def agy:Nat→List D→List D
 | _,[]=>[]
 | n,d::ds=>.tuple [.int (n:Nat),d]::agy (n+1) ds
section
variable {Γ:List Fl} {K:PySem.W.Frag}
def aap(f:LF):IF:=fun env g=>(f env g).bind fun p=>match p.1 with
 | [d]=>(y9 d).bind fun ds=>some (agy 0 ds,p.2)
 | _=>none
end
end KP
set_option maxHeartbeats 4000000
namespace KP
open PySem PySem.Spec PyProof.Rows L2
variable [TheW]
def jt:Value→Key
 | .int k _=>.inl k
 | .str x _=>.inr x
 | _=>.inl 0
def Vo(k:Key)(l:List Key):Bool:=l.any fun j=>decide (k=j)
theorem Qj{k:Key}{l:List Key}:Vo k l=true↔k∈l:=by
 simp[Vo,List.any_eq_true]
def GE(w:World)(e:Int×Value):Prop:=∃k:Key,keyIs k e.2=true∧e.1=keyH w k
theorem IB{k:Key}{v:Value}(h:keyIs k v=true):jt v=k:=by
 rcases keyIs_shape h with⟨i,t,rfl,rfl⟩ | ⟨x,t,rfl,rfl⟩ <;> rfl
theorem ZQ{k:Key}{v:Value}(h:keyIs k v=true):v.scannable=true:=by
 rcases keyIs_shape h with⟨i,t,rfl,rfl⟩ | ⟨x,t,rfl,rfl⟩ <;> rfl
def Jl(w:World)(h:Heap)(a:Addr)(S:Key→Bool)(n:Nat):Prop :=
 ∃o es ep t,h.get? a=some o∧o.ExactSet∧o.data=.set es ep t∧(∀e∈es.toList,GE w e)∧(es.toList.map fun e=>jt e.2).Nodup∧(∀k,S k=true↔k∈es.toList.map fun e=>jt e.2) ∧
  es.size<scanBound∧t.fits es.size=true∧es.size=n∧Ris t.place.toList∧(w.params.followText "set-order" = true∨t.led=true)
class Tied (P:Program) (w:World) [TheW]:Prop where
 eq:TheW.hk=(tupleKind (mixKind P w)).hash
 st:TheW.sx=Jl w
@[reducible] def theW (P:Program) (w:World):TheW:=⟨(tupleKind (mixKind P w)).hash,Jl w⟩
theorem tied_the{P:Program}{w:World}:@Tied P w (theW P w):=@Tied.mk P w (theW P w) rfl rfl
section
variable {P:Program} {w:World} {h h':Heap} {a:Addr} {S:Key→Bool} {n:Nat}
theorem Jl.at(R:Jl w h a S n)(k:∀o,h.get? a=some o→h'.get? a=some o):Jl w h' a S n:=by
 obtain⟨o,es,ep,t,ho,r⟩:=R
 exact⟨o,es,ep,t,k o ho,r⟩
theorem Jl.congr{S':Key→Bool}(R:Jl w h a S n)(e:∀k,S' k=S k):Jl w h a S' n:=by
 have q:S'=S:=funext e
 rw[q];exact R
theorem aaq{l:List (Int×Value)}(g:∀e∈l,GE w e):ElemsOf (mixKind P w) l:=fun e he=>by
 obtain⟨k,h1,h2⟩:=g e he
 exact⟨⟨k,h1,h2⟩,ZQ h1⟩
theorem aar{e:Int×Value}(g:GE w e)(k:Key):(mixKind P w).is k e.2=true↔jt e.2=k:=by
 obtain⟨k0,h1,_⟩:=g
 rw[IB h1]
 constructor
 ·intro h2
  exact(mixKind P w).inj e.2 k0 k h1 h2
 ·rintro rfl
  exact h1
theorem GH{l:List (Int×Value)}(g:∀e∈l,GE w e)(k:Key):(k∈l.map fun e=>jt e.2)↔∃e∈l,(mixKind P w).is k e.2=true:=by
 rw[List.mem_map]
 constructor
 ·rintro⟨e,he,q⟩
  exact⟨e,he,(aar (g e he) k).2 q⟩
 ·rintro⟨e,he,q⟩
  exact⟨e,he,(aar (g e he) k).1 q⟩
end
section
variable {P:Program} {w:World} {A:Around} {E:Value→Shared→Prop} {s:Shared} {a:Addr} {S:Key→Bool} {n:Nat}
theorem Wb{g:Bool→Sem Unit}(hg:∀(b:Bool) (s₁:Shared) (Q':Unit→Shared→Prop),Q' () s₁→wpAny (model P w) A (g b) Q' E s₁)
  {o:Obj} {es:Array (Int×Value)} {ep:Nat} {t:SetTable} (ho:s.heap.get? a=some o) (hex:o.ExactSet) (hd:o.data=.set es ep t)
  {es1:Array (Int×Value)} {t2:SetTable} {S':Key→Bool} (g1:∀e∈es1.toList,GE w e) (nd1:(es1.toList.map fun e=>jt e.2).Nodup) (m1:∀k,S' k=true↔k∈es1.toList.map fun e=>jt e.2)
  (hb1:es1.size<scanBound) (hf2:t2.fits es1.size=true) (hr:Ris t2.place.toList) (hl:w.params.followText "set-order" = true∨t2.led=true) {wasDummy:Bool} {R:Option Bool→Shared→Prop}
  (hR:∀h',Heap.SameBut a s.heap h'→Jl w h' a S' es1.size→R (some true) { s with heap:=h' }) :
  wpAny (model P w) A (do
    storeSet a es1 t2
    if(!wasDummy&&t2.tooFull)=true then do
      g (relayAll t2 es1 (SetTable.grown es1.size)).2.2
      storeSet a (relayAll t2 es1 (SetTable.grown es1.size)).1 (relayAll t2 es1 (SetTable.grown es1.size)).2.1
      pure (some true)
     else pure (some true)) R E s:=by
 refine wpAny_bind (wpAny_storeSet_of ho hd ?_ (fits_of_scanBound hb1))
 have ho1:=store_at (es':=es1) (t':=t2) ho hd
 have sb1:=Heap.SameBut.update s.heap a (Obj.putSet es1 t2)
 split
 ·have pm:=relayAll_perm t2 es1 (SetTable.grown es1.size)
  have hf3:=relayAll_fits t2 es1 (SetTable.grown es1.size)
  have hr3:=relayAll_ris t2 es1 (SetTable.grown es1.size)
  have hl3:=relayAll_led t2 es1 (SetTable.grown es1.size)
  generalize relayAll t2 es1 (SetTable.grown es1.size)=Z at pm hf3 hr3 hl3 ⊢
  obtain⟨es2,t3,gave⟩:=Z
  dsimp only at pm hf3 hr3 hl3 ⊢
  have hsz:es2.size=es1.size:=by rw[←Array.length_toList,pm.length_eq,Array.length_toList]
  have hb2:es2.size<scanBound:=by rw[hsz];exact hb1
  refine wpAny_bind (hg _ _ _ ?_)
  refine wpAny_bind (wpAny_storeSet_of ho1 rfl ?_ (fits_of_scanBound hb2))
  have ho2:=store_at (es':=es2) (t':=t3) ho1 rfl
  have pk:=pm.map fun e:Int×Value=>jt e.2
  refine wpAny_pure (hR _ (sb1.trans (Heap.SameBut.update _ a _)) ?_)
  exact⟨_,es2,_,t3,ho2,hex,rfl,fun e he=>g1 e (pm.mem_iff.mp he),pk.nodup_iff.mpr nd1,fun k=>(m1 k).trans pk.mem_iff.symm,hb2,hf3,hsz,hr3,
   hl.imp id fun z=>by rw[hl3];exact z⟩
 ·exact wpAny_pure (hR _ sb1 ⟨_,es1,_,t2,ho1,hex,rfl,g1,nd1,m1,hb1,hf2,rfl,hr,hl⟩)
theorem Zj{k:Key}{v:Value}{Q:Bool→Shared→Prop}(hkey:keyIs k v=true)(R:Jl w s.heap a S n)(room:n+1<scanBound)
  (hQ:∀h',Heap.SameBut a s.heap h'→Jl w h' a (fun j=>S j||decide (j=k)) (if S k=true then n else n+1)→Q (!S k) { s with heap:=h' }) :
  wpAny (model P w) A (setAddHashed a v ((mixKind P w).hash k)) Q E s:=by
 obtain⟨o,es,ep,t,ho,hex,hd,g,nd,hm,hb,hf,hn,hr,hl⟩:=R
 have hkey':(mixKind P w).is k v=true:=hkey
 have hsc:v.scannable=true:=ZQ hkey
 have hel:ElemsOf (mixKind P w) es.toList:=aaq g
 unfold setAddHashed setAddHashedIn
 refine wpAny_holding (wpAny_bind (wpAny_setState_of ho hd hf ?_))
 dsimp only
 rw[byScan_of hsc hb hel]
 simp only[↓reduceIte]
 unfold setAddByScan
 refine wpAny_bind ?_
 refine wpAny_bind (wpAny_rule ?_)
 refine wpAny_bind (wpAny_setScan_of hkey' ho hd hf hel ?_)
 cases hfi:List.findIdx? (fun e=>(mixKind P w).is k e.2) es.toList with
 | some j =>
  dsimp only
  obtain⟨hj,pj,_⟩:=List.findIdx?_eq_some_iff_getElem.mp hfi
  have hSk:S k=true:=(hm k).2 ((GH (P:=P) (w:=w) g k).2 ⟨es.toList[j],List.getElem_mem hj,pj⟩)
  refine wpAny_pure (wpAny_pure ?_)
  have q:=hQ s.heap (Heap.SameBut.refl a s.heap) ⟨o,es,ep,t,ho,hex,hd,g,nd,fun i=>by
   rw[Bool.or_eq_true,decide_eq_true_eq,←hm i]
   exact⟨fun z=>z.elim id (fun e=>e▸hSk),.inl⟩,hb,hf,by rw[if_pos hSk];exact hn,hr,hl⟩
  rw[hSk] at q
  exact q
 | none =>
  dsimp only
  have hnk:k∉es.toList.map fun e=>jt e.2:=fun z=>by
   obtain⟨e,he,q⟩:=(GH (P:=P) (w:=w) g k).1 z
   have c:=List.findIdx?_eq_none_iff.mp hfi e he
   rw[q] at c
   cases c
  have hSk:S k=false:=by
   cases q:S k with
   | false=>rfl
   | true=>exact absurd ((hm k).1 q) hnk
  have hgw:∀(b:Bool) {s₁:Shared} {Q':Unit→Shared→Prop},Q' () s₁→wpAny (model P w) A (match b with | true=>rule "set.scan.the-table-gave-way" | false=>pure ()) Q' E s₁ :=
   fun b s₁ Q' q=>by cases b <;> first | exact wpAny_pure q | exact wpAny_rule q
  have pm:=layNew_perm t es ((mixKind P w).hash k) v
  have hf1:=layNew_fits t es ((mixKind P w).hash k) v
  have hr1:=layNew_ris t es ((mixKind P w).hash k) v hr
  have hl1:=layNew_led t es ((mixKind P w).hash k) v
  generalize layNew t es ((mixKind P w).hash k) v=Z at pm hf1 hr1 hl1 ⊢
  obtain⟨es1,t1,wasDummy,gave⟩:=Z
  dsimp only at pm hf1 hr1 hl1 ⊢
  rw[Array.toList_push] at pm
  have pc:es1.toList.Perm (((mixKind P w).hash k,v)::es.toList):=pm.trans (List.perm_append_singleton _ _)
  have pk:(es1.toList.map fun e=>jt e.2).Perm (k::es.toList.map fun e=>jt e.2):=by
   have:=pc.map fun e:Int×Value=>jt e.2
   rw[List.map_cons,IB hkey] at this
   exact this
  have g1:∀e∈es1.toList,GE w e:=fun e he=>by
   rcases List.mem_cons.mp (pc.mem_iff.mp he) with z | z
   ·rw[z];exact⟨k,hkey,rfl⟩
   ·exact g e z
  have nd1:(es1.toList.map fun e=>jt e.2).Nodup:=pk.nodup_iff.mpr (List.nodup_cons.mpr ⟨hnk,nd⟩)
  have m1:∀i,(S i||decide (i=k))=true↔i∈es1.toList.map fun e=>jt e.2:=fun i=>by
   rw[Bool.or_eq_true,decide_eq_true_eq,hm i,pk.mem_iff,List.mem_cons]
   exact Or.comm
  have hsz:es1.size=n+1:=by rw[←Array.length_toList,pc.length_eq,List.length_cons,Array.length_toList,hn]
  have hb1:es1.size<scanBound:=by rw[hsz];exact room
  have hled:w.params.followText "set-order" = true∨t1.led=true:=hl.imp id fun z=>by rw[hl1];exact z
  have fin:∀h',Heap.SameBut a s.heap h'→Jl w h' a (fun j=>S j||decide (j=k)) es1.size→Q true { s with heap:=h' }:=fun h' sb r=>by
   have q:=hQ h' sb
   rw[hSk] at q
   rw[hsz] at r
   exact q r
  refine wpAny_bind (hgw _ ?_)
  split
  ·refine wpAny_bind ?_
   rw[hashByValue_scannable 8 hsc]
   refine wpAny_pure ?_
   refine Wb ?_ ho hex hd g1 nd1 m1 hb1 ?_ ?_ ?_ ?_
   ·intro b s₁ Q' q;cases b <;> first | exact wpAny_pure q | exact wpAny_rule q
   ·first | (split <;> first | exact hf1 | exact SetTable.fits_plain_off hf1) | exact hf1
   ·first | (split <;> exact hr1) | exact hr1
   ·first | (split <;> exact hled) | exact hled
   ·intro h' sb r;dsimp only;exact wpAny_pure (fin h' sb r)
  ·refine wpAny_bind (wpAny_pure ?_)
   simp only[↓reduceIte]
   refine Wb ?_ ho hex hd g1 nd1 m1 hb1 hf1 hr1 hled ?_
   ·intro b s₁ Q' q;cases b <;> first | exact wpAny_pure q | exact wpAny_rule q
   ·intro h' sb r;dsimp only;exact wpAny_pure (fin h' sb r)
theorem YG{w:World}{h:Heap}{a:Addr}{ns:List Key}(ho:h.get? a=some { cls:=.type "set",dict:=none,data:=.set #[] 0 (.fresh 0 0 (!w.params.followText "set-order")) }):Jl w h a (fun j=>Vo j (ns.take 0)) 0 :=
 ⟨_, #[],0,_,ho,⟨rfl,rfl,rfl⟩,rfl,(fun e he=>by simp at he),(by simp),(fun k=>by simp[Vo]),(by decide),(by rfl),rfl,List.Pairwise.nil,by
  show _∨(!w.params.followText "set-order")=true
  cases w.params.followText "set-order"
  ·exact .inr rfl
  ·exact .inl rfl⟩
theorem QU{I:Addr}{fp wr:List Addr}{G:Array GenState→Array GenState→Prop}{n:Nat}{Pv:Nat→Value→Prop}{St:Nat→Shared→Prop}{R:Result→Shared→Prop}
  (W:WalksS P w A.in1 I fp wr G n Pv St) (S:Addr) (hSf:S∉fp) (ns:List Key) (hn:n=ns.length) (hb:ns.length+1<scanBound) (hval:∀i v,Pv i v→∃k,ns[i]? = some k∧keyIs k v=true) :
  ∀(k i:Nat) (s:Shared),n - i=k→i≤n→St i s→(∃c,c≤i∧Jl w s.heap S (fun j=>Vo j (ns.take i)) c) →
   (∀s' c,Moved (S::wr) G s s'→c≤n→Jl w s'.heap S (fun j=>Vo j ns) c→R (.ok (.ret .none)) s') →
   codeAny (model P w) A (.builtin "set.update.loop" ⟨[.ref S,.ref I],[]⟩) R s:=by
 have hSw:S∉wr:=fun h=>hSf (W.sub _ h)
 have hsub:∀b∈wr,b∈S::wr:=fun b hb=>List.mem_cons_of_mem _ hb
 intro k
 induction k with
 | zero =>
  intro i s hk' hi hst ⟨c,hc,hS⟩ hR
  have hin:i=n:=by omega
  subst hin
  refine codeAny_builtin F.entry_set_update_loop ?_
  rw[Around.under_plainId F.plain_set_update_loop _]
  show wpAny _ A.in1 (pyNext (.ref I) >>= _) _ _ s
  refine wpAny_bind (W.done s _ _ hst fun s' hm=>?_)
  show wpAny _ A.in1 (ret Value.none) _ _ s'
  have e:ns.take i=ns:=List.take_of_length_le (by omega)
  rw[e] at hS
  exact wpAny_pure (hR s' c (hm.mono hsub) hc (hS.at fun o e=>hm.heap S o hSw e))
 | succ k ih =>
  intro i s hk' hi hst ⟨c,hc,hS⟩ hR
  have hlt:i<n:=by omega
  refine codeAny_builtin F.entry_set_update_loop ?_
  rw[Around.under_plainId F.plain_set_update_loop _]
  show wpAny _ A.in1 (pyNext (.ref I) >>= _) _ _ s
  refine wpAny_bind (W.item i s _ _ hlt hst fun v s' hP hst' hm=>?_)
  obtain⟨z,hz,hzk⟩:=hval i v hP
  have hS':Jl w s'.heap S (fun j=>Vo j (ns.take i)) c:=hS.at fun o e=>hm.heap S o hSw e
  show wpAny _ A.in1 (holding [v] (setAdd S v) >>= _) _ _ s'
  refine wpAny_bind (wpAny_holding ?_)
  unfold setAdd
  refine wpAny_holding ?_
  refine wpAny_bind ((mixKind P w).pyHash (k:=z) hzk ?_)
  refine Zj (s:={ s' with toks:=s'.toks+1 }) hzk hS' (by omega) fun h' hsb hS2=>?_
  have hS3:Jl w h' S (fun j=>Vo j (ns.take (i+1))) (if Vo z (ns.take i)=true then c else c+1):=hS2.congr fun j=>by
   rw[List.take_add_one,hz]
   simp[Vo,List.any_append]
  have hc3:(if Vo z (ns.take i)=true then c else c+1)≤i+1:=by
   split <;> omega
  refine wpAny_pure ⟨plainId_quiet F.plain_set_update_loop _,ih (i+1) _ (by omega) hlt (W.frame _ s' _ _ hst' (Nat.le_succ _) fun b hb o e=>?_) ⟨_,hc3,hS3⟩ fun s'' c2 hm'' hc'' hS''=>?_⟩
  ·rw[hsb.2 b (fun h:b=S=>hSf (by rw[←h];exact hb))];exact e
  ·refine hR s'' c2 (Moved.trans W.gtrans ((hm.mono hsub).then_heap (Nat.le_succ _) fun b o hb e=>?_) hm'') hc'' hS''
   rw[hsb.2 b (fun h:b=S=>hb (by rw[h];exact List.mem_cons_self))];exact e
theorem Wc{l:Addr}{items:Array Value}(ns:List Key){Q:Value→Shared→Prop}(hh:A.handled=none)(hl:s.heap.IsList l items∨s.heap.IsTuple l items)(hisz:items.size=ns.length)(hit:∀(i:Nat) (v:Value),items[i]? = some v→∃k,ns[i]? = some k∧keyIs k v=true)(hb:ns.length+1<scanBound)
  (h:∀(h':Heap) (tk c:Nat),Jl w h' s.heap.objs.size (fun j=>Vo j ns) c→c≤ns.length→(∀b o,s.heap.get? b=some o→h'.get? b=some o)→Q (.ref s.heap.objs.size) { s with heap:=h',toks:=tk }) :
  wpAny (model P w) A (call (.type "set") [.ref l]) Q E s:=by
 obtain⟨c,tl,hmro⟩:=F.called_set.mro
 have hmade:=F.called_set.made
 have hsub:=F.called_set.sub
 refine wpAny_call (codeAny_of_tree ?_)
 show wpAny _ _ (callAny (.type "set") _) _ _ _
 refine wpAny_pure ⟨Code.quiet_builtin _ (by decide +kernel),codeAny_builtin F.entry_type_call ?_⟩
 rw[Around.under_plain (weight_type_call_type "set" [.ref l] []) rfl]
 have h1:=F.called_set.notType
 have h2:=F.called_set.canCreate
 have hct:=F.typeCall_set_1 (.ref l)
 repeat (any_goals (first | assumption | wp_step))
 refine codeAny_mono (code_set_led1 (.ref l) (E:=E) (Q₁:=fun obj s₁=>obj=.ref s.heap.objs.size∧s₁={ s with heap:=s.heap.push { cls:=.type "set",dict:=none,data:=.set #[] 0 (.fresh 0 0 (!w.params.followText "set-order")) } }) ⟨rfl,rfl⟩) fun r s₁ hr=>?_
 cases r with
 | error e=>exact hr
 | ok fl =>
  cases fl with
  | ret obj =>
   obtain⟨rfl,rfl⟩:=hr
   have hS:(s.heap.push { cls:=.type "set",dict:=none,data:=.set #[] 0 (.fresh 0 0 (!w.params.followText "set-order")) }).get? s.heap.objs.size=some { cls:=.type "set",dict:=none,data:=.set #[] 0 (.fresh 0 0 (!w.params.followText "set-order")) }:=Heap.get?_push_size _ rfl
   have hT:Shared.TypeIs { s with heap:=s.heap.push { cls:=.type "set",dict:=none,data:=.set #[] 0 (.fresh 0 0 (!w.params.followText "set-order")) } } (.ref s.heap.objs.size) "set" := ⟨_,hS,rfl⟩
   have hli:=F.called_set.init.lookup
   have hbi:=F.called_set.init.bind (.ref s.heap.objs.size)
   repeat (any_goals (first | assumption | wp_step))
   refine codeAny_mono (codeAny_call_builtin (R:=wants (fun r s₂=>r=.none∧∃h' tk c,s₂={ s with heap:=h',toks:=tk }∧Jl w h' s.heap.objs.size (fun j=>Vo j ns) c∧c≤ns.length ∧
     (∀b o,s.heap.get? b=some o→h'.get? b=some o)) E) F.called_set.init.plain F.entry_set_init (check_set_init_1 hT ?_)) fun r₂ s₂ hr₂=>?_
   ·have hh3:A.in1.in1.in1.handled=none:=by simp[hh]
    have hlS:l<s.heap.objs.size:=by
     rcases hl with hl | hl
     ·obtain⟨ol,hol,_⟩:=hl;exact Heap.lt_size hol
     ·obtain⟨ol,hol,_⟩:=hl;exact Heap.lt_size hol
    have hneI:l≠(s.heap.push { cls:=.type "set",dict:=none,data:=.set #[] 0 (.fresh 0 0 (!w.params.followText "set-order")) }).objs.size:=by
     rw[Heap.size_push];exact Nat.ne_of_lt (Nat.lt_succ_of_lt hlS)
    have hSf:s.heap.objs.size∉[(s.heap.push { cls:=.type "set",dict:=none,data:=.set #[] 0 (.fresh 0 0 (!w.params.followText "set-order")) }).objs.size,l]:=by
     rw[Heap.size_push];simp only[List.mem_cons,List.mem_singleton,List.not_mem_nil,or_false,not_or]
     exact⟨Nat.ne_of_lt (Nat.lt_succ_self _),Nat.ne_of_gt hlS⟩
    have fin:∀(ob:Obj) {R':Result→Shared→Prop},(∀s' c,Moved [s.heap.objs.size,(s.heap.push { cls:=.type "set",dict:=none,data:=.set #[] 0 (.fresh 0 0 (!w.params.followText "set-order")) }).objs.size] (fun a b=>b=a) { s with heap:=((s.heap.push { cls:=.type "set",dict:=none,data:=.set #[] 0 (.fresh 0 0 (!w.params.followText "set-order")) }).push ob) } s'→c≤items.size→Jl w s'.heap s.heap.objs.size (fun j=>Vo j ns) c →
      ∃h' tk c,s'={ s with heap:=h',toks:=tk }∧Jl w h' s.heap.objs.size (fun j=>Vo j ns) c∧c≤ns.length∧(∀b o,s.heap.get? b=some o→h'.get? b=some o)):=by
     intro ob R' s' c' hm hc' hS'
     obtain⟨h',g2,d',tk',os'⟩:=s'
     have eg:g2=s.gens:=hm.gens
     have ed:d'=s.drawn:=hm.drawn
     have eo:os'=s.os:=hm.os
     subst eg;subst ed;subst eo
     rw[hisz] at hc'
     refine⟨h',tk',c',rfl,hS',hc',fun b o e=>?_⟩
     have hb0:b<s.heap.objs.size:=Heap.lt_size e
     have hb1:b≠s.heap.objs.size:=Nat.ne_of_lt hb0
     have hb2:b≠(s.heap.push { cls:=.type "set",dict:=none,data:=.set #[] 0 (.fresh 0 0 (!w.params.followText "set-order")) }).objs.size:=by
      rw[Heap.size_push];exact Nat.ne_of_lt (Nat.lt_succ_of_lt hb0)
     exact hm.heap b o (by simp only[List.mem_cons,List.mem_singleton,List.not_mem_nil,or_false,not_or];exact⟨hb1,hb2⟩) (Heap.get?_push_of_some _ (Heap.get?_push_of_some _ e))
    rcases hl with hl | hl
    ·obtain⟨ol,hol,hcl,nl,hdl⟩:=hl
     obtain⟨ocls,odict,odata,oslots⟩:=ol
     simp only at hcl hdl
     subst hcl;subst hdl
     have hol':(s.heap.push { cls:=.type "set",dict:=none,data:=.set #[] 0 (.fresh 0 0 (!w.params.followText "set-order")) }).get? l=some { cls:=.type "list",dict:=odict,data:=.seq items nl,slots:=oslots }:=Heap.get?_push_of_some _ hol
     have hsls:=F.sub_list_set
     have hslf:=F.sub_list_frozenset
     have hne:(Value.type "list" == Value.type "dict")=false:=by decide
     have hl1:(s.heap.push { cls:=.type "set",dict:=none,data:=.set #[] 0 (.fresh 0 0 (!w.params.followText "set-order")) }).IsList l items:=⟨_,hol',rfl,nl,rfl⟩
     unfold Builtin.«set.__init__» noKeywords Builtin.Frozenset.updateFrom
     generalize hPI:pyIter=PI
     wp_walk
     subst hPI
     refine wpAny_pyIter_list hl1 ?_
     refine wpAny_bind (wpAny_runValue ?_)
     refine QU ((Walks.list hh3 _ l hneI items).toS) s.heap.objs.size
      hSf ns hisz hb hit (items.size - 0) 0 _ (by omega) (Nat.zero_le _)
      ⟨⟨_,Heap.get?_push_size _ rfl,rfl,rfl⟩,(hl1.push _)⟩ ?hS0 ?hR
     case hS0 =>
      have hget:((s.heap.push { cls:=.type "set",dict:=none,data:=.set #[] 0 (.fresh 0 0 (!w.params.followText "set-order")) }).push { cls:=.type "list_iterator",data:=.fields #[.ref l,.int 0 0] }).get? s.heap.objs.size
        = some { cls:=.type "set",dict:=none,data:=.set #[] 0 (.fresh 0 0 (!w.params.followText "set-order")) }:=Heap.get?_push_of_some _ hS
      exact⟨0,Nat.le_refl 0,YG hget⟩
     case hR =>
      intro s' c' hm hc' hS'
      have z:=fin _ (R':=fun _ _=>True) s' c' hm hc' hS'
      refine wpAny_pure ?_
      show wpAny _ _ (ret Value.none) _ _ _
      exact wpAny_pure ⟨rfl,z⟩
    ·obtain⟨ol,hol,hcl,nl,hdl⟩:=hl
     obtain⟨ocls,odict,odata,oslots⟩:=ol
     simp only at hcl hdl
     subst hcl;subst hdl
     have hol':(s.heap.push { cls:=.type "set",dict:=none,data:=.set #[] 0 (.fresh 0 0 (!w.params.followText "set-order")) }).get? l=some { cls:=.type "tuple",dict:=odict,data:=.seq items nl,slots:=oslots }:=Heap.get?_push_of_some _ hol
     have hsls:=F.sub_tuple_set
     have hslf:=F.sub_tuple_frozenset
     have hne:(Value.type "tuple" == Value.type "dict")=false:=by decide
     have hl1:(s.heap.push { cls:=.type "set",dict:=none,data:=.set #[] 0 (.fresh 0 0 (!w.params.followText "set-order")) }).IsTuple l items:=⟨_,hol',rfl,nl,rfl⟩
     unfold Builtin.«set.__init__» noKeywords Builtin.Frozenset.updateFrom
     generalize hPI:pyIter=PI
     wp_walk
     subst hPI
     refine wpAny_pyIter_tuple hl1 ?_
     refine wpAny_bind (wpAny_runValue ?_)
     refine QU ((Walks.tuple hh3 _ l hneI items).toS) s.heap.objs.size
      hSf ns hisz hb hit (items.size - 0) 0 _ (by omega) (Nat.zero_le _)
      ⟨⟨_,Heap.get?_push_size _ rfl,rfl,rfl⟩,(hl1.push _)⟩ ?hS0 ?hR
     case hS0 =>
      have hget:((s.heap.push { cls:=.type "set",dict:=none,data:=.set #[] 0 (.fresh 0 0 (!w.params.followText "set-order")) }).push { cls:=.type "tuple_iterator",data:=.fields #[.ref l,.int 0 0] }).get? s.heap.objs.size
        = some { cls:=.type "set",dict:=none,data:=.set #[] 0 (.fresh 0 0 (!w.params.followText "set-order")) }:=Heap.get?_push_of_some _ hS
      exact⟨0,Nat.le_refl 0,YG hget⟩
     case hR =>
      intro s' c' hm hc' hS'
      have z:=fin _ (R':=fun _ _=>True) s' c' hm hc' hS'
      refine wpAny_pure ?_
      show wpAny _ _ (ret Value.none) _ _ _
      exact wpAny_pure ⟨rfl,z⟩
   ·cases r₂ with
    | error e=>exact hr₂
    | ok fl₂ =>
     cases fl₂ with
     | ret r =>
      obtain⟨rfl,h',tk,c',rfl,hS',hc',hk'⟩:=hr₂
      repeat (any_goals (first | assumption | wp_step))
      exact h _ _ _ hS' hc' hk'
     | _=>exact hr₂.elim
  | _=>exact hr.elim
end
end KP
set_option maxHeartbeats 4000000
namespace KP
open PySem PySem.Spec PyProof.Rows L2
variable [TheW]
def dV:D→V
 | .int i=>.int i
 | .str x=>.str x
 | _=>.non
def vV:D→Option Key
 | .int i=>some (.inl i)
 | .str x=>some (.inr x)
 | _=>none
def YH:List D→Option (List Key)
 | []=>some []
 | d::ds=>(vV d).bind fun k=>(YH ds).bind fun ks=>some (k::ks)
theorem wL{d:D}{k:Key}(h:vV d=some k):d=kD k:=by
 cases d <;> simp[vV] at h <;> subst h <;> rfl
theorem JA:∀ {ds:List D} {ks:List Key},YH ds=some ks→ds=ks.map kD
 | [],_,h=>by cases h;rfl
 | d::ds,_,h=>by
  obtain⟨k,e1,h⟩:=zo (show(vV d).bind _=some _ from h)
  obtain⟨ks,e2,h⟩:=zo h
  cases h
  rw[wL e1,JA e2];rfl
theorem Vp{H:Hp}:∀ {ks:List Key} {xs:List V},RpL H xs (ks.map kD)→xs=ks.map kV
 | [],_,.nil=>rfl
 | .inl i::ks,_,.cons h t=>by cases h;rw[Vp t];rfl
 | .inr i::ks,_,.cons h t=>by cases h;rw[Vp t];rfl
def ddK:List Key→List Key
 | []=>[]
 | k::r=>if Vo k r then ddK r else k::ddK r
theorem wM{k:Key}:∀ {l:List Key},k∈ddK l↔k∈l
 | []=>by simp[ddK]
 | j::r=>by
  unfold ddK
  split
  ·rename_i h
   rw[wM,List.mem_cons]
   exact⟨.inr,fun z=>z.elim (fun e=>e▸Qj.mp h) id⟩
  ·rw[List.mem_cons,wM,List.mem_cons]
theorem jW:∀(l:List Key),(ddK l).Nodup
 | []=>List.nodup_nil
 | j::r=>by
  unfold ddK
  split
  ·exact jW r
  ·rename_i h
   exact List.nodup_cons.mpr ⟨fun z=>h (Qj.mpr (wM.mp z)),jW r⟩
theorem U7{a b:Key}(h1:Vf (kD a) (kD b)=true)(h2:Vf (kD b) (kD a)=true):a=b:=by
 unfold Vf PySem.W.dataLe PySem.W.sortLe at h1 h2
 simp only[cond_false,Bool.not_eq_true'] at h1 h2
 have e:=(PyProof.Rows.listOrd PyProof.Rows.itemOrd).total _ _ h1 h2
 cases a with
 | inl i=>cases b with
  | inl j=>simp[PySem.W.keyToks,kD] at e;rw[e]
  | inr y=>simp[PySem.W.keyToks,kD] at e
 | inr x=>cases b with
  | inl j=>simp[PySem.W.keyToks,kD] at e
  | inr y =>
   simp[PySem.W.keyToks,kD] at e
   have exy:x=y:=PySem.W.str_of_cps (by first | exact e | rw[e])
   rw[exy]
theorem abJ(a b c:D)(h1:Vf a b=true)(h2:Vf b c=true):Vf a c=true:=(PySem.W.sortLe_total _ false _).trans a b c h1 h2
theorem abK(a b:D):Vf a b=true∨Vf b a=true:=(PySem.W.sortLe_total _ false _).total a b
theorem wy(ds:List D):(wq ds).Perm ds:=List.mergeSort_perm _ _
theorem Vq(ds:List D):(wq ds).Pairwise fun a b=>Vf a b=true :=
 List.pairwise_mergeSort (fun a b c=>abJ a b c) (fun a b=>by
  rcases abK a b with h | h <;> simp[h]) _
theorem abL{l m:List Key}(h:l.Perm m):wq (l.map kD)=wq (m.map kD):=by
 refine List.Perm.eq_of_pairwise (le:=fun a b=>Vf a b=true) (fun a b ha hb h1 h2=>?_) (Vq _) (Vq _) (((wy _).trans (h.map kD)).trans (wy _).symm)
 have ha:=(wy _).mem_iff.mp ha
 have hb:=(wy _).mem_iff.mp hb
 obtain⟨i,_,rfl⟩:=List.mem_map.mp ha
 obtain⟨j,_,rfl⟩:=List.mem_map.mp hb
 rw[U7 h1 h2]
section
variable {prog:Program} {w:World} {A:Around} {E:Value→Shared→Prop} {s:Shared}
theorem adn{h:Heap}{k:Key}{v:Value}(e:keyIs k v=true):∃as,Reads h v (kD k) as:=by
 rcases keyIs_shape e with⟨i,t,rfl,rfl⟩ | ⟨x,t,rfl,rfl⟩
 ·exact⟨[],.int i t⟩
 ·exact⟨[],.str x t⟩
theorem aem{k:Key}{v:Value}(e:keyIs k v=true):RelV (dV (kD k)) v:=by
 rcases keyIs_shape e with⟨i,t,rfl,rfl⟩ | ⟨x,t,rfl,rfl⟩
 ·exact⟨t,rfl⟩
 ·exact⟨t,rfl⟩
open PySem.W in
theorem ZR:∀ {vs:List Value},(∀v∈vs,keyIs (jt v) v=true)→EachIs (fun u (d:D)=>RelV (dV d) u) vs (vs.map fun v=>kD (jt v))∧∀h:Heap,EachIs (fun u (d:D)=>∃as,Reads h u d as) vs (vs.map fun v=>kD (jt v))
 | [],_=>⟨.nil,fun _=>.nil⟩
 | v::vs,h=>by
  have z:=ZR (vs:=vs) fun u hu=>h u (List.mem_cons_of_mem _ hu)
  have hv:=h v List.mem_cons_self
  exact⟨.cons (aem hv) z.1,fun hp=>.cons (adn hv) (z.2 hp)⟩
open PySem.W in
theorem ZS:∀ {us:List Value} {bs:List D},EachIs (fun u (d:D)=>RelV (dV d) u) us bs→Vals (bs.map dV) us
 | [],_,.nil=>.nil
 | _::_,_,.cons h t=>.cons h (ZS t)
def jF(ks:List Key):Bool:=ks.all fun k=>ks.all fun j=>k.isLeft == j.isLeft
theorem GI{ks:List Key}(h:jF ks=true):PySem.W.AllAlike (ks.map kD):=fun d hd d' hd'=>by
 obtain⟨k,hk,rfl⟩:=List.mem_map.mp hd
 obtain⟨j,hj,rfl⟩:=List.mem_map.mp hd'
 simp only[jF,List.all_eq_true,beq_iff_eq] at h
 have:=h k hk j hj
 cases k <;> cases j <;> simp_all [kD,PySem.W.alike]
open PySem.W in
theorem aas{x:Value}{ks:List Key}{Q:Value→Shared→Prop}(hu:A.units+10<cLine)(hal:jF ks=true)
  (col:∀(E':Value→Shared→Prop) (Q':List Value→Shared→Prop),(∀s1 vs,(∀b o,s.heap.get? b=some o→s1.heap.get? b=some o)→s1.gens=s.gens→s1.os=s.os→(∀v∈vs,keyIs (jt v) v=true)→(vs.map jt).Perm ks→vs.length≤sizeLine→Q' vs s1)→wpAny (model prog w) A.in1 (collect x) Q' E' s)
  (hQ:∀(s1:Shared) (h':Heap) (out:List Value) (c:Nat),(∀b o,s.heap.get? b=some o→s1.heap.get? b=some o)→s1.gens=s.gens→s1.os=s.os→(∀b o,s1.heap.get? b=some o→h'.get? b=some o) →
   h'.get? s1.heap.objs.size=some (seqObj "list" out.toArray c)→Vals ((wq (ks.map kD)).map dV) out→Q (.ref s1.heap.objs.size) { s1 with heap:=h' }) :
  wpAny (model prog w) A (call (.builtin "sorted") [x]) Q E s:=by
 refine call_function_entry_kw kind_sorted plain_sorted entry_sorted (args_sorted1 _) ?_
 unfold Builtin.«sorted»
 refine wpAny_bind (m:=checkCount "sorted" 1 1 _) (wpAny_pure (wpAny_bind (col _ _ fun s1 vs k1 g1 o1 hvs pk hL=>?_)))
 have em:(vs.map fun v=>kD (jt v))=(vs.map jt).map kD:=by rw[List.map_map];rfl
 have hal0:jF (vs.map jt)=true:=by
  simp only[jF,List.all_eq_true] at hal ⊢
  exact fun x hx y hy=>hal x (pk.mem_iff.mp hx) y (pk.mem_iff.mp hy)
 have hal':AllAlike ((vs.map fun v=>kD (jt v)).map fun d:D=>d):=by rw[List.map_id',em];exact GI hal0
 obtain⟨e1,e2⟩:=ZR hvs
 refine wpAny_bind (wpAny_newList ?_ hL)
 have hoL:(s1.heap.push (seqObj "list" vs.toArray 0)).get? s1.heap.objs.size=some (seqObj "list" vs.toArray 0):=Heap.get?_push_size _ rfl
 refine wpAny_bind (wpAny_holding (wpAny_call_entry_kw slot_list_sort ⟨_,hoL,rfl⟩ entry_list_sort ?body (args_list_sort _)))
 case body =>
  refine wpAny_mono (list_sort_vals (P:=fun f s'=>f=.done (.ret .none)∧Q (.ref s1.heap.objs.size) s') hoL (SortsAt.data (e2 _) (by rw[em];exact GI hal0) (.inr fun d hd=>?_) fun d hd=>?_) hL ⟨rfl,?_⟩) (fun f s' hf=>?_) fun _ _ e=>e
  ·obtain⟨v,hv,rfl⟩:=List.mem_map.mp hd
   cases jt v <;> simp[kD]
  ·obtain⟨v,hv,rfl⟩:=List.mem_map.mp hd
   show A.units+1+1+_<cLine
   cases jt v <;> simp only[kD,PyData.depth] <;> omega
  ·have out:=sortVals_data (enc:=fun d:D=>d) (h':=sortingHeap (s1.heap.push (seqObj "list" vs.toArray 0)) s1.heap.objs.size vs) false e1 (e2 _) hal'
   rw[List.map_id'] at out
   have hlo:=sortVals_length (κ:=dataKind (sortingHeap (s1.heap.push (seqObj "list" vs.toArray 0)) s1.heap.objs.size vs) (vs.map fun v=>kD (jt v))) false (rfl:vs.length=vs.length)
   show Q (.ref s1.heap.objs.size) { s1 with heap:=sortedHeap (s1.heap.push (seqObj "list" vs.toArray 0)) s1.heap.objs.size vs (sortVals (dataKind (sortingHeap (s1.heap.push (seqObj "list" vs.toArray 0)) s1.heap.objs.size vs) (vs.map fun v=>kD (jt v))) false vs vs).toArray }
   generalize sortVals (dataKind (sortingHeap (s1.heap.push (seqObj "list" vs.toArray 0)) s1.heap.objs.size vs) (vs.map fun v=>kD (jt v))) false vs vs=out0 at out hlo ⊢
   obtain⟨c,hc⟩:=sortedHeap_at (vs:=vs) (out:=out0.toArray) hoL
   refine hQ s1 _ out0 c k1 g1 o1 (fun b u q=>?_) hc ?_
   ·have hlt:=Heap.lt_size q
    show(sortedHeap (s1.heap.push (seqObj "list" vs.toArray 0)) s1.heap.objs.size vs out0.toArray).get? b=some u
    rw[sortedHeap_old (Nat.ne_of_lt hlt) (by rw[size_push'];exact Nat.lt_succ_of_lt hlt)]
    exact Heap.get?_push_of_some _ q
   ·rw[←abL pk,←em]
    exact ZS out
  ·obtain⟨rfl,hq⟩:=hf
   exact⟨_,rfl,wpAny_pure ⟨_,rfl,hq⟩⟩
theorem YI{a:Addr}{S:Key→Bool}{n:Nat}{ks:List Key}{Q:Value→Shared→Prop}(R:Jl w s.heap a S n)(hh:A.handled=none)(hu:A.units+10<cLine)(hn:ks.Nodup)(hS:∀k,S k=true↔k∈ks)(hal:jF ks=true)
  (hQ:∀(s1:Shared) (h':Heap) (out:List Value) (c:Nat),(∀b o,s.heap.get? b=some o→s1.heap.get? b=some o)→s1.gens=s.gens→s1.os=s.os→(∀b o,s1.heap.get? b=some o→h'.get? b=some o) →
   h'.get? s1.heap.objs.size=some (seqObj "list" out.toArray c)→Vals ((wq (ks.map kD)).map dV) out→Q (.ref s1.heap.objs.size) { s1 with heap:=h' }) :
  wpAny (model prog w) A (call (.builtin "sorted") [.ref a]) Q E s:=by
 obtain⟨o,es,ep,t,ho,hex,hd,g,nd,hm,hb,hf,hsz,hr,hl⟩:=R
 refine aas hu hal (fun E' Q' hq=>collect_set (A:=A.in1) hh ⟨o,ho,hex.1,hd⟩ hf hb hr hl fun s1 vs k1 hz g1 o1 pm=>hq s1 vs k1 g1 o1 (fun v hv=>?_) ?_ ?_) hQ
 ·obtain⟨e,he,q⟩:=List.mem_map.mp (pm.mem_iff.mp hv)
  obtain⟨k,h1,_⟩:=g e he
  rw[←q,IB h1];exact h1
 ·have q:=pm.map jt
  rw[List.map_map] at q
  refine q.trans ((List.perm_ext_iff_of_nodup nd hn).mpr fun k=>?_)
  rw[←hS k,hm k]
 ·rw[pm.length_eq,List.length_map,Array.length_toList];exact fits_of_scanBound hb
end
section
variable {X:Cx} {a:Expr} {ta:TE} {p p2 q pos:Pos}
def aat(K:PySem.W.Frag)(ta:TE):TE:=fun σ H Q=>ta σ H fun x H1=>∃(l:Addr) (ks:List Key),x=.ref l∧(SqL K H1 l (ks.map kV)∨SqT K H1 l (ks.map kV))∧jF ks=true∧ks.length≤1000 ∧
 ∀z,H1 z=none→Q (.ref z) (upd H1 z (.lst ((wq ((ddK ks).map kD)).map dV)))
theorem IC:∀ {ks:List Key} {us:List Value},Vals (ks.map kV) us→∀(i:Nat) (v:Value),us[i]? = some v→∃k,ks[i]? = some k∧keyIs k v=true
 | [],_,.nil,i,v,h=>by simp at h
 | k::ks,_,.cons r t,0,v,h=>by
  simp at h;subst h
  exact⟨k,rfl,by cases k <;> (obtain⟨t,rfl⟩:=r) <;> simp[keyIs,Value.isInt,Value.isStrOf]⟩
 | k::ks,_,.cons r t,i+1,v,h=>by
  obtain⟨j,h1,h2⟩:=IC t i v (by simpa using h)
  exact⟨j,by simpa using h1,h2⟩
theorem aen{pins:List (Addr×Obj)}{σ:L2.St}{H:Hp}{s:Shared}{l:Addr}{xs:List V}(I:Inv X pins σ H s)(h:SqL X.K H l xs∨SqT X.K H l xs):∃its:List Value,Vals xs its∧(s.heap.IsList l its.toArray∨s.heap.IsTuple l its.toArray)∧xs.length≤sizeLine:=by
 rcases h with h | h
 ·obtain⟨its,r,pl,hz⟩:=I.list h
  exact⟨its,r,.inl pl.isList,hz⟩
 ·obtain⟨its,r,pl,hz⟩:=I.tuple h
  exact⟨its,r,.inr pl,hz⟩
theorem jX(hc:X.calm=true)(hu:X.A.units+100<cLine)(hg:Gl X "sorted")(hm:X.mg "sorted" = none)(hg2:Gl X "set")(hm2:X.mg "set" = none)(ha:PE X a ta)
  (na:starEach [a] X.env=(false,eval a X.env)::starEach [] X.env:=by rfl):PE X (.Call (.Name "sorted" p) [.Call (.Name "set" p2) [a] [] q] [] pos) (aat X.K ta):=by
 refine⟨fun pins s σ H Q I h=>?_⟩
 refine Call_ (ld_blt I hg hm boot_sorted ?_)
 refine PyProof.Rows.callWith_builtin1 (PyProof.Rows.args_cons ?_ rfl) rfl rfl
 refine Call_ (ld_blt I hg2 hm2 PyProof.Rows.boot_set ?_)
 refine PyProof.Rows.callWith_type1 (PyProof.Rows.args_cons (thn (ha.run pins s σ H _ I h) fun v s1 ⟨x,H1,I1,r1,q1⟩=>PyProof.Rows.args_nil ?_) na) na rfl
 obtain⟨l,ks,rfl,hq,hal,hl,q1⟩:=q1
 cases r1
 obtain⟨its,rv,pl,_⟩:=aen I1 hq
 have hlen:its.toArray.size=ks.length:=by rw[List.size_toArray,←rv.length,List.length_map]
 refine Wc ks (I1.ok.hd hc) pl hlen (fun i v hv=>IC rv i v (by simpa using hv)) (by unfold scanBound;omega) fun h' tk c R hcl hk=>?_
 refine PyProof.Rows.args_nil ?_
 have I2:Inv X pins σ H1 { s1 with heap:=h',toks:=tk }:=I1.kept hk
 have hlo:s1.heap.objs.size≤h'.objs.size:=by
  obtain⟨o,es,ep,t,ho,_⟩:=R
  exact Nat.le_of_lt (Heap.lt_size ho)
 refine YI (s:={ s1 with heap:=h',toks:=tk }) R (I1.ok.hd hc) (by omega) (jW ks) (fun k=>by rw[Qj,wM]) ?_ fun s3 h3 out c0 k g o k3 hg' hv=>?_
 ·simp only[jF,List.all_eq_true] at hal ⊢
  exact fun x hx y hy=>hal x (wM.mp hx) y (wM.mp hy)
 have hlen2:((wq ((ddK ks).map kD)).map dV).length≤sizeLine:=by
  obtain⟨o,es,ep,t,ho,hex,hd,g,nd,hm',hb,hf,hsz,hr,hl'⟩:=R
  have p1:(es.toList.map fun e=>jt e.2).Perm (ddK ks):=(List.perm_ext_iff_of_nodup nd (jW ks)).mpr fun k=>by rw[←hm' k,Qj,wM]
  rw[List.length_map,(wy _).length_eq,List.length_map,←p1.length_eq,List.length_map,Array.length_toList]
  exact fits_of_scanBound hb
 have I3:Inv X pins σ H1 s3:=I2.call' (ch:=[]) o (Un.kept k) (I2.hok.kept k) (by rw[g];exact I2.bare) (fun _ z=>nomatch z)
 exact⟨.ref s3.heap.objs.size,_,I3.laid (t':=s3.toks) (o:=.lst ((wq ((ddK ks).map kD)).map dV)) k3 (Nat.le_refl _) ⟨hlen2,out,c0,hv,hg'⟩,rfl,q1 _ (I3.hok.fresh (Nat.le_refl _))⟩
end
def Qk(d:D):Option (List D):=(y9 d).bind fun ds=>(YH ds).bind fun ks=>if jF ks&&decide (ks.length≤1000) then some (wq ((ddK ks).map kD)) else none
def vS(f:XF):XF:=fun env g=>(f env g).bind fun p=>(Qk p.1).bind fun ds=>some (.list ds,p.2)
theorem aeo{H:Hp}:∀ {ds:List D},(∀d∈ds,∃k,d=kD k)→RpL H (ds.map dV) ds
 | [],_=>.nil
 | d::ds,h=>by
  have t:=aeo (H:=H) (ds:=ds) fun e he=>h e (List.mem_cons_of_mem _ he)
  obtain⟨k,rfl⟩:=h d List.mem_cons_self
  cases k with
  | inl i=>exact .cons (.int i) t
  | inr i=>exact .cons (.str i) t
section
variable {Γ:List Fl} {K:PySem.W.Frag} {te:TE} {f:XF}
theorem Jr(h:RfB Γ te f):RfN Γ (aat K te) (vS f):=fun c Hb H env g σ d g' R e Q q=>by
 obtain⟨p,e1,e⟩:=zo e
 obtain⟨zs,e2,e⟩:=zo e
 cases e
 obtain⟨ds,e3,e4⟩:=zo e2
 obtain⟨ks,e5,e6⟩:=zo e4
 split at e6
 ·rename_i hc
  simp only[Bool.and_eq_true,decide_eq_true_eq] at hc
  cases e6
  have ed:=JA e5
  subst ed
  refine h c Hb H env g σ p.1 p.2 R e1 _ fun v Hb1 H1 G1 R1 r1=>?_
  have fin:∀(l:Addr) (xs:List V),(SqL K H1 l xs∨SqT K H1 l xs)→RpL Hb1 xs (ks.map kD)→v=.ref l→∃(l:Addr) (ks':List Key),v=.ref l∧(SqL K H1 l (ks'.map kV)∨SqT K H1 l (ks'.map kV))∧jF ks'=true∧ks'.length≤1000∧∀z,H1 z=none→Q (.ref z) (upd H1 z (.lst ((wq ((ddK ks').map kD)).map dV))):=fun l xs h1 h2 ev=>by
   have ex:=Vp h2
   subst ex
   refine⟨l,ks,ev,h1,hc.1,hc.2,fun z hz=>?_⟩
   have w:=Nw.newOwn (o:=.lst ((wq ((ddK ks).map kD)).map dV)) R1.ext hz
   have h0:H z=none:=G1.d z hz
   refine q z _ _ Hb1 _ (G1.trans w.gr) (w.rel R1) rfl upd_same (R1.ext.free hz) h0 (R1.dom z hz) (aeo fun d hd=>?_)
   obtain⟨k,_,rfl⟩:=List.mem_map.mp ((wy _).mem_iff.mp hd)
   exact⟨k,rfl⟩
  rcases ww e3 with z | z
  ·rw[z] at r1
   obtain⟨a,xs,rfl,h1,h2⟩:=r1.list R1.ext
   exact fin a xs (.inl (SqL.of h1)) h2 rfl
  ·rw[z] at r1
   obtain⟨a,xs,rfl,h1,h2⟩:=r1.tuple
   exact fin a xs (.inr (h1.sq R1.ext)) h2 rfl
 ·cases e6
end
end KP
namespace KP
open PySem PySem.Spec PyProof.Rows L2
section
variable [TheW]
def aep(t:TE):TE:=fun σ H Q=>t σ H fun x H1=>∃d u,x=.ref d∧H1 d=some u∧Mut (some u)∧∀od,Q x (upd H1 d (.frz od u))
theorem ID{X:Cx}{e:Expr}{t:TE}(h:PE X e t):PE X e (aep t):=⟨fun pins s σ H Q I hw=>thn (h.run pins s σ H _ I hw) fun v s1 ⟨x,H1,I2,r,d,u,ex,hd,mu,q⟩=>by
 obtain⟨od,I3⟩:=I2.lock hd mu
 exact⟨x,_,I3,r,q od⟩⟩
def isT(ds:List (D×D)):Bool:=ds.any fun p=>match p.1 with | .none=>true | _=>false
def QD:D→Option (List Key)
 | .tuple ds=>YH ds
 | _=>none
def yY(k:Key):List (D×D)→Option D
 | []=>none
 | (a,b)::r=>if vV a=some k then some b else yY k r
theorem jG(k:Key):vV (kD k)=some k:=by cases k <;> rfl
theorem W5:∀(ks:List Key),YH (ks.map kD)=some ks
 | []=>rfl
 | k::ks=>by
  show(vV (kD k)).bind _=_
  rw[jG,Option.bind_some,W5 ks];rfl
theorem acA{H:Hp}:∀ {kvs:List (Key×V)} {ds:List (D×D)},RpK H kvs ds→isT ds=false
 | _,_,.nil=>rfl
 | (k,v)::_,_,.cons h t=>by
  have:=acA t
  unfold isT at this ⊢
  rw[List.any_cons,this]
  cases k <;> rfl
theorem YJ{H:Hp}:∀ {kvs:List (List Key×V)} {ds:List (D×D)},RpT H kvs ds→isT ds=true
 | _,_,.nil=>rfl
 | (k,v)::_,_,.cons h t=>by
  have:=YJ t
  unfold isT at this ⊢
  rw[List.any_cons,this,Bool.or_true]
theorem YK{H:Hp}:∀ {kvs:List KX} {ds:List (D×D)},RpX H kvs ds→isT ds=true
 | _,_,.nil=>rfl
 | (k,b,v)::_,_,.cons h0 h t=>by
  have:=YK t
  unfold isT at this ⊢
  rw[List.any_cons,this,Bool.or_true]
theorem ZT{H:Hp}(k:Key):∀ {kvs:List (Key×V)} {ds:List (D×D)},RpK H kvs ds→(valV kvs k=none∧yY k ds=none)∨∃v d,valV kvs k=some v∧yY k ds=some d∧Rp H v d
 | _,_,.nil=>.inl ⟨rfl,rfl⟩
 | (j,v)::kvs,(_,d)::ds,.cons h t=>by
  by_cases e:j=k
  ·subst e
   exact .inr ⟨v,d,valV_pos rfl,by unfold yY;rw[if_pos (jG j)],h⟩
  ·have e2:¬vV (kD j)=some k:=fun z=>e (by rw[jG] at z;exact Option.some.inj z)
   have e3:valV ((j,v)::kvs) k=valV kvs k:=valV_neg (p:=(j,v)) e
   have e4:yY k ((kD j,d)::ds)=yY k ds:=by
    show(if _ then _ else _)=_
    rw[if_neg e2]
   rw[e3,e4]
   exact ZT k t
def pX(kvs:List KX):List (List Key×V):=kvs.map fun p=>(p.1,p.2.2)
def agz(H:Hp)(b:Addr)(k:List Key):Prop:=H b=some (.tup (k.map kV))∨∃o,H b=some (.frz o (.tup (k.map kV)))
def ahI(H:Hp)(a:Addr)(kvs:List KX):Prop:=((∃o,H a=some (.frz o XU)∧aah TheW.hk a o kvs)∨H a=some (DXo a kvs))∧∀p∈kvs,Yh H p.2.1 p.1
section
variable {X:Cx} {pins:List (Addr×Obj)} {σ:L2.St} {H:Hp} {s:Shared} {a b:Addr} {kvs:List KX} {k:List Key}
theorem Vr(ok:HOk X.prog X.w H s.heap)(e:agz H b k):(tupleKind (mixKind X.prog X.w)).is s.heap k b:=by
 have h:ObjOk X.prog X.w H s.heap b (.tup (k.map kV)):=by
  rcases e with e | ⟨o,e⟩
  ·exact ok b _ e
  ·exact(show ObjOk X.prog X.w H s.heap b (.frz o (.tup (k.map kV))) from ok b _ e).2
 obtain⟨_,its,r,o,h1,h2,n,h3⟩:=h
 exact⟨o,its.toArray,n,h1,h2,h3,by simpa using items_are r⟩
theorem wK.is{xs:List (List Key×Addr×Value)}(ok:HOk X.prog X.w H s.heap)(r:wK kvs xs)(ks:∀p∈kvs,Yh H p.2.1 p.1):∀x∈xs,(tupleKind (mixKind X.prog X.w)).is s.heap x.1 x.2.1:=by
 unfold wK at r
 induction r with
 | nil=>intro x hx;cases hx
 | @cons p q ps qs hq t ih =>
  intro x hx
  rcases List.mem_cons.mp hx with rfl | hx
  ·obtain⟨o,h1,_⟩:=ks p (by simp)
   exact Vr ok (.inr ⟨o,by rw[←hq.1,←hq.2.1];exact h1⟩)
  ·exact ih (fun p hp=>ks p (List.mem_cons_of_mem _ hp)) x hx
theorem acB[Tied X.prog X.w](ok:HOk X.prog X.w H s.heap)(h:ahI H a kvs):kvs.length≤sizeLine∧(a == sysModules)=false∧∃xs,wK kvs xs∧s.heap.DictOfH (tupleKind (mixKind X.prog X.w)) a xs:=by
 have g:∃o,s.heap.get? a=some o∧aah TheW.hk a o kvs:=by
  rcases h.1 with⟨o,h1,h2⟩ | h1
  ·exact⟨o,(show ObjOk X.prog X.w H s.heap a (.frz o XU) from ok a _ h1).1,h2⟩
  ·exact(show ObjOk X.prog X.w H s.heap a (DXo a kvs) from ok a _ h1).1
 obtain⟨o,g1,z,lo,xs,r,es,ep,g2,g3,g4,g5⟩:=g
 refine⟨z,lo,xs,r,o,es,ep,g1,g2,g3,?_,r.is ok h.2,g5⟩
 rw[g4]
 congr 1
 funext x
 show DictEntry.mk _ _ _=DictEntry.mk _ _ _
 rw[Tied.eq (P:=X.prog) (w:=X.w)]
theorem wK.len{xs:List (List Key×Addr×Value)}(r:wK kvs xs):kvs.length=xs.length:=Paired.length r
theorem wK.val{xs:List (List Key×Addr×Value)}(r:wK kvs xs)(k:List Key):RelO (valV (pX kvs) k) ((atKey xs k).map (·.2)):=by
 unfold wK at r
 induction r with
 | nil=>exact trivial
 | @cons p q ps qs hq t ih =>
  obtain⟨j,b,v⟩:=p
  obtain⟨j2,b2,u⟩:=q
  obtain⟨h1,h2,h3⟩:=hq
  cases(show j=j2 from h1)
  by_cases e:j=k
  ·subst e
   have e1:valV (pX ((j,b,v)::ps)) j=some v:=valV_pos (p:=(j,v)) rfl
   have e2:atKey ((j,b2,u)::qs) j=some (b2,u):=by simp[atKey]
   rw[e1,e2]
   exact h3
  ·have e1:valV (pX ((j,b,v)::ps)) k=valV (pX ps) k:=valV_neg (p:=(j,v)) e
   have e2:atKey ((j,b2,u)::qs) k=atKey qs k:=by simp[atKey,e]
   rw[e1,e2]
   exact ih
end
def ZU(H:Hp)(a:Addr)(y:V)(r:Option V):Prop:=DGet H a y r∨∃kvs k b,ahI H a kvs∧y=.ref b∧agz H b k∧r=valV (pX kvs) k
def JU(d y:D):Option (Option D):=match d with
 | .dict ds=>if isT ds then none else(vV y).bind fun k=>some (yY k ds)
 | _=>none
theorem Rb.dict{c:Ctx}{Hb H:Hp}{v:V}{ds:List (D×D)}(h:Rb c Hb H v (.dict ds)):Rp Hb v (.dict ds):=by
 rcases h with h | ⟨p,xs,es,rfl,e2,e3,e4,e5⟩
 ·exact h
 ·cases e2
theorem Vs{c:Ctx}{Hb H:Hp}{v:V}{k:Key}(h:Rb c Hb H v (kD k)):v=kV k:=by
 cases k with
 | inl i=>exact h.int
 | inr i=>exact h.str
def LkR(Hb:Hp)(r:Option V):Option D→Prop
 | none=>r=none
 | some d2=>∃v,r=some v∧Rp Hb v d2
theorem W6{c:Ctx}{Hb H:Hp}{x y:V}{d k:D}{o:Option D}(sm:Same Hb H)(rx:Rb c Hb H x d)(ry:Rb c Hb H y k)(e:JU d k=some o) :
  ∃a r,x=.ref a∧ZU H a y r∧LkR Hb r o:=by
 unfold JU at e
 split at e
 ·rename_i ds
  have r:=rx.dict
  cases r with
  | @dK a ob kvs _ ha rk =>
   rw[acA rk,if_neg (by simp)] at e
   obtain⟨k2,e1,e⟩:=zo e
   cases e
   have ek:=wL e1
   subst ek
   have ey:=Vs ry
   subst ey
   refine⟨a,valV kvs k2,rfl,.inl (.inl ⟨kvs,k2,.inr ⟨ob,sm _ _ ha⟩,rfl,rfl⟩),?_⟩
   rcases ZT k2 rk with⟨z1,z2⟩ | ⟨v,d2,z1,z2,z3⟩
   ·rw[z2];exact z1
   ·rw[z2];exact⟨v,z1,z3⟩
  | @dT a ob kvs _ ha rk =>
   rw[YJ rk,if_pos rfl] at e
   cases e
  | dX ha hx rk =>
   rw[YK rk,if_pos rfl] at e
   cases e
 ·cases e
def W7:R2:=fun x y H Q=>∃a v,x=.ref a∧ZU H a y (some v)∧Q v H
section
variable {X:Cx} {pins:List (Addr×Obj)} {σ:L2.St} {H:Hp} {s:Shared} {a:Addr} {y v:V} {u:Value} {o:Option V} {A:Around} {E:Value→Shared→Prop}
theorem ado[Tied X.prog X.w](I:Inv X pins σ H s)(g:ZU H a y o):s.TypeIs (.ref a) "dict" := by
 rcases g with g | ⟨kvs,k,b,h,_⟩
 ·exact dict_typeIs I g
 ·obtain⟨_,_,xs,_,dd⟩:=acB I.hok h
  exact dd.typeIs
theorem abM[Tied X.prog X.w]{Q:Value→Shared→Prop}(hu:A.units+1<cLine)(I:Inv X pins σ H s)(g:ZU H a y (some v))(ry:RelV y u)(h:∀w' s',Inv X pins σ H s'→RelV v w'→Q w' s') :
  wpAny (model X.prog X.w) A (getItem (.ref a) u) Q E s:=by
 rcases g with g | ⟨kvs,k,b,g,ey,eb,l⟩
 ·exact d_getItem hu I g ry h
 ·subst ey
  cases(show u=Value.ref b from ry)
  obtain⟨z,hd,xs,rel,dd⟩:=acB I.hok g
  obtain⟨w',hw,rw'⟩:=RelO.some_of (v:=v) (o:=(atKey xs k).map (·.2)) (by rw[l];exact rel.val k)
  obtain⟨p,hp,hp2⟩:=Option.map_eq_some_iff.mp hw
  refine wpAny_getItem_heap (tupleKind_room_in1 hu) (Vr I.hok eb) dd hp ?_
  rw[hp2]
  exact h w' _ (I.tok _) rw'
theorem ahJ[Tied X.prog X.w]{Q:Value→Shared→Prop}(hu:A.units+1<cLine)(I:Inv X pins σ H s)(g:ZU H a y o)(ry:RelV y u)(h:∀s',Inv X pins σ H s'→Q (.bool o.isSome) s') :
  wpAny (model X.prog X.w) A (compareOp .In u (.ref a)) Q E s:=by
 rcases g with g | ⟨kvs,k,b,g,ey,eb,l⟩
 ·exact d_in hu I g ry h
 ·subst ey
  cases(show u=Value.ref b from ry)
  obtain⟨z,hd,xs,rel,dd⟩:=acB I.hok g
  refine wpAny_in_heap (tupleKind_room_in1 hu) (Vr I.hok eb) hd dd ?_
  have q:=(rel.val k).isSome_eq
  rw[Option.isSome_map] at q
  rw[←q,←l]
  exact h _ (I.tok _)
theorem aeq[Tied X.prog X.w]{Q:Value→Shared→Prop}(hu:A.units+1<cLine)(I:Inv X pins σ H s)(g:ZU H a y o)(ry:RelV y u)(h:∀s',Inv X pins σ H s'→Q (.bool (!o.isSome)) s') :
  wpAny (model X.prog X.w) A (compareOp .NotIn u (.ref a)) Q E s:=by
 rcases g with g | ⟨kvs,k,b,g,ey,eb,l⟩
 ·exact d_notIn hu I g ry h
 ·subst ey
  cases(show u=Value.ref b from ry)
  obtain⟨z,hd,xs,rel,dd⟩:=acB I.hok g
  refine wpAny_notIn_heap (tupleKind_room_in1 hu) (Vr I.hok eb) hd dd ?_
  have q:=(rel.val k).isSome_eq
  rw[Option.isSome_map] at q
  rw[←q,←l]
  exact h _ (I.tok _)
end
theorem jH{X:Cx}{o i:Expr}{pos:Pos}{td ty:TE}[Tied X.prog X.w](hu:X.A.units+1<cLine)(ho:PE X o td)(hi:PE X i ty)(hs:NoSl i):PE X (.Subscript o i pos) (tOp W7 td ty):=by
 refine⟨fun pins s σ H Q I h=>?_⟩
 refine subD_of PySem.F.slot_dict_getitem.lookup hs (thn (ho.run pins s σ H _ I h) fun u s1 ⟨x,H1,I1,rx,q1⟩=>thn (hi.run pins s1 σ H1 _ I1 q1) fun iv s2 ⟨y,H2,I2,ry,a,v,ex,g,q2⟩=>?_)
 subst ex
 obtain rfl:u=Value.ref a:=rx
 exact⟨ado I2 g,abM hu I2 g ry fun w' s3 I3 rw'=>⟨v,H2,I3,rw',q2⟩⟩
def vw(d k:D):Option D:=(JU d k).bind id
theorem wz:RfO W7 vw:=fun c Hb H x y dx dy d sm rx ry e Q q=>by
 obtain⟨o,e1,e2⟩:=zo e
 obtain⟨a,r,h1,h2,h3⟩:=W6 sm rx ry e1
 have e2':o=some d:=e2
 subst e2'
 obtain⟨v,rfl,rv⟩:=h3
 exact⟨a,v,h1,h2,q v Hb H (Nw.refl sm) rv⟩
def aau(neg:Bool):R2:=fun y x H Q=>∃a o,x=.ref a∧ZU H a y o∧Q (.bl (if neg then !o.isSome else o.isSome)) H
theorem aer{X:Cx}{i o:Expr}{ty td:TE}[Tied X.prog X.w](hu:X.A.units+1<cLine)(hi:PE X i ty)(ho:PE X o td):PC X .In i o (tOp (aau false) ty td):=by
 refine⟨fun pins s σ H Q I h=>?_⟩
 refine thn (hi.run pins s σ H _ I h) fun iv s1 ⟨y,H1,I1,ry,q1⟩=>thn (ho.run pins s1 σ H1 _ I1 q1) fun u s2 ⟨x,H2,I2,rx,a,ov,ex,g,q2⟩=>?_
 subst ex
 obtain rfl:u=Value.ref a:=rx
 exact ahJ hu I2 g ry fun s3 I3=>⟨.bl ov.isSome,H2,I3,rfl,q2⟩
theorem VS{X:Cx}{i o:Expr}{ty td:TE}[Tied X.prog X.w](hu:X.A.units+1<cLine)(hi:PE X i ty)(ho:PE X o td):PC X .NotIn i o (tOp (aau true) ty td):=by
 refine⟨fun pins s σ H Q I h=>?_⟩
 refine thn (hi.run pins s σ H _ I h) fun iv s1 ⟨y,H1,I1,ry,q1⟩=>thn (ho.run pins s1 σ H1 _ I1 q1) fun u s2 ⟨x,H2,I2,rx,a,ov,ex,g,q2⟩=>?_
 subst ex
 obtain rfl:u=Value.ref a:=rx
 exact aeq hu I2 g ry fun s3 I3=>⟨.bl (!ov.isSome),H2,I3,rfl,q2⟩
def Zk(neg:Bool)(k d:D):Option D:=(JU d k).bind fun o=>some (.bool (if neg then !o.isSome else o.isSome))
theorem Zx{neg:Bool}:RfO (aau neg) (Zk neg):=fun c Hb H y x dy dx d sm ry rx e Q q=>by
 obtain⟨o,e1,e2⟩:=zo e
 cases e2
 obtain⟨a,r,h1,h2,h3⟩:=W6 sm rx ry e1
 have:r.isSome=o.isSome:=by
  cases o with
  | none=>rw[show r=none from h3];rfl
  | some d2 =>
   obtain⟨v,h3,_⟩:=h3
   rw[h3];rfl
 exact⟨a,r,h1,h2,by rw[this];exact q _ Hb H (Nw.refl sm) (.bl _)⟩
section
variable {Γ:List Fl} {td ty:TE} {fd fy:XF}
end
theorem aes{H:Hp}{i:Nat}:∀ {kvs:List (Key×V)} {ds:List (D×D)} {k:Key} {v:V},RpK H kvs ds→kvs[i]? = some (k,v)→(ds.map (·.1))[i]? = some (kD k):=by
 induction i with
 | zero =>
  intro kvs ds k v r e
  cases r with
  | nil=>simp at e
  | cons h t=>simp at e;simp[e.1]
 | succ i ih =>
  intro kvs ds k v r e
  cases r with
  | nil=>simp at e
  | cons h t=>simpa using ih t (by simpa using e)
theorem wA{H:Hp}:∀ {kvs:List (Key×V)} {ds:List (D×D)},RpK H kvs ds→kvs.length=ds.length
 | _,_,.nil=>rfl
 | _,_,.cons h t=>by simp[wA t]
theorem adp{Hb:Hp}{a:Addr}{o:Obj}{kvs:List (Key×V)}{ds:List (D×D)}(h:Hb a=some (.frz o (.dK kvs)))(r:RpK Hb kvs ds):ItOk Rp Hb (Itk a o kvs) (ds.map (·.1)) where
 go:=fun i H e hi=>⟨e _ _ h,by rw[wA r];simpa using hi⟩
 yld:=fun i H Hb2 x H' d e1 e2 y hd=>by
  obtain⟨rfl,k,v,hk,rfl⟩:=y
  rw[aes r hk] at hd
  cases hd
  refine⟨Hb2,Nw.refl e2,?_⟩
  cases k with
  | inl i=>exact .int i
  | inr i=>exact .str i
 stop:=fun i H e hi=>⟨e _ _ h,by rw[wA r];simpa using hi⟩
def ZV:D→Option (List D)
 | .dict ds=>if isT ds then none else some (ds.map (·.1))
 | _=>none
def GJ(f:XF):IF:=fun env g=>(f env g).bind fun p=>(ZV p.1).bind fun ds=>some (ds,p.2)
section
variable {Γ:List Fl} {td:TE} {f:XF}
theorem ah2(h:RfE Γ td f):RfI Rp Γ (iKeys td) (GJ f):=fun c Hb H env g σ ds g' R e Q q=>by
 obtain⟨p,e1,e⟩:=zo e
 obtain⟨es,e2,e⟩:=zo e
 cases e
 refine h c Hb H env g σ p.1 p.2 R e1 _ fun v Hb1 H1 G1 R1 r1=>?_
 unfold ZV at e2
 split at e2
 ·rename_i dd hp
  rw[hp] at r1
  cases r1 with
  | @dK a ob kvs _ ha rk =>
   rw[acA rk,if_neg (by simp)] at e2
   cases e2
   exact⟨a,ob,rfl,.inl ⟨kvs,R1.ext _ _ ha,q _ Hb1 H1 G1 R1 (adp ha rk)⟩⟩
  | @dT a ob kvs _ ha rk =>
   rw[YJ rk,if_pos rfl] at e2
   cases e2
  | dX ha hx rk =>
   rw[YK rk,if_pos rfl] at e2
   cases e2
 ·cases e2
end
def Vt(k:Key)(v:D)(ds:List (D×D)):List (D×D) :=
 if(ds.any fun p=>decide (vV p.1=some k)) then ds.map (fun p=>if vV p.1=some k then(p.1,v) else p) else ds++[(kD k,v)]
def ah3(k:List Key)(v:D)(ds:List (D×D)):List (D×D) :=
 if(ds.any fun p=>decide (QD p.1=some k)) then ds.map (fun p=>if QD p.1=some k then(p.1,v) else p) else ds++[(.tuple (k.map kD),v)]
theorem YL(k:Key)(v:D)(ds:List (D×D)):(Vt k v ds).length≤ds.length+1:=by
 unfold Vt
 split <;> simp
inductive RpE(H:Hp):List (List Key×V)→List (D×D)→Prop
 | nil:RpE H [] []
 | cons {k:List Key} {v:V} {vs:List (List Key×V)} {d:D} {ds:List (D×D)}:Rp H v d→RpE H vs ds→RpE H ((k,v)::vs) ((.tuple (k.map kD),d)::ds)
theorem RpE.t{H:Hp}:∀ {kvs:List (List Key×V)} {ds:List (D×D)},RpE H kvs ds→RpT H kvs (ds++[(.none,.none)])
 | _,_,.nil=>.nil
 | _,_,.cons h t=>.cons h t.t
theorem RpE.same{H H':Hp}(e:Same H H'):∀ {kvs:List (List Key×V)} {ds:List (D×D)},RpE H kvs ds→RpE H' kvs ds
 | _,_,.nil=>.nil
 | _,_,.cons h t=>.cons (h.same e) (t.same e)
theorem RpK.same{H H':Hp}(e:Same H H'){kvs:List (Key×V)}{ds:List (D×D)}(h:RpK H kvs ds):RpK H' kvs ds:=RpK.mono e ds kvs h
theorem RpE.length{H:Hp}:∀ {kvs:List (List Key×V)} {ds:List (D×D)},RpE H kvs ds→kvs.length=ds.length
 | _,_,.nil=>rfl
 | _,_,.cons _ t=>by simp[t.length]
theorem acC{H:Hp}(k:Key):∀ {kvs:List (Key×V)} {ds:List (D×D)},RpK H kvs ds→(ds.any fun p=>decide (vV p.1=some k))=(kvs.any fun kv=>decide (kv.1=k))
 | _,_,.nil=>rfl
 | (j,_)::_,_,.cons h t=>by
  rw[List.any_cons,List.any_cons,acC k t]
  have:decide (vV (kD j)=some k)=decide (j=k):=by rw[jG];simp
  rw[this]
theorem aav{H:Hp}(k:Key){y:V}{d:D}(r:Rp H y d):∀ {kvs:List (Key×V)} {ds:List (D×D)},RpK H kvs ds→RpK H (kvs.map fun kv=>if kv.1=k then(kv.1,y) else kv) (ds.map fun p=>if vV p.1=some k then(p.1,d) else p)
 | _,_,.nil=>.nil
 | (j,_)::_,_,.cons h t=>by
  have ih:=aav k r t
  rw[List.map_cons,List.map_cons]
  by_cases e:j=k
  ·subst e
   rw[if_pos rfl,if_pos (jG j)]
   exact .cons r ih
  ·rw[if_neg e,if_neg (fun z=>e (by rw[jG] at z;exact Option.some.inj z))]
   exact .cons h ih
theorem aaw{H:Hp}{k:Key}{y:V}{d:D}(r:Rp H y d):∀ {kvs:List (Key×V)} {ds:List (D×D)},RpK H kvs ds→RpK H (kvs++[(k,y)]) (ds++[(kD k,d)])
 | _,_,.nil=>.cons r .nil
 | _,_,.cons h t=>.cons h (aaw r t)
theorem W8{H:Hp}(k:Key){y:V}{d:D}(r:Rp H y d){kvs:List (Key×V)}{ds:List (D×D)}(h:RpK H kvs ds):RpK H (putK kvs k y) (Vt k d ds):=by
 unfold putK Vt
 rw[acC k h]
 split
 ·exact aav k r h
 ·exact aaw r h
abbrev PF:=D→D→List (D×D)→Option (List (D×D))
def ptK:PF:=fun k v acc=>(vV k).bind fun kk=>some (Vt kk v acc)
def dcF(h:GF)(t:BF)(fk fv:XF)(pt:PF):List D→Env→D→List (D×D)→Option (List (D×D)×D)
 | [],_,g,acc=>some (acc,g)
 | d::ds,env,g,acc=>(h d env).bind fun env1=>(t env1 g).bind fun p=>if p.1 then(fk env1 p.2).bind fun q=>(fv env1 q.2).bind fun r=>(pt q.1 r.1 acc).bind fun acc'=>dcF h t fk fv pt ds env r.2 acc' else dcF h t fk fv pt ds env p.2 acc
def abN(fi:IF)(h:GF)(t:BF)(fk fv:XF)(vs:List Nat):XF:=fun env g=>(fi env g).bind fun p=>if sz p.1.length then(dcF h t fk fv ptK p.1 (zJ env vs) p.2 []).bind fun r=>some (.dict r.1,r.2) else none
section
variable {c:Ctx} {Γ:List Fl} {Hb H:Hp} {env:Env} {g:D} {σ:L2.St}
theorem Rel.adopt(R:Rel c Γ Hb H env g σ){p:Addr}{o:HO}(e2:H p=some o)(e3:Hb p=none)(e5:c.Hc p=none)(off:∀j,¬zK c Γ Hb H env σ j p):Rel c Γ (upd Hb p o) H env g σ:=by
 have sm:Same Hb (upd Hb p o):=yE e3
 have kp:∀i a,zK c Γ Hb H env σ i a→(∀x,H a=some x→H a=some x)∧upd Hb p o a=none:=fun i a w =>
  ⟨fun x e=>e,by rw[upd_ne (fun q:a=p=>off i (by rw[←q];exact w))];exact(w.live R).2.1⟩
 refine { ext:=fun a x e=>?_,ent:=R.ent,dom:=R.dom,b0:=R.b0.trans sm,gro:=fun a o e z=>?_,bag:=fun b hb=>?_,bgs:=R.bgs,slot:=fun i d e=>?_,sep:=fun i j a ij o1 o2=>R.sep i j a ij (o1.back R sm (kp i)) (o2.back R sm (kp j)),lene:=R.lene,leng:=R.leng,bgf:=R.bgf }
 ·by_cases z:a=p
  ·subst z;rw[upd_same] at e;cases e;exact e2
  ·rw[upd_ne z] at e;exact R.ext a x e
 ·by_cases y:a=p
  ·subst y;exact e5
  ·rw[upd_ne y] at e;exact R.gro a o e z
 ·obtain⟨ys,es,z1,z2,z3,z4⟩:=R.bag b hb
  refine⟨ys,es,z1,z2,?_,z4⟩
  rw[upd_ne (fun(y:b=p)=>(R.bgs b hb) (by rw[y];exact e5))]
  exact z3
 ·obtain⟨fl,v,z1,z2,s⟩:=R.slot i d e
  exact⟨fl,v,z1,z2,s.keep sm fun a ha=>kp i a ⟨d,fl,v,e,z1,z2,ha⟩⟩
end
section
variable {Γ Γ0 Γ1:List Fl} {wi:TI} {g:TG} {tt:TT} {tk tv:TE} {h:GF} {t:BF} {fk fv:XF} {vs is:List Nat}
theorem acD{W Vk:Hp→V→D→Prop}{c:Ctx}{Hb1 H1:Hp}{env:Env}{bag gz:D}{σ:L2.St}{J:It}{items:List D}{fin:List (D×D)}{Dd:Addr}{o0:HO}{pt:PF}{PO:Hp→HO→List (D×D)→Prop}{G:Addr→V→V→Hp→(Hp→Prop)→Prop}{Qx:Hp→Prop}
  (hg:RfG W Γ0 Γ1 is g h) (ht:RfT Γ1 tt t) (hk:RfV Vk Γ1 tk fk) (vmono:∀Hb Hb' v d,Vk Hb v d→Same Hb Hb'→Vk Hb' v d) (hv':RfE Γ1 tv fv) (k0:Qh Γ Γ0 vs=true) (h0:Qz Γ vs=true) (hv:∀i∈is,i∈vs)
  (hmono:∀Hb Hb' o acc,PO Hb o acc→Same Hb Hb'→PO Hb' o acc) (hlen:∀k d acc acc',pt k d acc=some acc'→acc'.length≤acc.length+1)
  (hstep:∀Hb H5 y z k d acc acc' o (Nx:Hp→Prop),Same Hb H5→H5 Dd=some o→PO Hb o acc→acc.length<sizeLine→Vk Hb y k→Rp Hb z d→pt k d acc=some acc'→(∀o',PO Hb o' acc'→Nx (upd H5 Dd o'))→G Dd y z H5 Nx)
  (R1:Rel c Γ Hb1 H1 env bag σ) (it:ItOk W Hb1 J items) (hD:H1 Dd=none) (hz:sz items.length=true) (p0:PO Hb1 o0 []) (e:dcF h t fk fv pt items (zJ env vs) bag []=some (fin,gz))
  (hQ:∀Hb2 H2 o,Grow c Hb1 H1 Hb2 H2→Rel c Γ Hb2 H2 env gz σ→H2 Dd=some o→Hb2 Dd=none→PO Hb2 o fin→(∀j,¬zK c Γ Hb1 H1 env σ j Dd)→Qx H2) :
  ∃W:Nat→Nat→Hp→Prop,(∃m,W 0 m (upd H1 Dd o0))∧∀i m H,W i m H →
   (J.stop i H∧Qx H)∨(J.go i H∧∃Nx:Hp→Prop,(∀H',Nx H'→∃m',m'<m∧W (i+1) m' H')∧∀x H',J.yld i H x H'→g x (wipe σ vs) H' fun σ2 H2=>wipe σ2 vs=wipe σ vs∧tt σ2 H2 fun b H3 =>
    if b=true then tk σ2 H3 fun y H4=>tv σ2 H4 fun z H5=>G Dd y z H5 Nx else Nx H3):=by
 have hDc:c.Hc Dd=none:=R1.dom Dd hD
 have hDb:Hb1 Dd=none:=R1.ext.free hD
 have RB:Rel c Γ0 Hb1 (upd H1 Dd o0) (zJ env vs) bag (wipe σ vs):=(R1.newOwn hD).block k0 h0
 have off0:=R1.offNew hD
 have RW:=R1.block k0 h0
 have off:=RW.offNew hD
 refine⟨fun i m H2=>m=items.length - i∧i≤items.length∧∃Hb2 g2 o acc,Grow c Hb1 H1 Hb2 H2∧Rel c Γ0 Hb2 H2 (zJ env vs) g2 (wipe σ vs)∧H2 Dd=some o∧Hb2 Dd=none∧PO Hb2 o acc∧acc.length≤i∧dcF h t fk fv pt (items.drop i) (zJ env vs) g2 acc=some (fin,gz),
  ⟨items.length,rfl,Nat.zero_le _,Hb1,bag,o0,[],(Nw.newOwn R1.ext hD).gr,RB,upd_same,hDb,p0,Nat.le_refl _,by simpa using e⟩,?_⟩
 rintro i m H2 ⟨rfl,hil,Hb2,g2,o,acc,G2,R2,hx,hb2,hpo,hacc,ef⟩
 by_cases hlt:i<items.length
 ·refine .inr ⟨it.go i H2 (G2.b.trans R2.ext) hlt,?_⟩
  rw[List.drop_eq_getElem_cons hlt] at ef
  obtain⟨env1,y1,ef⟩:=zo ef
  obtain⟨b,y2,ef⟩:=zo ef
  refine⟨fun H3=>∃Hb3 g3 o acc,Grow c Hb1 H1 Hb3 H3∧Rel c Γ0 Hb3 H3 (zJ env vs) g3 (wipe σ vs)∧H3 Dd=some o∧Hb3 Dd=none∧PO Hb3 o acc∧acc.length≤i+1∧dcF h t fk fv pt (items.drop (i+1)) (zJ env vs) g3 acc=some (fin,gz),fun H3 hh=>⟨items.length - (i+1),by omega,rfl,by omega,hh⟩,fun x H3 hy=>?_⟩
  obtain⟨Hb3,nw,rx⟩:=it.yld i H2 Hb2 x H3 _ G2.b R2.ext hy (List.getElem?_eq_getElem hlt)
  have R3:=nw.rel R2
  refine hg c Hb3 H3 _ g2 _ x _ env1 R3 rx y1 _ fun σ4 R4 l4 k4=>⟨QB (by rw[l4,wipe_length]) fun j hj=>k4 j fun z=>hj (hv j z),?_⟩
  refine ht c Hb3 H3 env1 g2 σ4 b.1 b.2 R4 y2 _ fun Hb5 H5 G5 R5=>?_
  have Dok:∀ {Hbx Hx},Grow c Hb3 H3 Hbx Hx→Hx Dd=some o∧Hbx Dd=none:=fun {Hbx Hx} Gx=>by
   have h3:H3 Dd=some o:=nw.h _ _ hx
   refine⟨Gx.h Dd _ h3 (fun z=>(R1.bgs Dd z) hDc),?_⟩
   cases y:Hbx Dd with
   | none=>rfl
   | some ox =>
    have b3:Hb3 Dd=none:=by
     cases y3:Hb3 Dd with
     | none=>rfl
     | some o3 =>
      have:=nw.n Dd (by rw[y3];simp) hb2
      rw[hx] at this;cases this
    have:=Gx.n Dd (by rw[y];simp) b3
    rw[h3] at this;cases this
  have back:∀ {Hbx Hx gx},Grow c Hb3 H3 Hbx Hx→Rel c Γ1 Hbx Hx env1 gx σ4→Rel c Γ0 Hbx Hx (zJ env vs) gx (wipe σ vs):=fun {Hbx Hx gx} Gx RR=>R3.regrow Gx RR.ext RR.bag
  cases e5:b.1 with
  | false =>
   rw[e5,if_neg (by simp)] at ef
   rw[if_neg (by simp)]
   obtain⟨d1,d2⟩:=Dok G5
   exact⟨Hb5,b.2,o,acc,G2.trans (nw.gr.trans G5),back G5 R5,d1,d2,hmono _ _ _ _ hpo (nw.b.trans G5.b),by omega,ef⟩
  | true =>
   rw[e5,if_pos rfl] at ef
   rw[if_pos rfl]
   obtain⟨q1,y3,ef⟩:=zo ef
   obtain⟨q2,y4,ef⟩:=zo ef
   obtain⟨acc',y5,ef⟩:=zo ef
   refine hk c Hb5 H5 env1 b.2 σ4 q1.1 q1.2 R5 y3 _ fun v Hb6 H6 G6 R6 r6=>?_
   refine hv' c Hb6 H6 env1 q1.2 σ4 q2.1 q2.2 R6 y4 _ fun v7 Hb7 H7 G7 R7 r7=>?_
   have G57:=(G5.trans G6).trans G7
   obtain⟨d1,d2⟩:=Dok G57
   have R8:=back G57 R7
   have hD7:H7 Dd≠none:=by rw[d1];simp
   have hz2:items.length<sizeLine:=Gw hz
   refine hstep Hb7 H7 v v7 q1.1 q2.1 acc acc' o _ R8.ext d1 (hmono _ _ _ _ hpo (nw.b.trans G57.b)) (by omega) (vmono _ _ _ _ r6 G7.b) r7 y5 fun o' hpo'=>?_
   have GG:=G2.trans (nw.gr.trans G57)
   have hl:=hlen _ _ _ _ y5
   refine⟨Hb7,q2.2,o',acc',⟨GG.b,fun a u k io=>?_,GG.n,fun a k=>?_⟩,R8.pokeOff d2 hDc hD7 (RW.offGrow GG off),upd_same,d2,hpo',by omega,ef⟩
   ·rw[upd_ne (ne_of_none k hD)];exact GG.h a u k io
   ·by_cases z:a=Dd
    ·subst z;exact hD
    ·rw[upd_ne z] at k;exact GG.d a k
 ·have hi2:i=items.length:=by omega
  subst hi2
  refine .inl ⟨it.stop _ H2 (G2.b.trans R2.ext) (Nat.le_refl _),?_⟩
  rw[List.drop_length] at ef
  cases ef
  exact hQ Hb2 H2 o G2 (R1.regrow G2 R2.ext R2.bag) hx hb2 hpo off0
end
section
variable {Γ Γ0 Γ1:List Fl} {wi:TI} {g:TG} {tt:TT} {tk tv:TE} {fi:IF} {h:GF} {t:BF} {fk fv:XF} {vs is:List Nat}
theorem ah4{c:Ctx}{Hb1 H1 Hb2 H2:Hp}{env:Env}{g1 gz d:D}{σ:L2.St}{Dd:Addr}{u:HO}{Q:VK}(hD:H1 Dd=none)(hDc:c.Hc Dd=none)(G2:Grow c Hb1 H1 Hb2 H2)(R2:Rel c Γ Hb2 H2 env gz σ)(hx:H2 Dd=some u)(hb:Hb2 Dd=none)(R1:Rel c Γ Hb1 H1 env g1 σ)(off:∀j,¬zK c Γ Hb1 H1 env σ j Dd)
  (rp:∀od Hb3,Same Hb2 Hb3→Hb3 Dd=some (.frz od u)→Rp Hb3 (.ref Dd) d) (q:∀v Hb' H',Grow c Hb1 H1 Hb' H'→Rel c Γ Hb' H' env gz σ→Rp Hb' v d→Q v H'):∀od,Q (.ref Dd) (upd H2 Dd (.frz od u)):=fun od=>by
 have off2:=R1.offGrow G2 off
 have R3:=R2.pokeOff (o:=.frz od u) hb hDc (by rw[hx];simp) off2
 have R4:=R3.adopt upd_same hb hDc fun j w=>off2 j (w.back (Hb:=Hb2) (H:=H2) R2 (Same.refl _) fun a ho=>⟨fun x e=>by rw[upd_ne (fun q:a=Dd=>off2 j (by rw[←q];exact ho))];exact e,(ho.live R2).2.1⟩)
 refine q _ _ _ ⟨G2.b.trans (yE hb),fun a o e io=>?_,fun a e z=>?_,fun a e=>?_⟩ R4 (rp od _ (yE hb) upd_same)
 ·rw[upd_ne (ne_of_none e hD)];exact G2.h a o e io
 ·by_cases y:a=Dd
  ·subst y;exact hD
  ·rw[upd_ne y] at e;exact G2.n a e z
 ·by_cases y:a=Dd
  ·subst y;exact hD
  ·rw[upd_ne y] at e;exact G2.d a e
theorem ahK{W:Hp→V→D→Prop}(hi:RfI W Γ wi fi)(hg:RfG W Γ0 Γ1 is g h)(ht:RfT Γ1 tt t)(hk:RfE Γ1 tk fk)(hv':RfE Γ1 tv fv)(k0:Qh Γ Γ0 vs=true)(h0:Qz Γ vs=true)(hv:∀i∈is,i∈vs):RfE Γ (aep (tDc wi g tt tk tv vs)) (abN fi h t fk fv vs):=fun c Hb H env bag σ d g' R e Q q=>by
 obtain⟨p,e1,e⟩:=zo e
 split at e
 ·rename_i hz
  obtain⟨r,e2,e⟩:=zo e
  cases e
  refine hi c Hb H env bag σ p.1 p.2 R e1 _ fun J Hb1 H1 G1 R1 it Dd hD=>?_
  refine acD (PO:=fun Hb o acc=>∃kvs,o=.dK kvs∧RpK Hb kvs acc) (G:=fun D y z H5 Nx=>∃kvs k,y=kV k∧H5 D=some (.dK kvs)∧kvs.length<sizeLine∧Nx (upd H5 D (.dK (putK kvs k z)))) (Qx:=fun H=>∃d u,V.ref Dd=V.ref d∧H d=some u∧Mut (some u)∧∀od,Q (V.ref Dd) (upd H d (.frz od u))) (Vk:=Rp) hg ht hk (fun _ _ _ _ r s=>r.same s) hv' k0 h0 hv (fun Hb Hb' o acc ⟨kvs,e,rk⟩ sm=>⟨kvs,e,rk.same sm⟩) (fun k d acc acc' e=>?_) (fun Hb H5 y z k d acc acc' o Nx sm hx hpo hl rk rz hpt nx=>?_) R1 it hD hz ⟨[],rfl,.nil⟩ e2 fun Hb2 H2 o G2 R2 hx hb hpo off=>?_
  ·obtain⟨kk,_,e⟩:=zo e
   cases e
   exact YL _ _ _
  ·obtain⟨kk,y1,e⟩:=zo hpt
   cases e
   obtain⟨kvs,rfl,rkk⟩:=hpo
   have:=wL y1
   subst this
   have ey:y=kV kk:=Vs (c:=c) (H:=H5) (.inl rk)
   exact⟨kvs,kk,ey,hx,by rw[wA rkk];exact hl,nx _ ⟨_,rfl,W8 kk rz rkk⟩⟩
  ·obtain⟨kvs,rfl,rkk⟩:=hpo
   refine⟨Dd,.dK kvs,rfl,hx,True.intro,ah4 hD (R1.dom Dd hD) G2 R2 hx hb R1 off (fun od Hb3 sm h3=>.dK h3 (rkk.same sm)) fun v Hb' H' G' R' r'=>q v Hb' H' (G1.trans G') R' r'⟩
 ·cases e
end
section
variable {X:Cx}
end
end
section
variable [TheW]
section
variable {X:Cx}
end
section
variable {Γ Γ0 Γ1:List Fl} {wi:TI} {g:TG} {tt:TT} {tk tv:TE} {fi:IF} {h:GF} {t:BF} {fk fv:XF} {vs is:List Nat}
end
def abO(K:PySem.W.Frag):List V→Hp→VK→Prop:=fun xs H Q=>∃(a:Addr) (ps:List Addr) (kvs:List (Key×V)),xs=[.ref a]∧(SqL K H a (ps.map V.ref)∨W0 H a (ps.map V.ref))∧Paired (fun p kv=>SqT K H p [kV kv.1,kv.2]) ps kvs∧ps.length≤sizeLine ∧
 ∀p,H p=none→∀od,Q (.ref p) (upd H p (.frz od (.dK (mergeK [] kvs))))
section
variable {X:Cx}
theorem W9{pins:List (Addr×Obj)}{σ:L2.St}{H:Hp}{s:Shared}(I:Inv X pins σ H s):∀ {ps:List Addr} {kvs:List (Key×V)},Paired (fun p kv=>SqT X.K H p [kV kv.1,kv.2]) ps kvs →
  ∃(prs:List (Key×Value)) (us:List (Value×Value)),KV kvs prs∧prs.length=ps.length∧us.length=ps.length∧∀(j:Nat) (k v:Value),us[j]? = some (k,v)→∃b kk,ps[j]? = some b∧PairAt s.heap b k v∧prs[j]? = some (kk,v)∧keyIs kk k=true
 | _,_,.nil=>⟨[],[],.nil,rfl,rfl,fun j k v e=>by simp at e⟩
 | _,_,.cons (a:=p) (b:=kv) h t=>by
  obtain⟨prs,us,r,hl,hu,hp⟩:=W9 I t
  obtain⟨its,rv,ht,_⟩:=I.tuple h
  obtain⟨u,y,ei,ru,ry⟩:=vals2 rv
  subst ei
  refine⟨(kv.1,y)::prs,(u,y)::us,.cons ⟨rfl,ry⟩ r,by simp[hl],by simp[hu],fun j k v e=>?_⟩
  cases j with
  | zero =>
   have e':(u,y)=(k,v):=Option.some.inj e
   cases e'
   exact⟨p,kv.1,rfl,.inl ht,rfl,kV_is (P:=X.prog) (w:=X.w) ru⟩
  | succ j =>
   obtain⟨b,kk,e1,e2,e3,e4⟩:=hp j k v (by simpa using e)
   exact⟨b,kk,by simpa using e1,e2,by simpa using e3,e4⟩
theorem Xa(hc:X.calm=true):CallR X (.type "dict") (abO X.K):=by
 intro pins s σ H xs us Q I r h
 obtain⟨a,ps,kvs,rfl,hq,hp,hz,q⟩:=h
 rw[Vals.ref1 r]
 obtain⟨prs,prv,rel,hl,hlu,hpr⟩:=W9 I hp
 have items:∀ {its:List Value},Vals (ps.map V.ref) its→PairItems s.heap its.toArray (fun j=>ps.getD j 0) prv:=fun {its} rv=>by
  have ei:=refs_at rv
  subst ei
  refine⟨by simp[hlu],fun j k v e=>?_⟩
  obtain⟨b,kk,e1,e2,_⟩:=hpr j k v e
  have e3:ps.getD j 0=b:=by rw[List.getD_eq_getElem?_getD,e1];rfl
  show _=some (Value.ref (ps.getD j 0))∧PairAt s.heap (ps.getD j 0) k v
  rw[e3]
  exact⟨by simp[e1],e2⟩
 have have':PairsHave (mixKind X.prog X.w) prv.length (PairRel prv) prs:=⟨by omega,fun i key v e=>by
  obtain⟨b,kk,e1,e2,e3,e4⟩:=hpr i key v e
  exact⟨kk,e3,e4⟩⟩
 have fin:∀(h':Heap) (tk:Nat),h'.DictOf (mixKind X.prog X.w) s.heap.objs.size (merged [] prs)→(∀b o,b∉([]:List Addr)→s.heap.get? b=some o→h'.get? b=some o)→EP X pins σ Q (.ref s.heap.objs.size) { s with heap:=h',toks:=tk }:=fun h' tk hd' k=>by
  have hm:(s.heap.objs.size == sysModules)=false:=beq_eq_false_iff_ne.mpr (Nat.ne_of_gt I.big)
  have hlen:(mergeK [] kvs).length≤sizeLine:=by
   refine Nat.le_trans (length_mergeK kvs []) ?_
   rw[List.length_nil,Nat.zero_add,rel.length,hl]
   exact hz
  have hn:=I.hok.fresh (Nat.le_refl s.heap.objs.size)
  have I2:Inv X pins σ (upd H s.heap.objs.size (.dK (mergeK [] kvs))) { s with heap:=h',toks:=tk } :=
   I.laid (t':=tk) (fun b o e=>k b o (by simp) e) (Nat.le_refl _) (show ObjOk X.prog X.w _ _ _ (.dK (mergeK [] kvs)) from⟨hlen,hm,merged [] prs,KV.merge rel .nil,hd'⟩)
  obtain⟨od,I3⟩:=I2.lock (d:=s.heap.objs.size) upd_same True.intro
  have e:upd (upd H s.heap.objs.size (.dK (mergeK [] kvs))) s.heap.objs.size (.frz od (.dK (mergeK [] kvs)))=upd H s.heap.objs.size (.frz od (.dK (mergeK [] kvs))):=by
   funext b
   by_cases z:b=s.heap.objs.size
   ·subst z;rw[upd_same,upd_same]
   ·rw[upd_ne z,upd_ne z,upd_ne z]
  rw[e] at I3
  exact⟨.ref s.heap.objs.size,_,I3,rfl,q _ hn od⟩
 rcases hq with hq | hq
 ·obtain⟨its,rv,pl,_⟩:=I.list hq
  obtain⟨o,n,ho,hcl,hd,hdat⟩:=pl
  exact PySem.call_dict_pairs (knd:=mixKind X.prog X.w) (kvs:=prs) (PairArg.list a its.toArray _ prv) (I.ok.hd hc) ⟨⟨o,n,ho,hcl,hd,hdat⟩,items rv⟩ have' (by omega) fin
 ·obtain⟨od,hfz,hnd⟩:=hq
  obtain⟨hget,_,its,rv,o,ho,hcl,n,hdat⟩:=(show ObjOk X.prog X.w H s.heap a (.frz od (.tup (ps.map V.ref))) from I.hok a _ hfz)
  have eo:od=o:=Option.some.inj (hget.symm.trans ho)
  have hd:o.dict=none:=eo▸hnd
  exact PySem.call_dict_pairs (knd:=mixKind X.prog X.w) (kvs:=prs) (PairArg.tuple a its.toArray _ prv) (I.ok.hd hc) ⟨⟨o,n,ho,hcl,hd,hdat⟩,items rv⟩ have' (by omega) fin
end
end
section
variable [TheW]
def WL:List D→Option (List (Key×D))
 | []=>some []
 | .tuple [k,v]::r=>(vV k).bind fun kk=>(WL r).bind fun rs=>some ((kk,v)::rs)
 | _=>none
def Yk(acc:List (D×D))(kvs:List (Key×D)):List (D×D):=kvs.foldl (fun a kv=>Vt kv.1 kv.2 a) acc
theorem aax{H:Hp}:∀ {kvs:List (Key×V)} {ps:List (Key×D)} {a:List (Key×V)} {b:List (D×D)},Paired (fun(x:Key×V) (y:Key×D)=>x.1=y.1∧Rp H x.2 y.2) kvs ps→RpK H a b→RpK H (mergeK a kvs) (Yk b ps)
 | _,_,_,_,.nil,h=>h
 | _,_,a,b,.cons (a:=x) (b:=y) h t,r=>by
  show RpK H (mergeK (putK a x.1 x.2) _) (Yk (Vt y.1 y.2 b) _)
  refine aax t ?_
  rw[←h.1]
  exact W8 _ h.2 r
theorem aay{K:PySem.W.Frag}{Hb H:Hp}(sm:Same Hb H):∀ {ds:List D} {ps:List (Key×D)} {xs:List V},RpL Hb xs ds→WL ds=some ps →
  ∃(as:List Addr) (kvs:List (Key×V)),xs=as.map V.ref∧Paired (fun p kv=>SqT K H p [kV kv.1,kv.2]) as kvs∧Paired (fun(x:Key×V) (y:Key×D)=>x.1=y.1∧Rp Hb x.2 y.2) kvs ps
 | [],_,_,.nil,e=>by cases e;exact⟨[],[],rfl,.nil,.nil⟩
 | .tuple [k,v]::r,ps,_,.cons (v:=x) h t,e=>by
  obtain⟨kk,e1,e⟩:=zo (show(vV k).bind (fun kk=>(WL r).bind fun rs=>some ((kk,v)::rs))=some ps from e)
  obtain⟨rs,e2,e⟩:=zo e
  cases e
  obtain⟨as,kvs,rfl,h1,h2⟩:=aay (K:=K) sm t e2
  cases h with
  | tup ha hd hx =>
   have ek:=wL e1
   subst ek
   cases hx with
   | cons rk hx =>
    cases hx with
    | cons rv hx =>
     cases hx
     have ey:_=kV kk:=Vs (c:=⟨Hb,Hb,none,noH,sN _⟩) (H:=Hb) (.inl rk)
     subst ey
     exact⟨_::as,(kk,_)::kvs,rfl,.cons (.inl (.inr ⟨_,sm _ _ ha⟩)) h1,.cons ⟨rfl,rv⟩ h2⟩
 | .none::_,_,_,_,e=>by cases e
 | .bool _::_,_,_,_,e=>by cases e
 | .int _::_,_,_,_,e=>by cases e
 | .str _::_,_,_,_,e=>by cases e
 | .list _::_,_,_,_,e=>by cases e
 | .dict _::_,_,_,_,e=>by cases e
 | .tuple []::_,_,_,_,e=>by cases e
 | .tuple [_]::_,_,_,_,e=>by cases e
 | .tuple (_::_::_::_)::_,_,_,_,e=>by cases e
def QE:List D→Option D
 | [d]=>(y9 d).bind fun ds=>(WL ds).bind fun ps=>if sz ds.length then some (.dict (Yk [] ps)) else none
 | _=>none
theorem W0.same{H H':Hp}{p:Addr}{xs:List V}(h:W0 H p xs)(sm:Same H H'):W0 H' p xs:=let ⟨o,e,d⟩:=h;⟨o,sm _ _ e,d⟩
theorem Xb{K:PySem.W.Frag}:RfC (abO K) QE:=fun c Hb H xs ds d sm r e Q q=>by
 unfold QE at e
 split at e
 ·obtain⟨zs,e1,e⟩:=zo e
  obtain⟨ps,e2,e⟩:=zo e
  split at e
  ·rename_i hz
   cases e
   cases r with
   | cons r1 rr =>
    cases rr
    have fin:∀(p:Addr) (ys:List V),(SqL K H p ys∨W0 H p ys)→RpL Hb ys zs→abO K [V.ref p] H Q:=fun p ys h1 h2=>by
     obtain⟨as,kvs,rfl,z1,z2⟩:=aay (K:=K) sm h2 e2
     refine⟨p,as,kvs,rfl,h1,z1,?_,fun z hzn od=>?_⟩
     ·have:=h2.length
      rw[List.length_map] at this
      rw[this];exact V9 hz
     ·have w:=Nw.new (o:=.frz od (.dK (mergeK [] kvs))) sm hzn
      exact q _ _ _ w (.dK upd_same ((aax z2 .nil).same w.b))
    rcases ww e1 with z | z
    ·subst z
     obtain⟨p,ys,rfl,h1,h2⟩:=r1.list sm
     exact fin p ys (.inl (SqL.of h1)) h2
    ·subst z
     obtain⟨p,ys,rfl,h1,h2⟩:=r1.tuple
     exact fin p ys (.inr (h1.same sm)) h2
  ·cases e
 ·cases e
section
variable {prog:Program} {w:World} {A:Around} {E:Value→Shared→Prop}
end
section
variable {Γ:List Fl} {K:PySem.W.Frag} {ta:TA} {fl:LF}
end
end
section
variable [TheW]
abbrev PtF:=Env→D→Option (Option Int×D)
def afR(Γ:List Fl)(t:TO)(f:PtF):Prop:=∀(c:Ctx) (Hb H:Hp) (env:Env) (g:D) (σ:L2.St) (o:Option Int) (g':D),Rel c Γ Hb H env g σ→f env g=some (o,g') →
 ∀Q:Option Int→Hp→Prop,(∀Hb' H',Grow c Hb H Hb' H'→Rel c Γ Hb' H' env g' σ→Q o H')→t σ H Q
def pNo:PtF:=fun _ g=>some (none,g)
def wv(f:XF):PtF:=fun env g=>(f env g).bind fun p=>match p.1 with
 | .int i=>some (some i,p.2)
 | _=>none
def Jm{α:Type}(ds:List α)(lo hi:Option Int):List α:=(ds.drop (HT.sIx ds.length 0 lo)).take (HT.sIx ds.length ds.length hi - HT.sIx ds.length 0 lo)
theorem abP{H:Hp}{xs:List V}{ds:List D}(r:RpL H xs ds)(lo hi:Option Int):RpL H (cutV xs lo hi) (Jm ds lo hi):=by
 unfold cutV Jm
 rw[r.length]
 exact(r.drop _).take _
def afS(K:PySem.W.Frag):V→Option Int→Option Int→Hp→VK→Prop:=fun x lo hi H Q=>rSlL K x lo hi H Q∨ahE K x lo hi H Q
theorem Yl{X:Cx}:SlR X (afS X.K):=sl_list.or afM
def aet(d:D)(lo hi:Option Int):Option D:=match d with
 | .list ds=>some (.list (Jm ds lo hi))
 | .tuple ds=>some (.tuple (Jm ds lo hi))
 | _=>none
def afT(d:D)(lo hi:Option Int):Option (List D):=match d with
 | .list ds=>some (Jm ds lo hi)
 | _=>none
def xSl(f:XF)(pl ph:PtF):XF:=fun env g=>(f env g).bind fun p=>(pl env p.2).bind fun l=>(ph env l.2).bind fun h=>(aet p.1 l.1 h.1).bind fun d=>some (d,h.2)
def aib(f:XF)(pl ph:PtF):XF:=fun env g=>(f env g).bind fun p=>(pl env p.2).bind fun l=>(ph env l.2).bind fun h=>(afT p.1 l.1 h.1).bind fun d=>some (.list d,h.2)
section
variable {Γ:List Fl} {K:PySem.W.Frag} {te:TE} {f:XF} {tl th:TO} {pl ph:PtF}
theorem QV:afR Γ tNoPart pNo:=fun c Hb H env g σ o g' R e Q q=>by
 cases e
 exact q Hb H (Grow.refl _ _ _) R
theorem Jf(h:RfB Γ te f):afR Γ (tPart te) (wv f):=fun c Hb H env g σ o g' R e Q q=>by
 obtain⟨p,e1,e⟩:=zo e
 split at e
 ·rename_i i hp
  cases e
  refine h c Hb H env g σ p.1 p.2 R e1 _ fun v Hb1 H1 G1 R1 r1=>?_
  rw[hp] at r1
  exact⟨i,r1.int,q Hb1 H1 G1 R1⟩
 ·cases e
theorem Zl(h:RfB Γ te f)(hl:afR Γ tl pl)(hh:afR Γ th ph):RfE Γ (tSl (afS K) te tl th) (xSl f pl ph):=fun c Hb H env g σ d g' R e Q q=>by
 obtain⟨p,e1,e⟩:=zo e
 obtain⟨l,e2,e⟩:=zo e
 obtain⟨u,e3,e⟩:=zo e
 obtain⟨d2,e4,e⟩:=zo e
 cases e
 refine h c Hb H env g σ p.1 p.2 R e1 _ fun v Hb1 H1 G1 R1 r1=>hl c Hb1 H1 env p.2 σ l.1 l.2 R1 e2 _ fun Hb2 H2 G2 R2=>hh c Hb2 H2 env l.2 σ u.1 u.2 R2 e3 _ fun Hb3 H3 G3 R3=>?_
 have r3:=r1.grow (G2.trans G3)
 unfold aet at e4
 split at e4
 ·rename_i ds hp
  cases e4
  rw[hp] at r3
  obtain⟨a,xs,rfl,h1,h2⟩:=r3.list R3.ext
  refine .inl ⟨a,xs,rfl,SqL.of h1,fun z hz=>?_⟩
  have w:=Nw.new (o:=.lst (cutV xs l.1 u.1)) R3.ext hz
  exact q _ _ _ (((G1.trans G2).trans G3).trans w.gr) (w.rel R3) (.lst upd_same ((abP h2 _ _).same w.b))
 ·rename_i ds hp
  cases e4
  rw[hp] at r3
  obtain⟨a,xs,rfl,h1,h2⟩:=r3.tuple
  refine .inr ⟨a,xs,rfl,h1.sq R3.ext,fun ec=>?_,fun z od hz hd=>?_⟩
  ·have:=abP h2 l.1 u.1
   rw[ec] at this
   exact q _ Hb3 H3 ((G1.trans G2).trans G3) R3 (.tp h1 this)
  ·have w:=Nw.new (o:=.frz od (.tup (cutV xs l.1 u.1))) R3.ext hz
   exact q _ _ _ (((G1.trans G2).trans G3).trans w.gr) (w.rel R3) (.tup upd_same hd ((abP h2 _ _).same w.b))
 ·cases e4
end
def tyD:D→String
 | .none => "NoneType"
 | .bool _ => "bool"
 | .int _ => "int"
 | .str _ => "str"
 | .list _ => "list"
 | .tuple _ => "tuple"
 | .dict _ => "dict"
def YM:D→Bool
 | .dict ds=>!isT ds
 | _=>true
theorem aeu{K:PySem.W.Frag}{c:Ctx}{Hb H:Hp}{v:V}{d:D}(sm:Same Hb H)(r:Rb c Hb H v d)(ok:YM d=true):TyX K H v (.type (tyD d)):=by
 rcases r with r | ⟨p,xs,ds,rfl,rfl,h3,h4,h5⟩
 ·cases r with
  | non=>exact .base .non
  | bl b=>exact .base (.bl b)
  | int i=>exact .base (.int i)
  | str x=>exact .base (.str x)
  | lst h _=>exact .base (.lst (sm _ _ h))
  | tup h _ _=>exact .fTuple (sm _ _ h)
  | dK h _=>exact .fDict (sm _ _ h)
  | dT h hr =>
   have:=YJ hr
   simp[YM,this] at ok
  | dX h hx hr =>
   have:=YK hr
   simp[YM,this] at ok
 ·exact .base (.lst h3)
def JQ(T:String)(f:XF):XF:=fun env g=>(f env g).bind fun p=>if YM p.1 then(kitB (tyD p.1) T).bind fun b=>some (.bool b,p.2) else none
section
variable {Γ:List Fl} {K:PySem.W.Frag} {te:TE} {f:XF}
theorem aev(T:String)(h:RfB Γ te f):RfE Γ (tCB (rIsi K) (tCons te (tCons (tC (.ty T)) tNil))) (JQ T f):=fun c Hb H env g σ d g' R e Q q=>by
 obtain⟨p,e1,e⟩:=zo e
 split at e
 ·rename_i ok
  obtain⟨b,e2,e⟩:=zo e
  cases e
  exact h c Hb H env g σ p.1 p.2 R e1 _ fun v Hb1 H1 G1 R1 r1=>⟨v,.ty T,_,_,b,rfl,.ty T,aeu R1.ext r1 ok,kit_ty e2,q _ Hb1 H1 G1 R1 (.bl b)⟩
 ·cases e
end
def aic(f:XF):IF:=fun env g=>(f env g).bind fun p=>(y9 p.1).bind fun ds=>some (ds.reverse,p.2)
section
variable {Γ:List Fl} {K:PySem.W.Frag} {te:TE} {f:XF}
end
end
section
variable [TheW]
section
variable {Γ Γ1 Γ' Γk:List Fl} {te ta tb:TE} {fe fa fb:XF} {K:PySem.W.Frag}
theorem Zm(l:Addr)(items:Array Value)(n:Nat)(b:Addr)(items2:Array Value)(n2:Nat)(dd:Option Addr)(sl:Array (Option Value))(c:items.size+items2.size≤sizeLine) :
  Meets (Builtin.«list.extend» ⟨[.ref l,.ref b],[]⟩) (fun _ R s=>s.heap.get? l=some { cls:=.type "list",data:=.seq items n }∧s.heap.get? b=some { cls:=.type "tuple",dict:=dd,data:=.seq items2 n2,slots:=sl } ∧
   R (.ok (.ret Value.none)) { s with heap:=s.heap.update l (Obj.mapSeq (· ++ items2)) }) :=
 .of_wp fun prog w A R s h=>by
  obtain⟨hp,g,d,tk,os⟩:=s
  obtain⟨hl,hb,h⟩:=h
  have c1:(!items.isEmpty&&Builtin.List.listTooLong (items.size+items2.size))=false:=by
   have:Builtin.List.listTooLong (items.size+items2.size)=false:=decide_eq_false (by omega)
   rw[this,Bool.and_false]
  have c2:(Obj.mapSeq (fun x=>x++items2) { cls:=Value.type "list",data:=Data.seq items n }).data.pastItsLine=none:=by
   show(if(items++items2).size>sizeLine+1 then some "sequence:memory" else none)=none
   rw[if_neg (by rw[Array.size_append];omega)]
  wp_walk using wpAny_loadPart' hb,wpAny_loadPart' hl
  rw[c2]
  wp_walk using wpAny_loadPart' hb,wpAny_loadPart' hl
  exact⟨_,rfl,h⟩
def ahL(K:PySem.W.Frag):V→List V→Hp→VK→Prop:=fun x vs H Q=>∃l b xs zs,x=.ref l∧vs=[.ref b]∧H l=some (.lst xs)∧SqT K H b zs∧xs.length+zs.length≤sizeLine∧Q .non (upd H l (.lst (xs++zs)))
def agA(K:PySem.W.Frag):V→List V→Hp→VK→Prop:=fun x vs H Q=>rExtend x vs H Q∨ahL K x vs H Q
theorem acE{X:Cx}:MtR X "list.extend" (agA X.K):=by
 intro pins s σ H x vs v us Q I rx rv h
 rcases h with h | h
 ·exact mt_extend pins s σ H x vs v us Q I rx rv h
 ·obtain⟨l,b,xs,zs,rfl,rfl,hl,hb,hz,q⟩:=h
  cases rx
  obtain⟨u,rfl,ru⟩:=rv.one
  cases ru
  obtain⟨its,n,r,ho,hs⟩:=I.lst hl
  obtain⟨its2,r2,⟨⟨cls,dd,data,sl⟩,ho2,hc,n2,hd⟩,hs2⟩:=I.tuple hb
  simp only at hc hd
  subst hc hd
  have e1:its.length=xs.length:=r.length.symm
  have e2:its2.length=zs.length:=r2.length.symm
  refine call_meets F.slot_list_extend ⟨_,ho,rfl⟩ F.entry_list_extend (F.args_list_extend_2 _ _) (Zm l its.toArray n b its2.toArray n2 dd sl (by simp only[List.size_toArray];omega)) ⟨ho,ho2,?_⟩
  exact⟨.non,_,I.lset (its':=its++its2) (t':=s.toks) hl ho (by simp) (r.append r2) (by rw[List.length_append];exact hz),rfl,q⟩
def Jn(i:Nat)(f:XF):SF:=fun env g=>(xV i env g).bind fun _=>(f env g).bind fun p=>(y9 p.1).bind fun es=>(env[i]?.join.bind Ji).bind fun ds=>if sz (ds.length+es.length) then some (.nx (env.set i (some (.list (ds++es)))) p.2) else none
theorem aaz{i:Nat}(hi:Γ[i]? = some .ow)(he:RfB Γ te fe):RfS Γ Γ Γk (tDrop (tBM K "list" (agA K) (tVar i) (tCons te tNil))) (Jn i fe):=fun c Hb H env g σ r R e Dn w=>by
 obtain⟨_,_,e⟩:=zo e
 obtain⟨p,e1,e⟩:=zo e
 obtain⟨es,e0,e⟩:=zo e
 obtain⟨ds,e2,e⟩:=zo e
 split at e
 ·rename_i hz
  cases e
  obtain⟨y0,a,xs,y1,y2,y3,y4,y5⟩:=jd R hi e2
  refine⟨.ref a,y1,.inl ⟨rfl,xs,SqL.of y2⟩,he c Hb H env g σ p.1 p.2 R e1 _ fun v Hb1 H1 G1 R1 r1=>?_⟩
  obtain⟨_,b,ys,z1,z2,z3,z4,z5⟩:=jd R1 hi e2
  rw[y1] at z1;cases z1
  rcases ww e0 with z0 | z0
  ·rw[z0] at r1
   obtain⟨b2,zs,rfl,w1,w2⟩:=r1.list R1.ext
   refine .inl ⟨a,b2,ys,zs,rfl,rfl,z2,w1,by rw[z5.length,w2.length];exact V9 hz,?_⟩
   exact w Hb1 _ σ G1.b (R1.poke hi ⟨_,y0⟩ y1 z3 z4 (by rw[z2];simp) (z5.append w2))
  ·rw[z0] at r1
   rcases r1 with r1 | ⟨_,_,_,_,k,_⟩
   ·cases r1 with
    | @tup b2 o zs _ w1 w0 w2 =>
     have tp:W0 Hb1 b2 zs:=⟨o,w1,w0⟩
     refine .inr ⟨a,b2,ys,zs,rfl,rfl,z2,tp.sq R1.ext,by rw[z5.length,w2.length];exact V9 hz,?_⟩
     exact w Hb1 _ σ G1.b (R1.poke hi ⟨_,y0⟩ y1 z3 z4 (by rw[z2];simp) (z5.append w2))
   ·cases k
 ·cases e
def ahM:V→List V→Hp→VK→Prop:=fun x vs H Q=>∃(l:Addr) (xs:List V) (i:Int) (y:V),x=.ref l∧vs=[.int i,y]∧H l=some (.lst xs)∧xs.length<sizeLine∧0≤i∧i<2^63∧Q .non (upd H l (.lst (xs.take i.toNat++[y]++xs.drop i.toNat)))
theorem ah5{X:Cx}:MtR X "list.insert" ahM:=mt_insert
def Xc(i:Nat)(fn f:XF):SF:=fun env g=>(xV i env g).bind fun _=>(fn env g).bind fun n=>(f env n.2).bind fun p=>(env[i]?.join.bind Ji).bind fun ds=>match n.1 with
 | .int k=>if sz ds.length&&decide (0≤k∧k<2^63) then some (.nx (env.set i (some (.list (ds.take k.toNat++[p.1]++ds.drop k.toNat)))) p.2) else none
 | _=>none
theorem aew{i:Nat}(hi:Γ[i]? = some .ow)(hn:RfB Γ ta fa)(he:RfE Γ te fe):RfS Γ Γ Γk (tDrop (tBM K "list" ahM (tVar i) (tCons ta (tCons te tNil)))) (Xc i fa fe):=fun c Hb H env g σ r R e Dn w=>by
 obtain⟨_,_,e⟩:=zo e
 obtain⟨n,e0,e⟩:=zo e
 obtain⟨p,e1,e⟩:=zo e
 obtain⟨ds,e2,e⟩:=zo e
 split at e
 ·rename_i k hk
  split at e
  ·rename_i hz
   cases e
   simp only[Bool.and_eq_true,decide_eq_true_eq] at hz
   obtain⟨y0,a,xs,y1,y2,y3,y4,y5⟩:=jd R hi e2
   refine⟨.ref a,y1,.inl ⟨rfl,xs,SqL.of y2⟩,hn c Hb H env g σ n.1 n.2 R e0 _ fun u Hb1 H1 G1 R1 r1=>he c Hb1 H1 env n.2 σ p.1 p.2 R1 e1 _ fun v Hb2 H2 G2 R2 r2=>?_⟩
   obtain⟨_,b,ys,z1,z2,z3,z4,z5⟩:=jd R2 hi e2
   rw[y1] at z1;cases z1
   rw[hk] at r1
   have:=r1.int
   subst this
   refine⟨a,ys,k,v,rfl,rfl,z2,by rw[z5.length];exact Gw hz.1,hz.2.1,hz.2.2,?_⟩
   exact w Hb2 _ σ (G1.b.trans G2.b) (R2.poke hi ⟨_,y0⟩ y1 z3 z4 (by rw[z2];simp) (((z5.take _).append (.one r2)).append (z5.drop _)))
  ·cases e
 ·cases e
theorem RpL.dropLast{H:Hp}:∀ {vs:List V} {ds:List D},RpL H vs ds→RpL H vs.dropLast ds.dropLast
 | _,_,.nil=>.nil
 | _,_,.cons h .nil=>.nil
 | _,_,.cons h (.cons h2 t)=>.cons h (RpL.dropLast (.cons h2 t))
def aaA(i:Nat)(f:XF):SF:=fun env g=>(xV i env g).bind fun x=>(f env g).bind fun p=>match x.1,p.1 with
 | .int a,.int b=>some (.nx (env.set i (some (.int (a+b)))) p.2)
 | _,_=>none
theorem ah6{i:Nat}(hi:Γ[i]? = some .sh)(he:RfB Γ te fe)(h0:Γ[i]? ≠ some .bg):RfS Γ Γ Γk (tAug i te (ipI fun i j=>i+j)) (aaA i fe):=fun c Hb H env g σ r R e Dn w=>by
 obtain⟨x,e0,e⟩:=zo e
 obtain⟨p,e1,e⟩:=zo e
 split at e
 ·rename_i a b hx hp
  cases e
  obtain⟨e3,_⟩:=jl (show xV i env g=some (x.1,x.2) from e0)
  obtain⟨fl,v,z1,z2,z3⟩:=R.slot i _ e3
  rw[hi] at z1;cases z1
  rw[hx] at z3
  have z3:Rp Hb v (.int a):=z3
  cases z3
  refine⟨.int a,z2,he c Hb H env g σ p.1 p.2 R e1 _ fun u Hb1 H1 G1 R1 r1=>?_⟩
  rw[hp] at r1
  have:=r1.int
  subst this
  have hl:i<Γ.length:=(List.getElem?_eq_some_iff.mp hi).1
  have R2:=R1.setS (d:=.int (a+b)) (.int (a+b)) hl h0
  have eΓ:Γ.set i .sh=Γ:=by
   apply List.ext_getElem?
   intro j
   by_cases q:i=j
   ·subst q;rw[List.getElem?_set_self hl,hi]
   ·rw[List.getElem?_set_ne q]
  rw[eΓ] at R2
  exact⟨a,b,rfl,rfl,w Hb1 H1 _ G1.b R2⟩
 ·cases e
def ZW:Bool→Fl
 | true=>.ow
 | false=>.sh
def VOk(b:Bool)(c:Ctx)(Hb H:Hp)(v:V)(d:D):Prop:=if b then ∃p xs ds,v=.ref p∧d=.list ds∧H p=some (.lst xs)∧Hb p=none∧c.Hc p=none∧RpL Hb xs ds else Rp Hb v d
def RfK(b:Bool)(Γ:List Fl)(te:TE)(f:XF):Prop:=∀(c:Ctx) (Hb H:Hp) (env:Env) (g:D) (σ:L2.St) (d g':D),Rel c Γ Hb H env g σ→f env g=some (d,g') →
 ∀Q:VK,(∀v Hb' H',Grow c Hb H Hb' H'→Rel c Γ Hb' H' env g' σ→VOk b c Hb' H' v d→(b=true→∀p,v=.ref p→H p=none)→Q v H')→te σ H Q
theorem RfE.k(h:RfE Γ te fe):RfK false Γ te fe:=fun c Hb H env g σ d g' R e Q q=>h c Hb H env g σ d g' R e Q fun v Hb' H' G R' r=>q v Hb' H' G R' r (fun z=>by cases z)
theorem RfN.k(h:RfN Γ te fe):RfK true Γ te fe:=fun c Hb H env g σ d g' R e Q q=>h c Hb H env g σ d g' R e Q fun p xs ds Hb' H' G R' e1 e2 e3 e4 e5 e6=>q _ Hb' H' G R' ⟨p,xs,ds,rfl,e1,e2,e3,e5,e6⟩ fun _ p' z=>by cases z;exact e4
theorem VOk.grow{b:Bool}{c:Ctx}{Hb H Hb' H':Hp}{env:Env}{g:D}{σ:L2.St}{v:V}{d:D}(R:Rel c Γ Hb H env g σ)(h:VOk b c Hb H v d)(G:Grow c Hb H Hb' H'):VOk b c Hb' H' v d:=by
 cases b with
 | false=>exact Rp.same (show Rp Hb v d from h) G.b
 | true =>
  obtain⟨p,xs,ds,rfl,rfl,h3,h4,h5,h6⟩:=h
  refine⟨p,xs,ds,rfl,rfl,G.h _ _ h3 (fun q=>(R.bgs _ q) h5),?_,h5,h6.same G.b⟩
  cases q:Hb' p with
  | none=>rfl
  | some o =>
   have z:=G.n p (by rw[q];simp) h4
   rw[h3] at z;cases z
theorem Rel.setV{b:Bool}{c:Ctx}{Hb H:Hp}{env:Env}{g:D}{σ:L2.St}{v:V}{d:D}(R:Rel c Γ Hb H env g σ)(h:VOk b c Hb H v d){i:Nat}(hi:i<Γ.length)(h0:Γ[i]? ≠ some .bg)
  (off:b=true→∀j p,j≠i→v=.ref p→¬zK c Γ Hb H env σ j p):Rel c (Γ.set i (ZW b)) Hb H (env.set i (some d)) g (σ.set i (some v)):=by
 cases b with
 | false=>exact R.setS h hi h0
 | true =>
  obtain⟨p,xs,ds,rfl,rfl,h3,h4,h5,h6⟩:=h
  exact R.setO h3 h4 h5 h6 hi h0 fun j q=>off rfl j p q rfl
theorem Xd{b:Bool}{c:Ctx}{Hb H:Hp}{env:Env}{σ:L2.St}{i:Nat}{v:V}{d:D}{p:Addr}(hi:i<Γ.length)(hs:i<σ.length)(o:zK c (Γ.set i (ZW b)) Hb H (env.set i (some d)) (σ.set i (some v)) i p):b=true∧v=.ref p:=by
 obtain⟨d',fl,v',e1,e2,e3,e4⟩:=o
 rw[List.getElem?_set_self hi] at e2;cases e2
 rw[List.getElem?_set_self hs] at e3;cases e3
 cases b with
 | false=>exact e4.elim
 | true=>exact⟨rfl,e4⟩
theorem Xe{fl:Fl}{c:Ctx}{Hb H:Hp}{env:Env}{σ:L2.St}{i j:Nat}{v:V}{d:D}{p:Addr}(ij:i≠j)(o:zK c (Γ.set i fl) Hb H (env.set i (some d)) (σ.set i (some v)) j p):zK c Γ Hb H env σ j p :=
 o.eqs (List.getElem?_set_ne ij) (List.getElem?_set_ne ij) (List.getElem?_set_ne ij)
def jb(i j:Nat)(fa fb:XF):SF:=fun env g=>(fa env g).bind fun p=>(fb env p.2).bind fun q=>some (.nx ((env.set i (some p.1)).set j (some q.1)) q.2)
theorem vne{b1 b2:Bool}{c:Ctx}{Hb1 H1:Hp}{u v:V}{d1:D}(o1:VOk b1 c Hb1 H1 u d1)(h1:b1=true)(f2:b2=true→∀p,v=.ref p→H1 p=none)(h2:b2=true):u≠v:=fun z=>by
 subst h1
 obtain⟨p,xs,ds,rfl,_,h3,_⟩:=o1
 rw[f2 h2 p z.symm] at h3;cases h3
theorem abQ{b1 b2:Bool}{i j:Nat}(h1:RfK b1 Γ ta fa)(h2:RfK b2 Γ tb fb)(hi:i<Γ.length)(hj:j<Γ.length)(hij:i≠j)(h0:Qz Γ [i,j]=true):RfS Γ ((Γ.set i (ZW b1)).set j (ZW b2)) Γk (tPar i j (tCons ta (tCons tb tNil))) (jb i j fa fb):=fun c Hb H env g σ r R e Dn w=>by
 obtain⟨p,e1,e⟩:=zo e
 obtain⟨q,e2,e⟩:=zo e
 cases e
 refine h1 c Hb H env g σ p.1 p.2 R e1 _ fun u Hb1 H1 G1 R1 o1 f1=>h2 c Hb1 H1 env p.2 σ q.1 q.2 R1 e2 _ fun v Hb2 H2 G2 R2 o2 f2=>⟨u,v,rfl,?_⟩
 have o1':=o1.grow R1 G2
 have hs:i<σ.length:=by rw[←R2.leng];exact hi
 have ra:=R2.setV o1' hi (fun z=>jm h0 z (by simp)) fun hb1 k p0 _ ev o=>RfN.old R (G1.trans G2) o (f1 hb1 p0 ev)
 refine w Hb2 H2 _ (G1.trans G2).b (ra.setV o2 (by simpa using hj) ?_ fun hb2 k p0 hk ev o=>?_)
 ·rw[List.getElem?_set_ne hij]
  exact fun z=>jm h0 z (by simp)
 ·by_cases z:i=k
  ·subst z
   obtain⟨y1,y2⟩:=Xd hi hs o
   exact vne o1 y1 f2 hb2 (y2.trans ev.symm)
  ·exact RfN.old R1 G2 (Xe z o) (f2 hb2 p0 ev)
variable {tc:TE} {fc:XF}
def acF(i j l:Nat)(fa fb fc:XF):SF:=fun env g=>(fa env g).bind fun p=>(fb env p.2).bind fun q=>(fc env q.2).bind fun r=>some (.nx (((env.set i (some p.1)).set j (some q.1)).set l (some r.1)) r.2)
theorem ah7{b1 b2 b3:Bool}{i j l:Nat}(h1:RfK b1 Γ ta fa)(h2:RfK b2 Γ tb fb)(h3:RfK b3 Γ tc fc)(hi:i<Γ.length)(hj:j<Γ.length)(hl:l<Γ.length)(hij:i≠j)(hil:i≠l)(hjl:j≠l)(h0:Qz Γ [i,j,l]=true) :
  RfS Γ (((Γ.set i (ZW b1)).set j (ZW b2)).set l (ZW b3)) Γk (tPar3 i j l (tCons ta (tCons tb (tCons tc tNil)))) (acF i j l fa fb fc):=fun c Hb H env g σ r R e Dn w=>by
 obtain⟨p,e1,e⟩:=zo e
 obtain⟨q,e2,e⟩:=zo e
 obtain⟨r3,e3,e⟩:=zo e
 cases e
 refine h1 c Hb H env g σ p.1 p.2 R e1 _ fun u Hb1 H1 G1 R1 o1 f1=>h2 c Hb1 H1 env p.2 σ q.1 q.2 R1 e2 _ fun v Hb2 H2 G2 R2 o2 f2=>h3 c Hb2 H2 env q.2 σ r3.1 r3.2 R2 e3 _ fun x Hb3 H3 G3 R3 o3 f3=>⟨u,v,x,rfl,?_⟩
 have o12:=o1.grow R1 G2
 have o1':=o12.grow R2 G3
 have o2':=o2.grow R2 G3
 have hi':i<σ.length:=by rw[←R.leng];exact hi
 have hj':j<σ.length:=by rw[←R.leng];exact hj
 have ra:=R3.setV o1' hi (fun z=>jm h0 z (by simp)) fun hb1 k p0 _ ev o=>RfN.old R ((G1.trans G2).trans G3) o (f1 hb1 p0 ev)
 have rb:=ra.setV o2' (i:=j) (by simpa using hj) (by rw[List.getElem?_set_ne hij];exact fun z=>jm h0 z (by simp)) fun hb2 k p0 hk ev o=>by
  by_cases z:i=k
  ·subst z
   obtain⟨y1,y2⟩:=Xd hi hi' o
   exact vne o1 y1 f2 hb2 (y2.trans ev.symm)
  ·exact RfN.old R1 (G2.trans G3) (Xe z o) (f2 hb2 p0 ev)
 have z1:((Γ.set i (ZW b1)).set j (ZW b2))[l]? ≠ some .bg:=by
  rw[List.getElem?_set_ne hjl,List.getElem?_set_ne hil]
  exact fun z=>jm h0 z (by simp)
 refine w Hb3 H3 _ ((G1.trans G2).trans G3).b (rb.setV o3 (i:=l) (by simpa using hl) z1 fun hb3 k p0 hk ev o=>?_)
 by_cases zj:j=k
 ·subst zj
  obtain⟨y1,y2⟩:=Xd (by simpa using hj) (by simpa using hj') o
  exact vne o2 y1 f3 hb3 (y2.trans ev.symm)
 ·have o:=Xe zj o
  by_cases zi:i=k
  ·subst zi
   obtain⟨y1,y2⟩:=Xd hi hi' o
   exact vne o12 y1 f3 hb3 (y2.trans ev.symm)
  ·exact RfN.old R2 G3 (Xe zi o) (f3 hb3 p0 ev)
end
def YN(Γ:List Fl):Bool:=Γ.all fun f=>match f with | .ow=>false | .od _=>false | .fr=>false | .ox=>false | .st=>false | _=>true
theorem ZX{c:Ctx}{Γ:List Fl}{Hb H:Hp}{env:Env}{σ:L2.St}{a:Addr}(h:YN Γ=true)(j:Nat):¬zK c Γ Hb H env σ j a:=fun⟨d,fl,v,e1,e2,e3,e4⟩=>by
 simp only[YN,List.all_eq_true] at h
 have h1:=h _ (List.mem_of_getElem? e2)
 cases fl with
 | ow=>cases h1
 | od n=>cases h1
 | fr=>cases h1
 | ox=>cases h1
 | st=>cases h1
 | sh=>exact e4
 | dd=>exact e4
 | bg=>exact e4
section
variable {Γ Γ0 Γ1:List Fl} {g:TG} {tt:TT} {te:TE} {h:GF} {t:BF} {f:XF} {vs is:List Nat}
theorem afU{W:Hp→V→D→Prop}{c:Ctx}{HbS HS Hb1 H1:Hp}{env:Env}{bag gz:D}{σ:L2.St}{Dd:Addr}{xs0:List V}{acc0 rest:List D}{J:It}{items:List D}{Qx:Hp→Prop}
  (hg:RfG W Γ0 Γ1 is g h) (ht:RfT Γ1 tt t) (he:RfE Γ1 te f) (hv:∀i∈is,i∈vs) (no:YN Γ0=true) (R1:Rel c Γ0 Hb1 H1 (zJ env vs) bag (wipe σ vs)) (G0:Grow c HbS HS Hb1 H1) (hS:HS Dd=none) (it:ItOk W Hb1 J items)
  (hx:H1 Dd=some (.lst xs0)) (hb:Hb1 Dd=none) (hDc:c.Hc Dd=none) (r0:RpL Hb1 xs0 acc0) (e:lcF h t f items (zJ env vs) bag=some (rest,gz)) (hz:acc0.length+rest.length<16000000)
  (hQ:∀Hb2 H2 xs2,Grow c HbS HS Hb2 H2→Same Hb1 Hb2→Rel c Γ0 Hb2 H2 (zJ env vs) gz (wipe σ vs)→H2 Dd=some (.lst xs2)→Hb2 Dd=none→RpL Hb2 xs2 (acc0++rest)→Qx H2) :
  ∃W1:Nat→Nat→Hp→Prop,(∃m,W1 0 m H1)∧∀j k H,W1 j k H →
   (J.stop j H∧Qx H)∨(J.go j H∧∃Nx1:Hp→Prop,(∀H',Nx1 H'→∃k',k'<k∧W1 (j+1) k' H')∧∀x H',J.yld j H x H'→g x (wipe σ vs) H' fun σ3 H5=>wipe σ3 vs=wipe σ vs∧tt σ3 H5 fun b H6 =>
    if b=true then te σ3 H6 fun y H7=>∃acc,H7 Dd=some (.lst acc)∧acc.length<sizeLine∧Nx1 (upd H7 Dd (.lst (acc++[y]))) else Nx1 H6):=by
 refine⟨fun i m H2=>m=items.length - i∧i≤items.length∧∃Hb2 g2 xs acc r2,Grow c HbS HS Hb2 H2∧Same Hb1 Hb2∧Rel c Γ0 Hb2 H2 (zJ env vs) g2 (wipe σ vs)∧H2 Dd=some (.lst xs)∧Hb2 Dd=none∧RpL Hb2 xs acc∧lcF h t f (items.drop i) (zJ env vs) g2=some (r2,gz)∧acc++r2=acc0++rest,
  ⟨items.length,rfl,Nat.zero_le _,Hb1,bag,xs0,acc0,rest,G0,Same.refl _,R1,hx,hb,r0,by simpa using e,rfl⟩,?_⟩
 rintro i m H2 ⟨rfl,hil,Hb2,g2,xs,acc,r2,G2,s2,R2,hx2,hb2,racc,ef,hr⟩
 by_cases hlt:i<items.length
 ·refine .inr ⟨it.go i H2 (s2.trans R2.ext) hlt,?_⟩
  rw[List.drop_eq_getElem_cons hlt] at ef
  obtain⟨env1,y1,ef⟩:=zo ef
  obtain⟨b,y2,ef⟩:=zo ef
  refine⟨fun H3=>∃Hb3 g3 xs acc r2,Grow c HbS HS Hb3 H3∧Same Hb1 Hb3∧Rel c Γ0 Hb3 H3 (zJ env vs) g3 (wipe σ vs)∧H3 Dd=some (.lst xs)∧Hb3 Dd=none∧RpL Hb3 xs acc∧lcF h t f (items.drop (i+1)) (zJ env vs) g3=some (r2,gz)∧acc++r2=acc0++rest,fun H3 hh=>⟨items.length - (i+1),by omega,rfl,by omega,hh⟩,fun x H3 hy=>?_⟩
  obtain⟨Hb3,nw,rx⟩:=it.yld i H2 Hb2 x H3 _ s2 R2.ext hy (List.getElem?_eq_getElem hlt)
  have R3:=nw.rel R2
  refine hg c Hb3 H3 _ g2 _ x _ env1 R3 rx y1 _ fun σ4 R4 l4 k4=>⟨QB (by rw[l4,wipe_length]) fun j hj=>k4 j fun z=>hj (hv j z),?_⟩
  refine ht c Hb3 H3 env1 g2 σ4 b.1 b.2 R4 y2 _ fun Hb5 H5 G5 R5=>?_
  have Dok:∀ {Hbx Hx},Grow c Hb3 H3 Hbx Hx→Hx Dd=some (.lst xs)∧Hbx Dd=none:=fun {Hbx Hx} Gx=>by
   have h3:H3 Dd=some (.lst xs):=nw.h _ _ hx2
   refine⟨Gx.h Dd _ h3 (fun z=>(R1.bgs Dd z) hDc),?_⟩
   cases y:Hbx Dd with
   | none=>rfl
   | some ox =>
    have b3:Hb3 Dd=none:=by
     cases y3:Hb3 Dd with
     | none=>rfl
     | some o3 =>
      have:=nw.n Dd (by rw[y3];simp) hb2
      rw[hx2] at this;cases this
    have:=Gx.n Dd (by rw[y];simp) b3
    rw[h3] at this;cases this
  have back:∀ {Hbx Hx gx},Grow c Hb3 H3 Hbx Hx→Rel c Γ1 Hbx Hx env1 gx σ4→Rel c Γ0 Hbx Hx (zJ env vs) gx (wipe σ vs):=fun {Hbx Hx gx} Gx RR=>R3.regrow Gx RR.ext RR.bag
  cases e5:b.1 with
  | false =>
   rw[e5,if_neg (by simp)] at ef
   rw[if_neg (by simp)]
   obtain⟨d1,d2⟩:=Dok G5
   exact⟨Hb5,b.2,xs,acc,r2,G2.trans (nw.gr.trans G5),s2.trans (nw.b.trans G5.b),back G5 R5,d1,d2,racc.same (nw.b.trans G5.b),ef,hr⟩
  | true =>
   rw[e5,if_pos rfl] at ef
   rw[if_pos rfl]
   obtain⟨y,y3,ef⟩:=zo ef
   obtain⟨rr,y4,ef⟩:=zo ef
   cases ef
   refine he c Hb5 H5 env1 b.2 σ4 y.1 y.2 R5 y3 _ fun v Hb6 H6 G6 R6 r6=>?_
   have G56:=G5.trans G6
   obtain⟨d1,d2⟩:=Dok G56
   have R7:=back G56 R6
   have hD6:H6 Dd≠none:=by rw[d1];simp
   have hlen:acc.length<16000000:=by
    have:=congrArg List.length hr
    simp only[List.length_append,List.length_cons] at this
    omega
   refine⟨xs,d1,by rw[racc.length,sizeLine_eq];omega,Hb6,y.2,xs++[v],acc++[y.1],rr.1,?_,s2.trans (nw.b.trans G56.b),R7.pokeOff d2 hDc hD6 (ZX no),upd_same,d2,(racc.same (nw.b.trans G56.b)).append (.one r6),y4,by rw[←hr];simp⟩
   have GG:=G2.trans (nw.gr.trans G56)
   refine⟨GG.b,fun a u k io=>?_,GG.n,fun a k=>?_⟩
   ·rw[upd_ne (ne_of_none k hS)];exact GG.h a u k io
   ·by_cases z:a=Dd
    ·subst z;exact hS
    ·rw[upd_ne z] at k;exact GG.d a k
 ·have hi2:i=items.length:=by omega
  subst hi2
  refine .inl ⟨it.stop _ H2 (s2.trans R2.ext) (Nat.le_refl _),?_⟩
  rw[List.drop_length] at ef
  cases ef
  rw[List.append_nil] at hr
  subst hr
  exact hQ Hb2 H2 xs G2 s2 R2 hx2 hb2 racc
end
def abR(h:GF)(t:BF)(fi1:IF)(h1:GF)(t1:BF)(f:XF)(vs1:List Nat):List D→Env→D→Option (List D×D)
 | [],_,g=>some ([],g)
 | d::ds,env,g=>(h d env).bind fun env1=>(t env1 g).bind fun p=>if p.1 then(fi1 env1 p.2).bind fun q=>(lcF h1 t1 f q.1 (zJ env1 vs1) q.2).bind fun r=>(abR h t fi1 h1 t1 f vs1 ds env r.2).bind fun s=>some (r.1++s.1,s.2) else abR h t fi1 h1 t1 f vs1 ds env p.2
def adq(fi:IF)(h:GF)(t:BF)(fi1:IF)(h1:GF)(t1:BF)(f:XF)(vs vs1:List Nat):XF:=fun env g=>(fi env g).bind fun p=>(abR h t fi1 h1 t1 f vs1 p.1 (zJ env vs) p.2).bind fun r=>if sz r.1.length then some (.list r.1,r.2) else none
section
variable {Γ Γ0 Γ1 Γ2 Γ3:List Fl} {wi wi1:TI} {g g1:TG} {tt tt1:TT} {te:TE} {fi fi1:IF} {h h1:GF} {t t1:BF} {f:XF} {vs vs1 is is1:List Nat}
theorem agB{W W1:Hp→V→D→Prop}(hi:RfI W Γ wi fi)(hg:RfG W Γ0 Γ1 is g h)(ht:RfT Γ1 tt t)(hi1:RfI W1 Γ1 wi1 fi1)(hg1:RfG W1 Γ2 Γ3 is1 g1 h1)(ht1:RfT Γ3 tt1 t1)(he:RfE Γ3 te f)(k0:Qh Γ Γ0 vs=true)(k1:Qh Γ1 Γ2 vs1=true)(no:YN Γ0=true)(no2:YN Γ2=true)
  (h0:Qz Γ vs=true) (h01:Qz Γ1 vs1=true) (hv:∀i∈is,i∈vs) (hv1:∀i∈is1,i∈vs1):RfN Γ (tLc2 wi g tt wi1 g1 tt1 te vs vs1) (adq fi h t fi1 h1 t1 f vs vs1):=fun c Hb H env bag σ d g' R e Q q=>by
 obtain⟨p,e1,e⟩:=zo e
 obtain⟨r,e2,e⟩:=zo e
 split at e
 ·rename_i hz
  cases e
  refine hi c Hb H env bag σ p.1 p.2 R e1 _ fun J Hb1 H1 G1 R1 it Dd hD=>?_
  have hDH:H Dd=none:=G1.d Dd hD
  have hDc:c.Hc Dd=none:=R1.dom Dd hD
  have hDb:Hb1 Dd=none:=R1.ext.free hD
  have RB:Rel c Γ0 Hb1 (upd H1 Dd (.lst [])) (zJ env vs) p.2 (wipe σ vs):=(R1.newOwn hD).block k0 h0
  refine⟨fun i m H2=>m=p.1.length - i∧i≤p.1.length∧∃Hb2 g2 xs acc rest,Grow c Hb1 H1 Hb2 H2∧Rel c Γ0 Hb2 H2 (zJ env vs) g2 (wipe σ vs)∧H2 Dd=some (.lst xs)∧Hb2 Dd=none∧RpL Hb2 xs acc∧abR h t fi1 h1 t1 f vs1 (p.1.drop i) (zJ env vs) g2=some (rest,r.2)∧acc++rest=r.1,
   ⟨p.1.length,rfl,Nat.zero_le _,Hb1,p.2,[],[],r.1,(Nw.newOwn R1.ext hD).gr,RB,upd_same,hDb,.nil,by simpa using e2,rfl⟩,?_⟩
  rintro i m H2 ⟨rfl,hil,Hb2,g2,xs,acc,rest,G2,R2,hx,hb2,racc,ef,hr⟩
  by_cases hlt:i<p.1.length
  ·refine .inr ⟨it.go i H2 (G2.b.trans R2.ext) hlt,?_⟩
   rw[List.drop_eq_getElem_cons hlt] at ef
   obtain⟨env1,y1,ef⟩:=zo ef
   obtain⟨b,y2,ef⟩:=zo ef
   refine⟨fun H3=>∃Hb3 g3 xs acc rest,Grow c Hb1 H1 Hb3 H3∧Rel c Γ0 Hb3 H3 (zJ env vs) g3 (wipe σ vs)∧H3 Dd=some (.lst xs)∧Hb3 Dd=none∧RpL Hb3 xs acc∧abR h t fi1 h1 t1 f vs1 (p.1.drop (i+1)) (zJ env vs) g3=some (rest,r.2)∧acc++rest=r.1,fun H3 hh=>⟨p.1.length - (i+1),by omega,rfl,by omega,hh⟩,fun x H3 hy=>?_⟩
   obtain⟨Hb3,nw,rx⟩:=it.yld i H2 Hb2 x H3 _ G2.b R2.ext hy (List.getElem?_eq_getElem hlt)
   have R3:=nw.rel R2
   refine hg c Hb3 H3 _ g2 _ x _ env1 R3 rx y1 _ fun σ4 R4 l4 k4=>⟨QB (by rw[l4,wipe_length]) fun j hj=>k4 j fun z=>hj (hv j z),?_⟩
   refine ht c Hb3 H3 env1 g2 σ4 b.1 b.2 R4 y2 _ fun Hb5 H5 G5 R5=>?_
   have Dok:∀ {Hbx Hx},Grow c Hb3 H3 Hbx Hx→Hx Dd=some (.lst xs)∧Hbx Dd=none:=fun {Hbx Hx} Gx=>by
    have h3:H3 Dd=some (.lst xs):=nw.h _ _ hx
    refine⟨Gx.h Dd _ h3 (fun z=>(R.bgs Dd z) hDc),?_⟩
    cases y:Hbx Dd with
    | none=>rfl
    | some o =>
     have b3:Hb3 Dd=none:=by
      cases y3:Hb3 Dd with
      | none=>rfl
      | some o3 =>
       have:=nw.n Dd (by rw[y3];simp) hb2
       rw[hx] at this;cases this
     have:=Gx.n Dd (by rw[y];simp) b3
     rw[h3] at this;cases this
   have back:∀ {Hbx Hx gx},Same Hb3 Hbx→(∀a o,H3 a=some o→a≠Dd→c.io≠some a→Hx a=some o)→(∀a,Hbx a≠none→Hb3 a=none→H3 a=none)→(∀a,Hx a=none→H3 a=none)→(Same Hbx Hx)→(∀b,c.io=some b→∃(o:HO) (_:Unit),True∧Hx b=some o∧Hbx b=none∧V5 c.Hg o gx)→∀xs2,Hx Dd=some (.lst xs2)→Rel c Γ0 Hbx Hx (zJ env vs) gx (wipe σ vs):=fun {Hbx Hx gx} sb hh hn hd hx2 hbag xs2 hDx=>by
    -- the list at Dd changed,no slot has it
    have R3':=R3.pokeOff (D:=Dd) (o:=.lst xs2) (by
     cases y3:Hb3 Dd with
     | none=>rfl
     | some o3 =>
      have:=nw.n Dd (by rw[y3];simp) hb2
      rw[hx] at this;cases this) hDc (by rw[nw.h _ _ hx];simp) (ZX no)
    refine R3'.grow sb hx2 (fun a o e io=>?_) (fun a e z=>?_) (fun a e=>?_) hbag
    ·by_cases y:a=Dd
     ·subst y;rw[upd_same] at e;cases e;exact hDx
     ·rw[upd_ne y] at e;exact hh a o e y io
    ·by_cases y:a=Dd
     ·subst y
      have:=hn a e z
      rw[nw.h _ _ hx] at this;cases this
     ·rw[upd_ne y];exact hn a e z
    ·by_cases y:a=Dd
     ·subst y;rw[hDx] at e;cases e
     ·rw[upd_ne y];exact hd a e
   cases e5:b.1 with
   | false =>
    rw[e5,if_neg (by simp)] at ef
    rw[if_neg (by simp)]
    obtain⟨d1,d2⟩:=Dok G5
    exact⟨Hb5,b.2,xs,acc,rest,G2.trans (nw.gr.trans G5),R3.regrow G5 R5.ext R5.bag,d1,d2,(racc.same nw.b).same G5.b,ef,hr⟩
   | true =>
    rw[e5,if_pos rfl] at ef
    rw[if_pos rfl]
    obtain⟨q1,y3,ef⟩:=zo ef
    obtain⟨r1,y4,ef⟩:=zo ef
    obtain⟨s1,y5,ef⟩:=zo ef
    have ef2:=Option.some.inj ef
    have er1:r1.1++s1.1=rest:=congrArg Prod.fst ef2
    have er2:s1.2=r.2:=by
     have z:=congrArg (fun w:List PyData×PyData=>w.2) ef2
     exact z
    subst er1
    refine hi1 c Hb5 H5 env1 b.2 σ4 q1.1 q1.2 R5 y3 _ fun J1 Hb6 H6 G6 R6 it1=>?_
    have G56:=G5.trans G6
    obtain⟨d1,d2⟩:=Dok G56
    have hz2:=of_decide_eq_true hz
    have hlen:acc.length+r1.1.length<16000000:=by
     rw[←hr] at hz2
     simp only[List.length_append] at hz2
     omega
    have RI:=R6.block k1 h01
    have cut:∀ {a:Addr} {o:HO},(if a=Dd then none else H3 a)=some o→a≠Dd∧H3 a=some o:=fun {a o} e=>by
     by_cases y:a=Dd
     ·rw[if_pos y] at e;cases e
     ·rw[if_neg y] at e;exact⟨y,e⟩
    have GS:Grow c Hb3 (fun a=>if a=Dd then none else H3 a) Hb6 H6:=⟨G56.b,fun a o e io=>G56.h a o (cut e).2 io,fun a e z=>by
     show(if a=Dd then none else H3 a)=none
     split
     ·rfl
     ·exact G56.n a e z,fun a e=>by
     show(if a=Dd then none else H3 a)=none
     split
     ·rfl
     ·exact G56.d a e⟩
    refine afU (c:=c) (HbS:=Hb3) (HS:=fun a=>if a=Dd then none else H3 a) hg1 ht1 he hv1 no2 RI GS (if_pos rfl) it1 d1 d2 hDc (racc.same (nw.b.trans G56.b)) y4 hlen fun Hb7 H7 xs7 G7 s7 R7 hx7 hb7 r7=>?_
    have b37:Same Hb3 Hb7:=G7.b
    have h37:∀a o,H3 a=some o→a≠Dd→c.io≠some a→H7 a=some o:=fun a o e y io=>G7.h a o (show(if a=Dd then none else H3 a)=some o by rw[if_neg y];exact e) io
    have n37:∀a,Hb7 a≠none→Hb3 a=none→H3 a=none:=fun a e z=>by
     have y:a≠Dd:=fun y=>by subst y;exact e hb7
     have:=G7.n a e z
     rwa[if_neg y] at this
    have d37:∀a,H7 a=none→H3 a=none:=fun a e=>by
     have y:a≠Dd:=fun y=>by subst y;rw[hx7] at e;cases e
     have:=G7.d a e
     rwa[if_neg y] at this
    have G13:=G2.trans nw.gr
    refine⟨Hb7,r1.2,xs7,acc++r1.1,s1.1,⟨G13.b.trans b37,fun a o e io=>h37 a o (G13.h a o e io) (fun y=>by subst y;rw[hD] at e;cases e) io,fun a e z=>?_,fun a e=>G13.d a (d37 a e)⟩,back b37 h37 n37 d37 R7.ext R7.bag xs7 hx7,hx7,hb7,r7,by rw[←er2];exact y5,by rw[←hr];simp⟩
    cases y:Hb3 a with
    | some o=>exact G13.n a (by rw[y];simp) z
    | none=>exact G13.d a (n37 a e y)
  ·have hi2:i=p.1.length:=by omega
   subst hi2
   refine .inl ⟨it.stop _ H2 (G2.b.trans R2.ext) (Nat.le_refl _),?_⟩
   rw[List.drop_length] at ef
   have ef2:=Option.some.inj ef
   have er1:[]=rest:=congrArg Prod.fst ef2
   have er2:g2=r.2:=by
    have z:=congrArg (fun w:List PyData×PyData=>w.2) ef2
    exact z
   subst er1
   rw[List.append_nil] at hr
   rw[hr] at racc
   rw[er2] at R2
   exact q Dd xs r.1 Hb2 H2 (G1.trans G2) (R1.regrow G2 R2.ext R2.bag) rfl hx hb2 hDH hDc racc
 ·cases e
end
end
section
variable [TheW]
section
variable {c:Ctx} {Hb H Hb' H':Hp}
theorem ZY:∀ {xs:List V} {ds:List D},RpL Hb xs ds→OwL c Hb H 0 [] xs ds
 | _,_,.nil=>.nil
 | _,_,.cons h t=>.cons (a:=[]) (as:=[]) (.leaf h) (ZY t) (fun x hx=>by cases hx)
theorem Ym:∀ {ds:List D} {xs:List V} {as:List Addr},OwL c Hb H 0 as xs ds→as=[]∧RpL Hb xs ds
 | [],_,_,h=>by cases h;exact⟨rfl,.nil⟩
 | d::ds,_,_,h=>by
  cases h with
  | cons h1 h2 h3 =>
   obtain⟨e,r⟩:=Ym h2
   subst e
   cases h1 with
   | leaf r1=>exact⟨rfl,.cons r1 r⟩
theorem ZZ{n:Nat}:∀ {ds:List (D×D)} {kvs:List (Key×V)} {as:List Addr},OwK c Hb H n as kvs ds→kvs.length=ds.length
 | [],_,_,h=>by cases h;rfl
 | (_,d)::ds,_,_,h=>by
  cases h with
  | cons h1 h2 h3=>simp[ZZ h2]
def Z3(k:Key)(v:D):List (D×D)→List (D×D)
 | []=>[]
 | (a,b)::r=>if vV a=some k then(a,v)::r else(a,b)::Z3 k v r
theorem Z4{n:Nat}{k:Key}{d:D}:∀ {ds:List (D×D)} {kvs:List (Key×V)} {as:List Addr},OwK c Hb H n as kvs ds→yY k ds=some d →
  ∃v a,valV kvs k=some v∧Ow c Hb H n a v d∧(∀x∈a,x∈as)∧∀(H2:Hp) (d2:D),(∀x,x∉a→H2 x=H x)→Ow c Hb H2 n a v d2→OwK c Hb H2 n as kvs (Z3 k d2 ds)
 | [],_,_,h,e=>by cases e
 | (kd,d')::ds,_,_,h,e=>by
  cases h with
  | @cons _ a0 as0 j w vs _ _ h1 h2 h3 =>
   by_cases q:j=k
   ·subst q
    unfold yY at e
    rw[if_pos (jG j)] at e
    cases e
    refine⟨w,a0,valV_pos rfl,h1,fun x hx=>List.mem_append_left _ hx,fun H2 d2 hh o=>?_⟩
    unfold Z3
    rw[if_pos (jG j)]
    refine .cons o (OwK.mono (Same.refl _) ds _ _ _ (fun x hx u eu=>?_) (fun x hx=>(OwK.live ds _ _ _ h2 x hx).2.1) h2) h3
    rw[hh x fun y=>h3 x y hx];exact eu
   ·have e2:¬vV (kD j)=some k:=fun z=>q (by rw[jG] at z;exact Option.some.inj z)
    unfold yY at e
    rw[if_neg e2] at e
    obtain⟨v,a,y1,y2,y3,y4⟩:=Z4 h2 e
    refine⟨v,a,(valV_neg (p:=(j,w)) q).trans y1,y2,fun x hx=>List.mem_append_right _ (y3 x hx),fun H2 d2 hh o=>?_⟩
    unfold Z3
    rw[if_neg e2]
    refine .cons (Ow.mono (Same.refl _) d' _ _ _ (fun x hx u eu=>?_) (fun x hx=>(Ow.live d' _ _ _ h1 x hx).2.1) h1) (y4 H2 d2 hh o) h3
    rw[hh x fun y=>h3 x hx (y3 x y)];exact eu
end
def RfD(n:Nat)(Γ:List Fl)(te:TE)(f:XF):Prop:=∀(c:Ctx) (Hb H:Hp) (env:Env) (g:D) (σ:L2.St) (d g':D),Rel c Γ Hb H env g σ→f env g=some (d,g') →
 ∀Q:VK,(∀v as Hb' H',Grow c Hb H Hb' H'→Rel c Γ Hb' H' env g' σ→Ow c Hb' H' n as v d→(∀a∈as,H a=none)→Q v H')→te σ H Q
section
variable {Γ Γ' Γk:List Fl} {te:TE} {f:XF}
theorem RfN.d(h:RfN Γ te f):RfD 1 Γ te f:=fun c Hb H env g σ d g' R e Q q=>h c Hb H env g σ d g' R e Q fun p xs ds Hb' H' G R' e1 e2 e3 e4 e5 e6=>by
 subst e1
 exact q _ [p] Hb' H' G R' (.lst e2 e3 e5 (by simp) (ZY e6)) fun a ha=>by rw[List.mem_singleton.mp ha];exact e4
theorem RfE.d(h:RfE Γ te f):RfD 0 Γ te f:=fun c Hb H env g σ d g' R e Q q=>h c Hb H env g σ d g' R e Q fun v Hb' H' G R' r=>q v [] Hb' H' G R' (.leaf r) fun a ha=>by cases ha
theorem ah8{n i:Nat}(he:RfD n Γ te f)(hi:i<Γ.length)(h0:Γ[i]? ≠ some .bg):RfS Γ (Γ.set i (.od n)) Γk (tAsg te (gName i)) (z9 i f):=fun c Hb H env g σ r R e Dn w=>by
 obtain⟨p,e1,e⟩:=zo e
 cases e
 refine he c Hb H env g σ p.1 p.2 R e1 _ fun v as Hb1 H1 G1 R1 o fr=>?_
 refine w Hb1 H1 _ G1.b (R1.setOf (fl:=.od n) ⟨as,o⟩ (by simp) hi h0 fun j a _ ho hj=>?_)
 obtain⟨bs,o2,ha⟩:=ho
 rw[←Ow.uniq _ _ _ _ _ o o2] at ha
 exact RfN.old R G1 hj (fr a ha)
end
def ptN:PF:=fun k v acc=>(vV k).bind fun kk=>if(acc.any fun p=>decide (vV p.1=some kk)) then none else some (acc++[(kD kk,v)])
def aid(fi:IF)(h:GF)(t:BF)(fk fv:XF)(vs:List Nat):XF:=fun env g=>(fi env g).bind fun p=>if sz p.1.length then(dcF h t fk fv ptN p.1 (zJ env vs) p.2 []).bind fun r=>some (.dict r.1,r.2) else none
section
variable {n:Nat} {Γ Γ0 Γ1:List Fl} {wi:TI} {g:TG} {tt:TT} {tk tv:TE} {fi:IF} {h:GF} {t:BF} {fk fv:XF} {vs is:List Nat}
end
def Wd:D→Option (List (D×D))
 | .dict ds=>some ds
 | _=>none
theorem ju{d:D}{ds:List (D×D)}(h:Wd d=some ds):d=.dict ds:=by
 cases d <;> simp[Wd] at h
 rw[h]
def adr(i:Nat)(fy f:XF):SF:=fun env g=>(xV i env g).bind fun x=>(Wd x.1).bind fun ds=>(fy env g).bind fun y=>(vV y.1).bind fun k=>(yY k ds).bind fun l=>(Ji l).bind fun es=>(f env y.2).bind fun p =>
 if sz es.length then some (.nx (env.set i (some (.dict (Z3 k (.list (es++[p.1])) ds)))) p.2) else none
section
variable {Γ Γ' Γk:List Fl} {ty te ts:TE} {fy f:XF} {K:PySem.W.Frag}
end
def aex(i:Nat)(t:TS):TS:=fun D σ H=>∃p u, σ[i]? = some (some (.ref p))∧H p=some u∧Mut (some u)∧∀od,t D σ (upd H p (.frz od u))
theorem IE{X:Cx}{st:Stmt}{t:TS}(i:Nat)(h:PS X st t):PS X st (aex i t):=⟨fun pins s σ H D I ⟨p,u,_,hd,mu,q⟩=>by
 obtain⟨od,I3⟩:=I.lock hd mu
 exact h.run pins s σ _ D I3 (q od)⟩
section
variable {c:Ctx} {Γ:List Fl} {Hb H:Hp} {env:Env} {g:D} {σ:L2.St}
theorem Rel.adoptMany(R:Rel c Γ Hb H env g σ){as:List Addr}(h:∀a∈as,Hb a=none∧c.Hc a=none)(off:∀j,∀a∈as,¬zK c Γ Hb H env σ j a):Same Hb (fun a=>if a∈as then H a else Hb a)∧Rel c Γ (fun a=>if a∈as then H a else Hb a) H env g σ:=by
 have sm:Same Hb (fun a=>if a∈as then H a else Hb a):=fun a x e=>by
  show(if a∈as then H a else Hb a)=some x
  split
  ·exact R.ext a x e
  ·exact e
 have kp:∀i a,zK c Γ Hb H env σ i a→(∀x,H a=some x→H a=some x)∧(if a∈as then H a else Hb a)=none:=fun i a w =>
  ⟨fun x e=>e,by rw[if_neg fun q=>off i a q w];exact(w.live R).2.1⟩
 refine⟨sm,{ ext:=fun a x e=>?_,ent:=R.ent,dom:=R.dom,b0:=R.b0.trans sm,gro:=fun a o e z=>?_,bag:=fun b hb=>?_,bgs:=R.bgs,slot:=fun i d e=>?_,sep:=fun i j a ij o1 o2=>R.sep i j a ij (o1.back R sm (kp i)) (o2.back R sm (kp j)),lene:=R.lene,leng:=R.leng,bgf:=R.bgf }⟩
 ·have e:(if a∈as then H a else Hb a)=some x:=e
  split at e
  ·exact e
  ·exact R.ext a x e
 ·have e:(if a∈as then H a else Hb a)=some o:=e
  split at e
  ·exact(h a (by assumption)).2
  ·exact R.gro a o e z
 ·obtain⟨ys,es,z1,z2,z3,z4⟩:=R.bag b hb
  refine⟨ys,es,z1,z2,?_,z4⟩
  show(if b∈as then H b else Hb b)=none
  rw[if_neg fun q=>(R.bgs b hb) (h b q).2]
  exact z3
 ·obtain⟨fl,v,z1,z2,s⟩:=R.slot i d e
  exact⟨fl,v,z1,z2,s.keep sm fun a ha=>kp i a ⟨d,fl,v,e,z1,z2,ha⟩⟩
theorem aey{Hb':Hp}(sm:Same Hb Hb'):∀ {ds:List (D×D)} {kvs:List (Key×V)} {as:List Addr},OwK c Hb H 1 as kvs ds→(ds.all fun p=>match p.2 with | .list _=>true | _=>false)=true→(∀a∈as,∀o,H a=some o→Hb' a=some o)→RpK Hb' kvs ds
 | [],_,_,h,_,_=>by cases h;exact .nil
 | (_,d)::ds,_,_,h,ok,k=>by
  rw[List.all_cons,Bool.and_eq_true] at ok
  cases h with
  | cons h1 h2 h3 =>
   refine .cons ?_ (aey sm h2 ok.2 fun a ha=>k a (List.mem_append_right _ ha))
   cases h1 with
   | lst a1 a2 a3 a4 a5=>exact .lst (k _ (by simp) _ a1) ((Ym a5).2.same sm)
   | dK _ _ _ _ _=>exact absurd ok.1 (by simp)
def Xf(ds:List (D×D)):Bool:=ds.all fun p=>match p.2 with | .list _=>true | _=>false
end
def Yn(i:Nat)(f:SF):SF:=fun env g=>(xV i env g).bind fun x=>(Wd x.1).bind fun ds=>if Xf ds then f env g else none
section
variable {Γ Γ' Γk:List Fl} {ts:TS} {f:SF}
theorem acG(i:Nat)(hi:Γ[i]? = some (.od 2))(h1:RfS (Γ.set i .sh) Γ' Γk ts f):RfS Γ Γ' Γk (aex i ts) (Yn i f):=fun c Hb H env g σ r R e Dn w=>by
 obtain⟨x,e1,e⟩:=zo e
 obtain⟨ds,e2,e⟩:=zo e
 split at e
 ·rename_i hall
  obtain⟨x1,x2⟩:=jl (show xV i env g=some (x.1,x.2) from e1)
  rw[ju e2] at x1
  obtain⟨fl,v,z1,z2,z3⟩:=R.slot i _ x1
  rw[hi] at z1;cases z1
  obtain⟨as0,o⟩:=z3
  have hl:i<Γ.length:=(List.getElem?_eq_some_iff.mp hi).1
  have he:i<env.length:=by rw[R.lene,←R.leng];exact hl
  have hs:i<σ.length:=by rw[←R.leng];exact hl
  cases o with
  | @dK _ p kvs as _ k1 k2 k3 k4 k5 =>
   have own0:Ow c Hb H 2 (p::as) (.ref p) (.dict ds):=.dK k1 k2 k3 k4 k5
   refine⟨p,.dK kvs,z2,k1,True.intro,fun od=>?_⟩
   -- the slot is given up for a moment
   have hbg:∀k:Nat,(Γ.set i .dd)[k]? = some .bg→Γ[k]? = some .bg:=fun k e=>by
    by_cases q:i=k
    ·subst q
     rw[List.getElem?_set_self hl] at e;cases e
    ·rw[List.getElem?_set_ne q] at e;exact e
   have R0:Rel c (Γ.set i .dd) Hb H env g σ:=R.less rfl (by simp) hbg fun j d ej=>⟨ej,by
    by_cases q:i=j
    ·subst q;exact .inr (List.getElem?_set_self hl)
    ·exact .inl (List.getElem?_set_ne q)⟩
   have free:∀j,∀a∈p::as,¬zK c (Γ.set i .dd) Hb H env σ j a:=fun j a ha ow=>by
    by_cases q:i=j
    ·subst q
     obtain⟨_,fl,_,_,e2,_,e4⟩:=ow
     rw[List.getElem?_set_self hl] at e2;cases e2
     exact e4.elim
    ·exact R.sep i j a q ⟨_,_,_,x1,hi,z2,_,own0,ha⟩ (ow.eqs (List.getElem?_set_ne q) rfl rfl)
   have lv:=Ow.live _ _ _ _ own0
   have R1:=R0.pokeOff (o:=.frz od (.dK kvs)) k2 k3 (by rw[k1];simp) fun j=>free j p (by simp)
   have free1:∀j,∀a∈p::as,¬zK c (Γ.set i .dd) Hb (upd H p (.frz od (.dK kvs))) env σ j a:=fun j a ha ow =>
    free j a ha (ow.back R0 (Same.refl _) fun b hb=>⟨fun o eo=>by rw[upd_ne (fun z:b=p=>free j p (by simp) (by rw[←z];exact hb))];exact eo,(hb.live R0).2.1⟩)
   obtain⟨sm,R2⟩:=R1.adoptMany (as:=p::as) (fun a ha=>⟨(lv a ha).2.1,(lv a ha).2.2⟩) free1
   have rk:Rp (fun a=>if a∈p::as then upd H p (.frz od (.dK kvs)) a else Hb a) (.ref p) (.dict ds):=by
    refine .dK (o:=od) (kvs:=kvs) ?_ (aey sm k5 hall fun a ha o eo=>?_)
    ·show(if p∈p::as then upd H p (.frz od (.dK kvs)) p else Hb p)=_
     rw[if_pos (by simp),upd_same]
    ·show(if a∈p::as then upd H p (.frz od (.dK kvs)) a else Hb a)=some o
     rw[if_pos (List.mem_cons_of_mem _ ha),upd_ne (fun z:a=p=>k4 (by rw[←z];exact ha))]
     exact eo
   have R3:=R2.setS (i:=i) rk (by simpa using hl) (by rw[List.getElem?_set_self hl];simp)
   have eΓ:(Γ.set i .dd).set i .sh=Γ.set i .sh:=List.set_set ..
   have eE:env.set i (some (.dict ds))=env:=by
    apply List.ext_getElem?
    intro j
    by_cases q:i=j
    ·subst q;rw[List.getElem?_set_self he,x1]
    ·rw[List.getElem?_set_ne q]
   have eS:σ.set i (some (.ref p))=σ:=by
    apply List.ext_getElem?
    intro j
    by_cases q:i=j
    ·subst q;rw[List.getElem?_set_self hs,z2]
    ·rw[List.getElem?_set_ne q]
   rw[eΓ,eE,eS] at R3
   exact h1 c _ _ env g σ r R3 e Dn (w.same sm)
 ·cases e
end
end
section
variable [TheW]
def J6:D→D→Option D
 | .int i,.int j=>if(decide (-(2^64)<i)&&decide (i<2^64))||(decide (-(2^64)<j)&&decide (j<2^64)) then some (.int (i*j)) else none
 | _,_=>none
theorem VT:RfO (rI CMul fun i j=>.int (i*j)) J6:=fun c Hb H x y dx dy d sm rx ry e Q q=>by
 unfold J6 at e
 split at e
 ·split at e
  ·rename_i hj
   cases e
   simp only[Bool.or_eq_true,Bool.and_eq_true,decide_eq_true_eq] at hj
   exact⟨_,_,rx.int,ry.int,hj,q _ Hb H (Nw.refl sm) (.int _)⟩
  ·cases e
 ·cases e
def Z5:D→D→Option D
 | .int i,.int j=>if decide (0<j)&&decide (j<1073741824) then some (.int (i / j)) else none
 | _,_=>none
theorem aaB:RfO (rI CDiv fun i j=>.int (i / j)) Z5:=fun c Hb H x y dx dy d sm rx ry e Q q=>by
 unfold Z5 at e
 split at e
 ·split at e
  ·rename_i hj
   cases e
   simp only[Bool.and_eq_true,decide_eq_true_eq] at hj
   exact⟨_,_,rx.int,ry.int,hj,q _ Hb H (Nw.refl sm) (.int _)⟩
  ·cases e
 ·cases e
def ads:D→D→Option D
 | .int i,.int j=>if decide (0≤j)&&(decide (j≤1000)&&decide (i.natAbs<1000)) then some (.int (i^j.toNat)) else none
 | _,_=>none
theorem afV:RfO (rI CPow fun i j=>.int (i^j.toNat)) ads:=fun c Hb H x y dx dy d sm rx ry e Q q=>by
 unfold ads at e
 split at e
 ·split at e
  ·rename_i hj
   cases e
   simp only[Bool.and_eq_true,decide_eq_true_eq] at hj
   exact⟨_,_,rx.int,ry.int,⟨hj.1,by omega,by omega⟩,q _ Hb H (Nw.refl sm) (.int _)⟩
  ·cases e
 ·cases e
def Xg:List D→Option D
 | [.int i,.int j]=>some (.int (if j>i then j else i))
 | _=>none
theorem aaC:RfC (fun xs H Q=>∃i j,xs=[.int i,.int j]∧Q (.int (if j>i then j else i)) H) Xg:=fun c Hb H xs ds d sm r e Q q=>by
 unfold Xg at e
 split at e
 ·cases e
  cases r with
  | cons r1 rr =>
   cases rr with
   | cons r2 rr =>
    cases rr
    exact⟨_,_,by rw[r1.int,r2.int],q _ Hb H (Nw.refl sm) (.int _)⟩
 ·cases e
def agC:V→V→Hp→VK→Prop:=fun o i H Q=>∃p xs k z,o=.ref p∧i=.int k∧H p=some (.lst xs)∧0≤k∧k<2^62∧xs[k.toNat]? = some z∧Q z H
theorem ahN{X:Cx}:PGet X agC:=by
 intro pins s σ H o i ov iv Q I ro ri h
 obtain⟨p,xs,k,z,rfl,rfl,hp,h0,h62,hz,q⟩:=h
 cases ro
 obtain⟨t,rfl⟩:=ri
 obtain⟨its,r,pl,_⟩:=I.list (SqL.of hp)
 obtain⟨w,ew,rw'⟩:=r.get hz
 exact wpAny_getItem_list pl.isList h0 (by omega) (by simpa using ew) ⟨z,H,I,rw',q⟩
def y8(fy:XF):XF:=fun env g=>(fy env g).bind fun p=>(ixD p.2 p.1).bind fun d=>some (d,p.2)
section
variable {Γ Γk:List Fl} {ty te:TE} {fy f:XF} {K:PySem.W.Frag}
theorem ah9{g i d:D}(h:ixD g i=some d){Hb:Hp}{xs:List V}{ds:List D}(e:g=.list ds)(r:RpL Hb xs ds):∃k v,i=.int k∧atI xs k=some v∧Rp Hb v d:=by
 subst e
 unfold ixD at h
 split at h
 ·rename_i ds2 k hg
  cases hg
  obtain⟨v,hv,rv⟩:=abG r h
  exact⟨k,v,rfl,hv,rv⟩
 ·rename_i hg;cases hg
 ·cases h
theorem Jo{k:Nat}(hk:Γ[k]? = some .bg)(hy:RfB Γ ty fy):RfE Γ (tOp (v9 K) (tVar k) ty) (y8 fy):=fun c Hb H env g σ d g' R e Q q=>by
 obtain⟨p,e1,e⟩:=zo e
 obtain⟨d2,e2,e⟩:=zo e
 cases e
 obtain⟨b,hb,hs⟩:=R.bgf k hk
 refine⟨.ref b,hs,hy c Hb H env g σ p.1 p.2 R e1 _ fun v Hb1 H1 G1 R1 r1=>?_⟩
 obtain⟨xs,ds,z1,z2,z3,z4⟩:=R1.bag b hb
 rcases z4 with⟨xs,ds,rfl,z1,z4⟩ | ⟨kvs,ds,rfl,z1,z4⟩
 ·obtain⟨i,w,y1,y2,y3⟩:=ah9 e2 z1 z4
  rw[y1] at r1
  exact .inl ⟨b,xs,i,w,rfl,r1.int,SqL.of z2,y2,q w Hb1 H1 G1 R1 (y3.same R1.gb)⟩
 ·rw[z1] at e2
  cases hp:p.1 <;> rw[hp] at e2 <;> cases e2
theorem Rel.bagSet{c:Ctx}{Hb H:Hp}{env:Env}{g:D}{σ:L2.St}{b:Addr}{xs:List V}{ds:List D}(R:Rel c Γ Hb H env g σ)(hb:c.io=some b)(r:RpL c.Hg xs ds):Rel c Γ Hb (upd H b (.lst xs)) env (.list ds) σ:=by
 obtain⟨ys,es,z1,z2,z3,z4⟩:=R.bag b hb
 have hc:=R.bgs b hb
 have kp:∀i a,zK c Γ Hb H env σ i a→(∀x,H a=some x→upd H b (.lst xs) a=some x)∧Hb a=none:=fun i a w =>
  ⟨fun x e=>by rw[upd_ne (fun q:a=b=>hc (by rw[←q];exact(w.live R).2.2))];exact e,(w.live R).2.1⟩
 refine { ext:=fun a x k=>?_,ent:=fun a x k io=>?_,dom:=fun a k=>?_,b0:=R.b0,gro:=R.gro,bag:=fun b2 hb2=>?_,bgs:=R.bgs,slot:=fun j d' k=>?_,sep:=fun i j a ij o1 o2=>R.sep i j a ij (o1.back R (Same.refl _) (kp i)) (o2.back R (Same.refl _) (kp j)),lene:=R.lene,leng:=R.leng,bgf:=R.bgf }
 ·rw[upd_ne (fun q=>by subst q;rw[z3] at k;cases k)];exact R.ext a x k
 ·rw[upd_ne (fun q=>io (by rw[q];exact hb))];exact R.ent a x k io
 ·by_cases q:a=b
  ·subst q;rw[upd_same] at k;cases k
  ·rw[upd_ne q] at k;exact R.dom a k
 ·rw[hb] at hb2;cases hb2
  exact⟨_,(),trivial,upd_same,z3,.inl ⟨xs,ds,rfl,rfl,r⟩⟩
 ·obtain⟨fl,u,w1,w2,w3⟩:=R.slot j d' k
  exact⟨fl,u,w1,w2,w3.keep (Same.refl _) fun a ha=>kp j a ⟨d',fl,u,k,w1,w2,ha⟩⟩
theorem IG{Hb:Hp}{v:V}{d:D}(r:Rp Hb v d):∀ {xs:List V} {ds:List D} (j:Nat),RpL Hb xs ds→RpL Hb (xs.set j v) (ds.set j d)
 | _,_,_,.nil=>.nil
 | _,_,0,.cons _ t=>.cons r t
 | _,_,j+1,.cons h t=>.cons h (IG r j t)
def jn(i:Nat)(f:XF):SF:=fun env g=>(f env g).bind fun p=>match p.2 with
 | .list ds=>if i<ds.length∧JS p.1=true then some (.nx env (.list (ds.set i p.1))) else none
 | _=>none
theorem acH{H H':Hp}{v:V}{d:D}(hs:JS d=true)(h:Rp H v d):Rp H' v d:=by
 cases h <;> first | exact .non | exact .bl _ | exact .int _ | exact .str _ | simp[JS] at hs
theorem Z6{k i:Nat}(hk:Γ[k]? = some .bg)(he:RfE Γ te f):RfS Γ Γ Γk (tAsg te (gSub (tVar k) (tC (.int (i:Nat))) rSetL)) (jn i f):=fun c Hb H env g σ r R e Dn w=>by
 obtain⟨p,e1,e⟩:=zo e
 split at e
 ·rename_i ds hg
  split at e
  ·rename_i hi
   cases e
   refine he c Hb H env g σ p.1 p.2 R e1 _ fun v Hb1 H1 G1 R1 r1=>?_
   obtain⟨b,hb,hs⟩:=R1.bgf k hk
   obtain⟨_,_,_,z2,z3,z4⟩:=R1.bag b hb
   rw[hg] at z4
   obtain⟨xs,e0,z5⟩:=z4.lst
   subst e0
   clear z4
   have z4:=z5
   refine⟨.ref b,hs,b,xs,(i:Nat),i,rfl,rfl,z2,?_,?_⟩
   ·unfold ixN
    rw[z4.length,if_pos (by omega),if_pos (by omega)]
    simp
   ·exact w Hb1 _ σ G1.b (R1.bagSet hb (IG (acH hi.2 r1) i z4))
  ·cases e
 ·cases e
def Xh(i:Nat)(f:XF):SF:=fun env g=>match g with
 | .list ds=>(ds[i]?).bind fun x=>(f env g).bind fun p=>match x,p.1,p.2 with
  | .int a,.int b,.list es=>if i<es.length then some (.nx env (.list (es.set i (.int (a+b))))) else none
  | _,_,_=>none
 | _=>none
theorem aez{k i:Nat}(hk:Γ[k]? = some .bg)(hi62:i<1000)(he:RfB Γ te f):RfS Γ Γ Γk (tAugS (tVar k) (tC (.int (i:Nat))) te agC (ipI fun i j=>i+j) rSetL) (Xh i f):=fun c Hb H env g σ r R e Dn w=>by
 unfold Xh at e
 split at e
 ·rename_i ds
  obtain⟨x,e1,e⟩:=zo e
  obtain⟨p,e2,e⟩:=zo e
  split at e
  ·rename_i a b es hp hg2 _
   split at e
   ·rename_i hi
    cases e
    obtain⟨bb,hb,hs⟩:=R.bgf k hk
    obtain⟨_,_,_,z2,z3,z4⟩:=R.bag bb hb
    obtain⟨xs,e0,z5⟩:=z4.lst
    subst e0
    clear z4
    have z4:=z5
    obtain⟨v,hv,rv⟩:=z4.get i e1
    have rv:Rp c.Hg v (.int a):=rv
    cases rv
    refine⟨.ref bb,hs,bb,xs,(i:Nat),.int a,rfl,rfl,z2,by omega,by omega,by simpa using hv,he c Hb H env _ σ p.1 p.2 R e2 _ fun u Hb1 H1 G1 R1 r1=>?_⟩
    rw[hp] at r1
    obtain⟨_,_,_,y2,y3,y4⟩:=R1.bag bb hb
    rw[hg2] at y4
    obtain⟨xs2,e0,y5⟩:=y4.lst
    subst e0
    clear y4
    have y4:=y5
    refine⟨a,b,rfl,r1.int,bb,xs2,(i:Nat),i,rfl,rfl,y2,?_,?_⟩
    ·unfold ixN
     rw[y4.length,if_pos (by omega),if_pos (by omega)]
     simp
    ·exact w Hb1 _ σ G1.b (R1.bagSet hb (IG (.int (a+b)) i y4))
   ·cases e
  ·cases e
 ·cases e
end
def adt(i:Nat)(f:SF):SF:=fun env g=>(env[i]?.join.bind Ji).bind fun ds=>(f (env.set i none) (.list ds)).bind fun r=>match r with
 | .rt d _=>some (.rt d g)
 | _=>none
section
variable {Γ Γ' Γ2 Γk Γk2:List Fl} {ts:TS} {f:SF}
theorem ahO(i:Nat)(hi:Γ[i]? = some .ow)(hno:Qz Γ (List.range Γ.length)=true)(hown:YN (Γ.set i .bg)=true)(h1:RfS (Γ.set i .bg) Γ2 Γk2 ts f):RfS Γ Γ' Γk ts (adt i f):=fun c Hb H env g σ r R e Dn w=>by
 obtain⟨ds,e1,e⟩:=zo e
 obtain⟨r2,e2,e⟩:=zo e
 have hl:i<Γ.length:=(List.getElem?_eq_some_iff.mp hi).1
 obtain⟨y0,p,xs,y1,y2,y3,y4,y5⟩:=jd R hi e1
 have he:i<env.length:=by rw[R.lene,←R.leng];exact hl
 have nobg:∀k:Nat, Γ[k]? ≠ some .bg:=fun k z=>jm hno z (List.mem_range.mpr (List.getElem?_eq_some_iff.mp z).1)
 split at e
 ·rename_i d g2
  cases e
  have R2:Rel ⟨H,Hb,some p,Hb,Same.refl _⟩ (Γ.set i .bg) Hb H (env.set i none) (.list ds) σ:=by
   refine { ext:=R.ext,ent:=fun a o e _=>e,dom:=fun a e=>e,b0:=Same.refl _,gro:=fun a o e z=>?_,bag:=fun b hb=>?_,bgs:=fun b hb=>?_,slot:=fun j d' k=>?_,sep:=fun j k a jk o1 o2=>absurd o1 (ZX hown j),lene:=by simp[R.lene],leng:=by simp[R.leng],bgf:=fun k z=>?_ }
   ·have z':Hb a=none:=z
    rw[e] at z';cases z'
   ·cases hb;exact⟨_,(),trivial,y2,y3,.inl ⟨xs,ds,rfl,rfl,y5⟩⟩
   ·cases hb
    show H p≠none
    rw[y2];simp
   ·by_cases q:i=j
    ·subst q;rw[List.getElem?_set_self he] at k;cases k
    ·rw[List.getElem?_set_ne q] at k
     obtain⟨fl,u,w1,w2,w3⟩:=R.slot j d' k
     refine⟨fl,u,by rw[List.getElem?_set_ne q];exact w1,w2,?_⟩
     have nf:(Γ.set i .bg)[j]? = some fl:=by rw[List.getElem?_set_ne q];exact w1
     simp only[YN,List.all_eq_true] at hown
     have h1:=hown _ (List.mem_of_getElem? nf)
     cases fl with
     | sh=>exact w3
     | dd=>trivial
     | bg=>trivial
     | ow=>cases h1
     | od n=>cases h1
     | fr=>cases h1
     | ox=>cases h1
     | st=>cases h1
   ·by_cases q:i=k
    ·subst q;exact⟨p,rfl,y1⟩
    ·rw[List.getElem?_set_ne q] at z
     exact absurd z (nobg k)
  refine h1 _ Hb H _ _ σ _ R2 e2 _ ?_
  intro v Hb' H' sm ⟨Γx,ex, σx,R'⟩ rv
  refine w v Hb' H' sm ⟨[],[],[],{ ext:=R'.ext,ent:=fun a o ea io=>?_,dom:=fun a ea=>R.dom a (R'.dom a ea),b0:=R.b0.trans sm,gro:=fun a o ea z=>?_,bag:=fun b hb=>?_,bgs:=R.bgs,slot:=fun j d' k=>by simp at k,sep:=fun j k a jk o1 _=>?_,lene:=rfl,leng:=rfl,bgf:=fun k z=>by simp at z }⟩ rv
  ·have ha:=R.ent a o ea io
   exact R'.ent a o ha fun z=>by
    have:p=a:=Option.some.inj z
    rw[←this,y4] at ea;cases ea
  ·cases q:Hb a with
   | some u=>exact R.gro a u q z
   | none=>exact R.dom a (R'.gro a o ea q)
  ·obtain⟨ys,es,w1,w2,w3,w4⟩:=R.bag b hb
   have hc:=R.bgs b hb
   refine⟨ys,es,w1,R'.ent b _ w2 fun z=>?_,?_,w4⟩
   ·have:p=b:=Option.some.inj z
    rw[←this] at hc;exact hc y4
   ·cases q:Hb' b with
    | none=>rfl
    | some o =>
     have z:H b=none:=R'.gro b o q w3
     rw[w2] at z;cases z
  ·obtain⟨d,fl,v,e1,_⟩:=o1
   simp at e1
 ·cases e
end
end
section
variable [TheW]
theorem adu{P:Program}{w:World}{K:PySem.W.Frag}{mg mb:Str→Option Value}{k:Nat}{fa a:Addr}{fd:FuncData}{x:Str}{sp:Sp}{s:Shared}{vs:List Value}{ns:List Int}
  (KX:K.In s.heap) (hns:s.heap.Ns mainGlobals mg) (hb:s.heap.Ns builtinsNs mb) (hbb:∀x:Str,x ≠ "__name__" → mb x=bootBuiltins x) (hlim:s.heap.NoLimit) (hg:s.gens = #[])
  (ha:s.heap.get? a=some { cls:=.type "list",data:=.seq vs.toArray }) (hi:IntsAre vs ns) (hl:ns.length≤sizeLine) (hr:Room k callerA)
  (F:∀base:Heap,K.In base→base.Ns mainGlobals mg→FnG P w K mg base k fa fd [x] sp) (hbind:∀(s:Shared) (u:Value),BindsTo s fd ⟨[u],[]⟩ [(x,u)])
  (hsp:∀H:Hp,Only H→SqL K H a (ns.map V.int)→sp [.ref a] H (fun v _=>v=.bl true) fun _ _ _=>False) :
  codeAny (model P w) callerA (.call (.ref fa) ⟨[.ref a],[]⟩) (fun r s'=>r=.ok (.ret (.bool true))∧OldK s.heap s'.heap∧s'.os=s.os∧AllBare s'.gens) s:=by
 have rv:=vals_ints hi
 -- at most the script is tracked,and it is no object of the module then
 suffices core:∀H:Hp,Only H→SqL K H a (ns.map V.int)→HOk P w H s.heap→(∀b,H b≠none→b=a)→(H a≠none→K.lookup a=none) →
   codeAny (model P w) callerA (.call (.ref fa) ⟨[.ref a],[]⟩) (fun r s'=>r=.ok (.ret (.bool true))∧OldK s.heap s'.heap∧s'.os=s.os∧AllBare s'.gens) s by
  cases hk:K.lookup a with
  | some o =>
   have eo:o={ cls:=.type "list",data:=.seq vs.toArray }:=Option.some.inj ((KX a o hk).symm.trans ha)
   subst eo
   exact core (fun _=>none) (fun _=>.inl rfl) (.inr ⟨_,vs.toArray,_,hk,rfl,rfl,rfl,by rw[List.size_toArray,hi.length];exact hl,by simpa using rv⟩) (fun b u z=>nomatch z) (fun b z=>absurd rfl z) (fun z=>absurd rfl z)
  | none =>
   let obj:Obj:={ cls:=.type "list",data:=.seq vs.toArray }
   refine core (fun b=>if b=a then some (.frz obj (.lst (ns.map V.int))) else none) (fun b=>?_) (.inl (.inr ⟨obj,if_pos rfl⟩)) (fun b u z=>?_) (fun b z=>?_) (fun _=>hk)
   ·by_cases e:b=a
    ·exact .inr ⟨_,_,if_pos e⟩
    ·exact .inl (if_neg e)
   ·by_cases e:b=a
    ·have z2:=(if_pos e).symm.trans z
     subst e
     cases z2
     exact⟨ha,by rw[List.length_map];exact hl,vs,_,rv,ha⟩
    ·cases(if_neg e).symm.trans z
   ·by_cases e:b=a
    ·exact e
    ·exact absurd (if_neg e) z
 intro H hO hS hok hA hK
 have off:∀ {b:Addr} {o:Obj},s.heap.get? b=some o→H b=none→(hidT s.heap H).get? b=some o:=fun e n=>hidT_get e n
 have ns':∀ {b:Addr} {m:Str→Option Value},s.heap.Ns b m→(hidT s.heap H).Ns b m:=fun {b m} ⟨o,es,ep,e,d,r⟩=>⟨o,es,ep,off e (by
  cases q:H b with
  | none=>rfl
  | some u =>
   have e2:=hA b (by rw[q];simp)
   rw[e2,ha] at e
   cases e
   cases(show Data.seq vs.toArray _=Data.dict es ep from d)),d,r⟩
 have inK:K.In (hidT s.heap H):=fun b o e=>off (KX b o e) (by
  cases q:H b with
  | none=>rfl
  | some u =>
   have e2:=hA b (by rw[q];simp)
   rw[e2] at e q
   rw[hK (by rw[q];simp)] at e
   cases e)
 have lim:(hidT s.heap H).NoLimit:=let ⟨mc,h1,h2⟩:=hlim;⟨mc,ns' h1,h2⟩
 have e0:Env0 P w K mg (hidT s.heap H) callerA [] s H:=⟨rfl,⟨inK,ns' hns,⟨mb,ns' hb,hbb⟩,lim⟩,fun b o e=>of_hidT e,Nat.le_of_eq (hidT_size _ _),trivial,fun b z=>absurd z List.not_mem_nil,hok,.of_eq hg⟩
 refine codeAny_mono ((F _ inK (ns' hns)).runs callerA [] s H ⟨[.ref a],[]⟩ [.ref a] [.ref a] _ _ rfl hr e0 (hbind s (.ref a)) (.cons rfl .nil) (hsp H hO hS)) fun r s' h=>?_
 match r,h with
 | .ok (.ret u),⟨v,H',os,bare,un,hok',r',q⟩ =>
  obtain rfl:v=.bl true:=q
  obtain rfl:u=Value.bool true:=r'
  refine⟨rfl,OldK.of_keep fun b o e=>?_,os,bare⟩
  rcases hO b with z | ⟨ob,xs,z⟩
  ·exact un.keep b o e z (fun y=>nomatch y) List.not_mem_nil
  ·have e1:=(hok b _ z).1
   have e2:=(hok' b _ (un.frzs b ob _ z)).1
   rw[e] at e1
   cases e1
   exact e2
 | .ok .next,h=>exact h.elim
 | .ok .brk,h=>exact h.elim
 | .ok .cont,h=>exact h.elim
 | .error e,h=>exact(show False from h).elim
theorem FnG.none{P:Program}{w:World}{K:PySem.W.Frag}{mg:Str→Option Value}{base:Heap}{k n:Nat}{f:Addr}{fd:FuncData}{ps:List Str}:FnG P w K mg base k f fd ps (spP n fun _=>Option.none) :=
 ⟨fun vs H Q E ⟨_,_,_,_,_,_,h,_⟩=>(nomatch h),fun A outer s H args us vs Q E _ _ _ _ _ ⟨_,_,_,_,_,_,h,_⟩=>(nomatch h)⟩
end
section
variable [TheW]
def Z7(i:Int):Int:=if i<0 then -i else i
def YO(K:PySem.W.Frag):Sp:=fun vs H Q _=>∃(a:Addr) (ns:List Int),vs=[.ref a]∧SqL K H a (ns.map V.int)∧ns.length≤63 ∧
 ∀p q H',Same H H'→H p=none→H q=none→p≠q→H' p=some (.lst [.int 0,.int 1234567891,.int 0,.ref q])→H' q=some (.lst ((ns.map Z7).map V.int))→Q (.ref p) H'
abbrev aaD(K:PySem.W.Frag):TS:=tRet (tLst (tCons (tC (.int 0)) (tCons (tC (.int 1234567891)) (tCons (tC (.int 0)) (tCons (tLc (Zi K (tSl (afS K) (tVar 0) tNoPart (tPart (tC (.int 63))))) (gName 1) tYes (tCB (fun xs H Q=>∃i,xs=[.int i]∧Q (.int (if i<0 then -i else i)) H) (tCons (tVar 1) tNil)) [1]) tNil)))))
theorem ahP{xs:List V}(h:xs.length≤63):cutV xs none (some 63)=xs:=by
 unfold cutV
 have h0:HT.sIx xs.length 0 none=0:=HT.sIx_none ..
 have h1:HT.sIx xs.length xs.length (some 63)=min 63 xs.length:=HT.sIx_nat xs.length xs.length 63
 rw[h0,h1,List.drop_zero,Nat.sub_zero,List.take_of_length_le (by omega)]
section
variable {P:Program} {w:World} {K:PySem.W.Frag} {mg:Str→Option Value} {base:Heap} {x qual y:Str} {st:Stmt} {f:Addr} {fd:FuncData} {k:Nat}
theorem adv(F:Fun K x qual st f fd)(S:FnScope [("_law_script" : Str),y] ["_law_script"] (defScope st))
  (body:∀(X:Cx),X.prog=P→X.w=w→X.K=K→X.mg=mg→X.base=base→X.N=[("_law_script" : Str),y]→X.A.guards=some []→Room k X.A→X.calm=true→X.env.scope=defScope st→X.fn=(fun _=>true)→X.xe=(fun _ _=>False)→PSs X (defBody st) (tSeq (aaD K) tNext)) :
  FnG P w K mg base (k+1) f fd ["_law_script"] (YO K):=by
 refine Fun.okG F S (fun vs H Q E ⟨_,_,h,_⟩=>by rw[h];rfl) fun cdv A outer s H vs Q E hgu hr ⟨a,ns,ev,hS,hl,q⟩=>?_
 refine⟨_,body (cxOf CX0 P w K mg base [("_law_script" : Str),y] qual (defScope st) f cdv A outer s H E).nox rfl rfl rfl rfl rfl rfl hgu hr rfl rfl rfl rfl,?_⟩
 subst ev
 have hl2:(ns.map V.int).length≤63:=by rw[List.length_map];exact hl
 -- the slice: a new list
 refine⟨.ref a,rfl,63,rfl,.inl ⟨a,ns.map V.int,rfl,hS,fun p0 hp0=>?_⟩⟩
 rw[ahP hl2]
 have s1:Same H (upd H p0 (.lst (ns.map V.int))):=yE hp0
 refine⟨p0,rfl,.inl ⟨⟨_,SqL.of upd_same⟩,fun q0 hq0=>?_⟩⟩
 have ne0:p0≠q0:=fun z=>by rw[←z,upd_same] at hq0;cases hq0
 have hq0':H q0=none:=s1.free hq0
 -- the cells,one by one
 refine⟨fun i m H2=>m=ns.length - i∧i≤ns.length∧Same H H2∧H2 p0=some (.lst (ns.map V.int))∧H2 q0=some (.lst (((ns.take i).map Z7).map V.int)),⟨ns.length,rfl,Nat.zero_le _,s1.trans (yE hq0),by rw[upd_ne ne0];exact upd_same,by simp[upd_same]⟩,?_⟩
 rintro i m H2 ⟨rfl,hi,sm,h2p,h2q⟩
 by_cases hlt:i<ns.length
 ·have hx:(ns.map V.int)[i]? = some (.int ns[i]):=by rw[List.getElem?_map,List.getElem?_eq_getElem hlt];rfl
  refine .inr ⟨⟨_,_,SqL.of h2p,hx⟩,fun H3=>Same H H3∧H3 p0=some (.lst (ns.map V.int))∧H3 q0=some (.lst (((ns.take (i+1)).map Z7).map V.int)),fun H3 ⟨z1,z2,z3⟩=>⟨ns.length - (i+1),by omega,rfl,by omega,z1,z2,z3⟩,fun v H3 hy=>?_⟩
  obtain⟨rfl,hv⟩:=hy
  have ev:=hv _ (SqL.of h2p)
  rw[hx] at ev;cases ev
  refine⟨rfl,?_⟩
  unfold tYes
  dsimp only
  rw[if_pos rfl]
  refine⟨.int ns[i],rfl,ns[i],rfl,_,h2q,?_,fun b o e=>?_,?_,?_⟩
  ·rw[List.length_map,List.length_map,List.length_take,sizeLine_eq];omega
  ·rw[upd_ne (ne_of_none e hq0')];exact sm b o e
  ·rw[upd_ne ne0];exact h2p
  ·rw[upd_same,List.take_add_one,List.getElem?_eq_getElem hlt,List.map_append,List.map_append]
   rfl
 ·have:i=ns.length:=by omega
  subst this
  rw[List.take_length] at h2q
  refine .inl ⟨⟨_,SqL.of h2p,by rw[List.length_map];exact Nat.le_refl _⟩,by show 4≤sizeLine;rw[sizeLine_eq];omega,fun p1 hp1=>?_⟩
  have ne1:p1≠q0:=fun z=>by rw[z,h2q] at hp1;cases hp1
  exact q p1 q0 _ (sm.trans (yE hp1)) (sm.free hp1) hq0' ne1 upd_same (by rw[upd_ne (Ne.symm ne1)];exact h2q)
def ahQ(ns:List Int):D:=.list [.int 0,.int 1234567891,.int 0,.list ((ns.map Z7).map PyData.int)]
def lawE(m:Nat)(ns:List Int):Env:=none::some (ahQ ns)::List.replicate (m - 2) none
def lawΓ(m:Nat):List Fl:=.dd::.ow::List.replicate (m - 2) .dd
def spLaw(K:PySem.W.Frag)(m:Nat)(fb:SF):Sp:=fun vs H Q _=>∃(a:Addr) (ns:List Int),vs=[.ref a]∧SqL K H a (ns.map V.int)∧ns.length≤63∧(∃g,fb (lawE m ns) .none=some (.rt (.bool true) g))∧∀H',Q (.bl true) H'
theorem acI{H:Hp}:∀ns:List Int,RpL H (ns.map V.int) (ns.map PyData.int)
 | []=>.nil
 | _::ns=>.cons (.int _) (acI ns)
theorem aha{N:List Str}{E0:XK}{s1:Stmt}{rest:List Stmt}{Γ' Γk:List Fl}{fb:SF}(F:Fun K x qual st f fd)(S:FnScope N ["_law_script"] (defScope st))(hN:2≤N.length)(hst:defBody st=s1::rest)
  (head:∀(X:Cx),X.prog=P→X.w=w→X.K=K→X.mg=mg→X.base=base→X.N=N→X.A.guards=some []→Room k X.A→X.calm=true→X.env.scope=defScope st→X.fn=(fun _=>true)→X.xe=(fun _ _=>False)→PS X s1 (tAsg (tCall (YO K) [] E0 (tCons (tVar 0) tNil)) (gName 1)))
  (body:∀(X:Cx),X.prog=P→X.w=w→X.K=K→X.mg=mg→X.base=base→X.N=N→X.A.guards=some []→Room k X.A→X.calm=true→X.env.scope=defScope st→X.fn=(fun _=>true)→X.xe=(fun _ _=>False)→∃t,PSs X rest t∧RfS (lawΓ N.length) Γ' Γk t fb) :
  FnG P w K mg base (k+1) f fd ["_law_script"] (spLaw K N.length fb):=by
 refine Fun.okG F S (fun vs H Q E ⟨_,_,h,_⟩=>by rw[h];rfl) fun cdv A outer s H vs Q E hgu hr ⟨a,ns,ev,hS,hl,⟨g,hfb⟩,q⟩=>?_
 obtain⟨t,ht,hs⟩:=body (cxOf CX0 P w K mg base N qual (defScope st) f cdv A outer s H E).nox rfl rfl rfl rfl rfl rfl hgu hr rfl rfl rfl rfl
 have h0:=head (cxOf CX0 P w K mg base N qual (defScope st) f cdv A outer s H E).nox rfl rfl rfl rfl rfl rfl hgu hr rfl rfl rfl rfl
 refine⟨tSeq (tAsg (tCall (YO K) [] E0 (tCons (tVar 0) tNil)) (gName 1)) t,by rw[hst];exact pss_cons h0 ht,?_⟩
 subst ev
 refine⟨.ref a,VP rfl,a,ns,by rw[List.append_nil],hS,hl,fun p q0 H1 sm hp hq ne h1p h1q=>?_⟩
 have hlen:(start N [V.ref a]).length=N.length:=Qi (by simp;omega)
 -- the cells are of the base,the bag is ours
 have R0:Rel ⟨H,fun _=>none,none,noH,sN _⟩ (List.replicate N.length .dd) (upd (fun _=>none) q0 (.lst ((ns.map Z7).map V.int))) H1 (List.replicate N.length none) .none (start N [V.ref a]):=by
  refine { ext:=fun b o e=>?_,ent:=fun b o e _=>sm b o e,dom:=fun b e=>sm.free e,b0:=fun b o e=>(nomatch e),gro:=fun b o e z=>?_,bag:=fun b z=>(nomatch z),bgs:=fun b z=>(nomatch z),slot:=fun i d e=>?_,sep:=fun i j b ij o1 o2=>?_,lene:=by rw[List.length_replicate,hlen],leng:=by rw[List.length_replicate,hlen],bgf:=fun m z=>?_ }
  ·by_cases y:b=q0
   ·subst y;rw[upd_same] at e;cases e;exact h1q
   ·rw[upd_ne y] at e;cases e
  ·by_cases y:b=q0
   ·subst y;exact hq
   ·rw[upd_ne y] at e;cases e
  ·rw[List.getElem?_replicate] at e;split at e <;> cases e
  ·obtain⟨d,fl,v,e1,_⟩:=o1
   rw[List.getElem?_replicate] at e1;split at e1 <;> cases e1
  ·rw[List.getElem?_replicate] at z;split at z <;> cases z
 have hpq:(upd (fun _=>none) q0 (.lst ((ns.map Z7).map V.int)):Hp) p=none:=by rw[upd_ne ne]
 have rq:Rp (upd (fun _=>none) q0 (.lst ((ns.map Z7).map V.int)):Hp) (.ref q0) (.list ((ns.map Z7).map PyData.int)):=.lst upd_same (acI _)
 have R1:=R0.setO (i:=1) h1p hpq hp (.cons (.int 0) (.cons (.int 1234567891) (.cons (.int 0) (.cons rq .nil)))) (by rw[List.length_replicate];omega) (by rw[List.getElem?_replicate];split <;> simp) fun j _ o=>by
  obtain⟨d,fl,v,e1,_⟩:=o
  rw[List.getElem?_replicate] at e1;split at e1 <;> cases e1
 have eE:(List.replicate N.length none:Env).set 1 (some (ahQ ns))=lawE N.length ns:=by
  unfold lawE
  match h:N.length,hN with
  | m+2,_=>rfl
 have eΓ:(List.replicate N.length Fl.dd).set 1 .ow=lawΓ N.length:=by
  unfold lawΓ
  match h:N.length,hN with
  | m+2,_=>rfl
 have R1:Rel ⟨H,fun _=>none,none,noH,sN _⟩ (lawΓ N.length) (upd (fun _=>none) q0 (.lst ((ns.map Z7).map V.int))) H1 (lawE N.length ns) .none ((start N [V.ref a]).set 1 (some (.ref p))):=by
  rw[←eE,←eΓ];exact R1
 refine hs _ _ H1 _ _ _ _ R1 hfb _ ?_
 intro v Hb' H' _ _ rv
 cases rv
 exact q H'
end
end
section
variable [TheW]
abbrev xcx(P:Program)(w:World)(K:PySem.W.Frag)(mg:Str→Option Value)(base:Heap)(N:List Str)(sc:Scope)(A:Around)(s0:Shared)(H0:Hp)(lo gl:Addr)(ce:List (Str×Addr))(qu:Str)(fu:Option Addr)(co:Value)(fr:Option Addr)(bl:Addr)(outer stack:List PySem.Env)(ex:List Addr)(pn:List (Addr×Obj)):Cx :=
 ⟨P,w,K,mg,base,A,N,s0,H0,⟨sc,lo,gl,ce,qu,fu,co,fr,bl⟩,outer,stack,ex,fun _=>true,true,pn,fun _ _=>False⟩
def Cal(P:Program)(w:World)(K:PySem.W.Frag)(mg:Str→Option Value)(base:Heap)(k:Nat)(x:Str)(ps:List Str)(sp:Sp):Prop :=
 ∃f fd,mg x=some (.ref f)∧PySem.W.keepIn K (.ref f)=true∧Binds K fd ps []∧FnG P w K mg base k f fd ps sp
theorem zr{X:Cx}{k j:Nat}{x:Str}{ps:List Str}{sp:Sp}{p pos:Pos}{e:Expr}{es:List Expr}{t:TA}(C:Cal X.prog X.w X.K X.mg X.base j x ps sp)(hj:j≤k)(hgu:X.A.guards=some [])(hr:Room k X.A)(hg:Gl X x)
  (ha:PA X (e::es) t) (hdb:(x == ("__debug__" : Str))=false:=by decide) (he:starEach (e::es) X.env=(false,eval e X.env)::starEach es X.env:=by rfl) (hpl:(backTo pos (starEach es X.env)).any (·.1)=false:=by rfl) :
  PE X (.Call (.Name x p) (e::es) [] pos) (tCall sp [] (fun _ _ _=>False) t):=by
 obtain⟨f,fd,hm,hk,hb,F⟩:=C
 exact aei F hgu (hr.mono hj) hg hm hk hb ha hdb he hpl
section
variable {P:Program} {w:World} {K:PySem.W.Frag} {mg:Str→Option Value} {base:Heap} {x qual:Str} {st:Stmt} {f:Addr} {fd:FuncData} {N ps:List Str} {k n:Nat} {Γ Γ' Γk:List Fl} {fb:SF}
theorem yc(F:Fun K x qual st f fd)(S:FnScope N ps (defScope st))(hn:ps.length=n)(ok:okP n Γ=true)(hΓ:Γ.length=N.length)(hbg:Qz Γ (List.range Γ.length)=true)
  (body:∀A s0 H0 lo gl ce qu fu co fr bl outer stack ex pn,A.guards=some []→Room k A →
   ∃t,PSs (xcx P w K mg base N (defScope st) A s0 H0 lo gl ce qu fu co fr bl outer stack ex pn) (defBody st) t∧RfS Γ Γ' Γk t fb) :
  FnG P w K mg base (k+1) f fd ps (spP n (yZ N.length fb)):=by
 refine afO (Γ':=Γ') (Γk:=Γk) F S hn ok hΓ hbg ?_
 rintro⟨P',w',K',mg',base',A,N',s0,H0,⟨sc,lo,gl,ce,qu,fu,co,fr,bl⟩,outer,stack,ex,fn,calm,pn,xe⟩ rfl rfl rfl rfl rfl rfl hgu hr rfl hsc rfl rfl
 obtain rfl:sc=defScope st:=hsc
 exact body A s0 H0 lo gl ce qu fu co fr bl outer stack ex pn hgu hr
theorem jI(F:Fun K x qual st f fd)(S:FnScope N ps (defScope st))(hn:ps.length=n)(h1:0<n)(ok:okB n Γ=true)(hΓ:Γ.length=N.length)
  (body:∀A s0 H0 lo gl ce qu fu co fr bl outer stack ex pn,A.guards=some []→Room k A →
   ∃t,PSs (xcx P w K mg base N (defScope st) A s0 H0 lo gl ce qu fu co fr bl outer stack ex pn) (defBody st) t∧RfS Γ Γ' Γk t fb) :
  FnG P w K mg base (k+1) f fd ps (spB n (Vi N.length fb)):=by
 refine agU (Γ':=Γ') (Γk:=Γk) F S hn h1 ok hΓ ?_
 rintro⟨P',w',K',mg',base',A,N',s0,H0,⟨sc,lo,gl,ce,qu,fu,co,fr,bl⟩,outer,stack,ex,fn,calm,pn,xe⟩ rfl rfl rfl rfl rfl rfl hgu hr rfl hsc rfl rfl
 obtain rfl:sc=defScope st:=hsc
 exact body A s0 H0 lo gl ce qu fu co fr bl outer stack ex pn hgu hr
end
def AL(n:Nat)(f:LF):Prop:=∀env g p,f env g=some p→p.1.length=n
theorem zz:AL 0 zb:=fun env g p h=>by cases h;rfl
theorem ze{n:Nat}{fa:XF}{fr:LF}(h:AL n fr):AL (n+1) (za fa fr):=fun env g p e=>by
 obtain⟨ds,g'⟩:=p
 obtain⟨d,g1,es,_,e2,rfl⟩:=Jx e
 exact congrArg (· + 1) (h _ _ _ e2)
def AL1(n:Nat)(f:LF):Prop:=∀env g p,f env g=some p→p.1.length+1=n
theorem AL.one{n:Nat}{f:LF}(h:AL n f):AL1 (n+1) f:=fun env g p e=>congrArg (· + 1) (h env g p e)
end
section
variable [TheW]
section
variable {Γ Γk:List Fl} {K:PySem.W.Frag} {ta tb:TE} {fa fb:XF}
theorem QF{b1 b2:Bool}{i j:Nat}(h1:RfK b1 Γ ta fa)(h2:RfK b2 Γ tb fb)(hi:i<Γ.length)(hj:j<Γ.length)(hij:i≠j)(h0:Qz Γ [i,j]=true) :
  RfS Γ ((Γ.set i (ZW b1)).set j (ZW b2)) Γk (tAsg (tTup (tCons ta (tCons tb tNil))) (gTup K 2 (gCons (gName i) (gCons (gName j) gNil)))) (jb i j fa fb):=fun c Hb H env g σ r R e Dn w=>by
 obtain⟨p,e1,e⟩:=zo e
 obtain⟨q,e2,e⟩:=zo e
 cases e
 refine h1 c Hb H env g σ p.1 p.2 R e1 _ fun u Hb1 H1 G1 R1 o1 f1=>h2 c Hb1 H1 env p.2 σ q.1 q.2 R1 e2 _ fun v Hb2 H2 G2 R2 o2 f2=>?_
 refine⟨by show 2≤sizeLine;rw[sizeLine_eq];omega,fun pt hpt=>?_⟩
 have nw:=Nw.newOwn (o:=.tup [u,v]) R2.ext hpt
 have G3:=nw.gr (c:=c)
 have R3:=nw.rel R2
 refine⟨pt,[u,v],rfl,.inl (.inl upd_same),rfl,u,[v],rfl,v,[],rfl,rfl,?_⟩
 have o1':=(o1.grow R1 G2).grow R2 G3
 have o2':=o2.grow R2 G3
 have hs:i<σ.length:=by rw[←R2.leng];exact hi
 have ra:=R3.setV o1' hi (fun z=>jm h0 z (by simp)) fun hb1 k p0 _ ev o=>RfN.old R ((G1.trans G2).trans G3) o (f1 hb1 p0 ev)
 refine w Hb2 _ _ (G1.trans G2).b (ra.setV o2' (by simpa using hj) ?_ fun hb2 k p0 hk ev o=>?_)
 ·rw[List.getElem?_set_ne hij]
  exact fun z=>jm h0 z (by simp)
 ·by_cases z:i=k
  ·subst z
   obtain⟨y1,y2⟩:=Xd hi hs o
   exact vne o1 y1 f2 hb2 (y2.trans ev.symm)
  ·exact RfN.old R1 (G2.trans G3) (Xe z o) (f2 hb2 p0 ev)
end
section
variable {X:Cx}
theorem aeA{i:Nat}{y:Str}{py:Pos}{kx vx tg iter:Expr}{ifs:List Expr}{scope:Scope}{own:List (Str×Nat)}{pos spos:Pos}{wi:TI}{g:TG}{tt:TT}{tk tv:TE}(hc:X.calm=true)(hN:X.N.Nodup)(hy:X.N[i]? = some y)(hyl:X.env.scope.names.lookup y=some .local)
  (hsw:swapsWith (.DictComp kx vx [⟨tg,iter,ifs,0⟩] scope pos) (some (.Name y py)) spos.line X.env=pure true) (hi:PI X tg iter wi) (ok:BlkOk X.N X.env.scope scope own)
  (hg:∀(s:Shared) (H:Hp) (C:Addr) (cl:List (Str×Addr)) (fp:List Addr),PG (X.blk s H scope (compEnvC scope cl C X.env) fp) tg g)
  (ht:∀(s:Shared) (H:Hp) (C:Addr) (cl:List (Str×Addr)) (fp:List Addr),PTs (X.blk s H scope (compEnvC scope cl C X.env) fp) ifs tt)
  (hk:∀(s:Shared) (H:Hp) (C:Addr) (cl:List (Str×Addr)) (fp:List Addr),PE (X.blk s H scope (compEnvC scope cl C X.env) fp) kx tk)
  (he:∀(s:Shared) (H:Hp) (C:Addr) (cl:List (Str×Addr)) (fp:List Addr),PE (X.blk s H scope (compEnvC scope cl C X.env) fp) vx tv) (hs:∀x,foldedSetIterable iter X.env x=pure x:=by intro _;rfl) :
  PS X (.Assign [.Name y py] (.DictComp kx vx [⟨tg,iter,ifs,0⟩] scope pos) spos) (tAsg (tDc wi g tt tk tv (own.map (·.2))) (gName i)):=by
 refine⟨fun pins s σ H D I h=>?_⟩
 rw[exec_Assign_Name_used _ _ _ _ hsw]
 refine wpAny_bind (wpAny_standAt (wpAny_bind ?_))
 show wpAny _ X.A (do let _ ←comprehension (.DictComp kx vx [⟨tg,iter,ifs,0⟩] scope pos) scope X.env (firstIterPos [⟨tg,iter,ifs,0⟩] pos) newDict false (eval iter X.env) (some (assign (.Name y py) X.env))) _ _ s
 have h:tDc wi g tt tk tv (own.map (·.2)) σ H (fun x H1=>gName i x σ H1 D.nx):=h
 refine wpAny_bind (thn (dc_core (Qf:=fun _ s'=>SP X pins D .next s') hc hN I hi ok hg ht hk he hs h fun L C s' m H' I' q hn f=>?_) fun _ s' hq=>wpAny_pure (wpAny_pure hq))
 show wpAny _ _ (assign (.Name y py) X.env (.ref L)) _ _ _
 obtain⟨f0,f1,f2,f3,f4,f5⟩:=f
 refine wpAny_assign_Name (store_ok2 (v:=V.ref L) I' hN hy (.inl hyl) rfl (fun s2 I2 ⟨a,sb,ha⟩=>?_) (.inr hyl))
 have haC:C≠a:=ha.elim (fun z=>z▸f1) fun z e=>f4 y a z e.symm
 exact⟨m,hn.sameBut sb haC,fun h3 sb3=>⟨_,H',I2.turned (t':=s2.toks) (fun b o hb e=>(sb3.2 b hb).trans e) f0 f1 f3 f4 f5,q⟩⟩
theorem aeB{kx vx:Expr}{gs:List Comprehension}{scope:Scope}{pos py:Pos}{y:Str}{l:Nat}{env:PySem.Env}(hk:env.scope.kind=.function)(hy:env.scope.names.lookup y=some .local)(hl:(py.line == pos.line)=true)
  (ha:(scope.names.any fun(n,k)=>n == y&&(k == .local||k == .cell))=false):swapsWith (.DictComp kx vx gs scope pos) (some (.Name y py)) l env=pure true:=by
 have ky:env.kindOf y=some .local:=hy
 have hb:env.blockKind=.function:=by unfold PySem.Env.blockKind;rw[hk];rfl
 unfold swapsWith
 simp only[hb,ky,ha,Expr.pos,hl]
 rfl
end
end
section
variable [TheW]
section
variable {X:Cx}
end
section
variable {Γ:List Fl} {K:PySem.W.Frag} {te:TE} {f:XF}
end
section
variable {P:Program} {w:World} {K:PySem.W.Frag} {mg:Str→Option Value} {base:Heap} {x qual y:Str} {st:Stmt} {f:Addr} {fd:FuncData} {k:Nat}
theorem ahb{Γ Γ1 Γ' Γ2 Γk Γk2:List Fl}{ts:TS}{f:SF}(i:Nat)(e:Γ.set i .bg=Γ1)(hi:Γ[i]? = some .ow)(hno:Qz Γ (List.range Γ.length)=true)(hown:YN Γ1=true)(h1:RfS Γ1 Γ2 Γk2 ts f):RfS Γ Γ' Γk ts (adt i f):=by
 subst e
 exact ahO i hi hno hown h1
theorem afW{N:List Str}{s1:Stmt}{rest:List Stmt}{Γ Γ' Γk:List Fl}{fb:SF}(F:Fun K x qual st f fd)(S:FnScope N ["_law_script"] (defScope st))(hN:2≤N.length)(hst:defBody st=s1::rest)(hΓ:lawΓ N.length=Γ)
  (head:∀A s0 H0 lo gl ce qu fu co fr bl outer stack ex pn,A.guards=some []→Room k A →
   PS (xcx P w K mg base N (defScope st) A s0 H0 lo gl ce qu fu co fr bl outer stack ex pn) s1 (tAsg (tCall (YO K) [] (fun _ _ _=>False) (tCons (tVar 0) tNil)) (gName 1)))
  (body:∀A s0 H0 lo gl ce qu fu co fr bl outer stack ex pn,A.guards=some []→Room k A →
   ∃t,PSs (xcx P w K mg base N (defScope st) A s0 H0 lo gl ce qu fu co fr bl outer stack ex pn) rest t∧RfS Γ Γ' Γk t fb) :
  FnG P w K mg base (k+1) f fd ["_law_script"] (spLaw K N.length fb):=by
 subst hΓ
 refine aha (E0:=fun _ _ _=>False) (Γ':=Γ') (Γk:=Γk) F S hN hst ?_ ?_
 ·rintro⟨P',w',K',mg',base',A,N',s0,H0,⟨sc,lo,gl,ce,qu,fu,co,fr,bl⟩,outer,stack,ex,fn,calm,pn,xe⟩ rfl rfl rfl rfl rfl rfl hgu hr rfl hsc rfl rfl
  obtain rfl:sc=defScope st:=hsc
  exact head A s0 H0 lo gl ce qu fu co fr bl outer stack ex pn hgu hr
 ·rintro⟨P',w',K',mg',base',A,N',s0,H0,⟨sc,lo,gl,ce,qu,fu,co,fr,bl⟩,outer,stack,ex,fn,calm,pn,xe⟩ rfl rfl rfl rfl rfl rfl hgu hr rfl hsc rfl rfl
  obtain rfl:sc=defScope st:=hsc
  exact body A s0 H0 lo gl ce qu fu co fr bl outer stack ex pn hgu hr
theorem abS(F:Fun K x qual st f fd)(S:FnScope [("_law_script" : Str),y] ["_law_script"] (defScope st))
  (body:∀A s0 H0 lo gl ce qu fu co fr bl outer stack ex pn,A.guards=some []→Room k A →
   PSs (xcx P w K mg base [("_law_script" : Str),y] (defScope st) A s0 H0 lo gl ce qu fu co fr bl outer stack ex pn) (defBody st) (tSeq (aaD K) tNext)) :
  FnG P w K mg base (k+1) f fd ["_law_script"] (YO K):=by
 refine adv F S ?_
 rintro⟨P',w',K',mg',base',A,N',s0,H0,⟨sc,lo,gl,ce,qu,fu,co,fr,bl⟩,outer,stack,ex,fn,calm,pn,xe⟩ rfl rfl rfl rfl rfl rfl hgu hr rfl hsc rfl rfl
 obtain rfl:sc=defScope st:=hsc
 exact body A s0 H0 lo gl ce qu fu co fr bl outer stack ex pn hgu hr
end
theorem walk_ofEG{l:PySem.W.OpenLaw}{n k:Nat}{q:Program}{loose:List Str}{XP:(Str→Option Value)→Heap→Prop}{YP:World→Heap→Prop}{d:DefRec}{x:Str}(hn:l.most=some n)(hn2:n≤sizeLine)(hdf:d.params.defaults=[])(hr:Room k callerA)
  (F:∀(w:World) (mg:Str→Option Value) (fa:Addr) (h:Heap),YP w h→h.Ns mainGlobals mg→mg d.name=some (.ref fa)→∃(K:PySem.W.Frag) (fd:FuncData) (sp:Sp),K.In h∧(∀(s:Shared) (u:Value),BindsTo s fd ⟨[u],[]⟩ [(x,u)]) ∧
    (∀(H:Hp) (a:Addr) (ns:List Int),ns.length≤n→(∀z∈ns,Builtin.Int.intBits z≤1048576)→SqL K H a (ns.map V.int)→sp [.ref a] H (fun v _=>v=.bl true) fun _ _ _=>False)∧∀base:Heap,K.In base→base.Ns mainGlobals mg→FnG l.prog w K mg base k fa fd [x] sp) :
  PySem.W.WalkO q loose XP YP l.row.toRowW d [] (fun f vs=>PySem.call f vs):=by
 refine Att.attach_callB hn hdf fun w s₀ s₁ mg mb fa o pm cd doc a vs ns G Y ho hd hcd hmg hobj hints hlen hbits hg=>?_
 obtain⟨K,fd,sp,KX,hb,hsp,hF⟩:=F w mg fa _ Y G.T.g hmg
 exact adu KX G.T.g G.T.b G.T.builtins G.T.nolimit hg hobj hints (Nat.le_trans hlen hn2) hr hF hb fun H hO hS=>hsp H a ns hlen hbits hS
theorem zW{K:PySem.W.Frag}{x:Str}{st:Stmt}{f:Addr}{fd:FuncData}(F:FunD K x x (defArgs st) (defBody st) (defScope st) [] [] f fd):L2.Fun K x x st f fd:=by
 obtain⟨oc,od,dV,kV,doc,pm,an,cdv,ct,osl,e,lk,hcd,hD,_⟩:=F.ex
 rcases hD with⟨_,z⟩ | ⟨z,_⟩
 ·subst z;exact⟨⟨oc,od,kV,doc,pm,an,cdv,ct,osl,e,lk,hcd⟩,F.kp⟩
 ·exact absurd rfl z
section
variable {P:Program} {w:World} {K:PySem.W.Frag} {mg:Str→Option Value} {base:Heap} {k j:Nat} {x:Str} {ps:List Str} {sp:Sp} {f:Addr} {fd:FuncData}
theorem Cal.mono(c:Cal P w K mg base j x ps sp)(h:j≤k):Cal P w K mg base k x ps sp:=let ⟨f,fd,h1,h2,h3,h4⟩:=c;⟨f,fd,h1,h2,h3,h4.mono h⟩
theorem yk(hm:mg x=some (.ref f))(kp:PySem.W.keepIn K (.ref f)=true)(hb:Binds K fd ps [])(h:FnG P w K mg base k f fd ps sp):Cal P w K mg base k x ps sp:=⟨f,fd,hm,kp,hb,h⟩
end
end
section
variable [TheW]
section
variable {X:Cx}
end
def afX:List D→Option D
 | [.str z]=>if sz z.length then some (.int (z.length:Nat)) else none
 | _=>none
def ahc:D→D→Option D
 | .str i,.str j=>match i.cps.toList with
  | [c]=>some (.bool (decide (c∈j.cps.toList)))
  | _=>none
 | _,_=>none
def ahd(op op':D→D→Option D)(f h l:XF):XF:=fun env g=>(f env g).bind fun p=>(h env p.2).bind fun q=>(op p.1 q.1).bind fun b=>(Gy b).bind fun k=>if k then(l env q.2).bind fun r=>(op' q.1 r.1).bind fun d=>some (d,r.2) else some (.bool false,q.2)
section
variable {Γ:List Fl} {ta tb tc:TE} {fa fb fc:XF}
def ahe(x:Str):List D:=x.cps.toList.map fun c=>.str ⟨#[c]⟩
def aie(f:XF):IF:=fun env g=>(f env g).bind fun p=>match p.1 with
 | .str x=>some (ahe x,p.2)
 | _=>none
end
end
section
variable [TheW]
section
variable {prog:Program} {w:World} {A:Around} {ks:List Key} {arr:Array Value}
end
end
section
variable [TheW]
section
variable {X:Cx}
end
def xE0:XF:=fun _ g=>some (.dict [],g)
theorem Z8{c:Ctx}{Hb H:Hp}:∀ {kvs:List (Key×V)} {ds:List (D×D)},RpK Hb kvs ds→OwK c Hb H 0 [] kvs ds
 | _,_,.nil=>.nil
 | _,_,.cons h t=>.cons (a:=[]) (as:=[]) (.leaf h) (Z8 t) (fun x hx=>by cases hx)
theorem GK{c:Ctx}{Hb H:Hp}:∀ {ds:List (D×D)} {kvs:List (Key×V)} {as:List Addr},OwK c Hb H 0 as kvs ds→as=[]∧RpK Hb kvs ds
 | [],_,_,h=>by cases h;exact⟨rfl,.nil⟩
 | (_,d)::ds,_,_,h=>by
  cases h with
  | cons h1 h2 h3 =>
   obtain⟨e,r⟩:=GK h2
   subst e
   cases h1 with
   | leaf r1=>exact⟨rfl,.cons r1 r⟩
section
variable {Γ Γ0 Γ1:List Fl} {wi:TI} {g:TG} {tt:TT} {tk:TE} {fi:IF} {h:GF} {t:BF} {fk:XF} {vs is:List Nat} {K:PySem.W.Frag}
end
end
section
variable [TheW]
section
variable {Γ Γ' Γk:List Fl} {ty te ts:TE} {fy f:XF} {K:PySem.W.Frag}
end
section
variable {c:Ctx} {Γ:List Fl} {Hb H H':Hp} {env:Env} {g:D} {σ:L2.St}
end
section
variable {Γ Γ' Γk:List Fl} {ts:TS} {f:SF}
end
end
section
variable [TheW]
def abT(i j:Nat)(cst:Str):SF:=fun env g=>(env[j]?.join.bind Ji).bind fun es=>match es with
 | []=>none
 | e::er=>(ixD e (.int 0)).bind fun d=>((env.set j (some (.list er)))[i]?.join.bind Ji).bind fun ds=>if sz ds.length then some (.nx ((env.set j (some (.list er))).set i (some (.list (ds++[.tuple [.str cst,d]])))) g) else none
section
variable {Γ Γk:List Fl} {K:PySem.W.Frag}
end
end
section
variable [TheW]
structure NewP(H:Hp)(L:List (Addr×Obj))(kvs:List (Key×V)):Prop where
 len:L.length=kvs.length
 nd:(L.map (·.1)).Nodup
 new:∀z∈L,H z.1=none∧z.2.dict=none
section
variable {X:Cx} {pins:List (Addr×Obj)} {σ:L2.St} {H0:Hp} {s:Shared} {h':Heap} {tk:Nat}
end
section
variable {c:Ctx} {Γ:List Fl} {env:Env} {g:D} {σ:L2.St}
end
section
variable {Γ:List Fl} {K:PySem.W.Frag} {te:TE} {f:XF}
end
end
section
variable [TheW]
def aaE:D→Bool
 | .none=>true
 | _=>false
def abU:D→D→Option D
 | d,.none=>some (.bool (aaE d))
 | _,_=>none
theorem IH:RfO rIsN abU:=fun c Hb H x y dx dy d sm rx ry e Q q=>by
 cases dy with
 | none =>
  cases e
  have hy:y=.non:=by
   rcases ry with h | ⟨_,_,_,_,h,_⟩
   ·cases h;rfl
   ·cases h
  have hx:decide (x=.non)=aaE dx:=by
   rcases rx with h | ⟨p,xs,ds,hx,hd,_⟩
   ·cases h <;> simp[aaE]
   ·subst hx hd;simp[aaE]
  exact⟨hy,by rw[hx];exact q _ Hb H (Nw.refl sm) (.bl _)⟩
 | _=>cases e
end
end KP
namespace KP
open PySem PySem.Spec PyProof.Rows L2
variable [TheW]
section
open PySem.W
end
section
open PySem.W
end
end KP
namespace KP
open PySem PySem.Spec PyProof.Rows L2
section
variable [TheW]
def II:TS:=fun _ _ _=>False
theorem aaF{X:Cx}{st:Stmt}:PS X st II:=⟨fun _ _ _ _ _ _ h=>h.elim⟩
def abV:SF:=fun _ _=>none
def aaG(f:XF):SF:=fun env g=>(f env g).bind fun p=>some (.nx env p.2)
section
variable {Γ Γ' Γk:List Fl} {te:TE} {f:XF}
theorem acJ:RfS Γ Γ' Γk II abV:=fun _ _ _ _ _ _ _ _ e=>by cases e
theorem aeC(h:RfE Γ te f):RfS Γ Γ Γk (tDrop te) (aaG f):=fun c Hb H env g σ r R e Dn w=>by
 obtain⟨p,e1,e⟩:=zo e
 cases e
 exact h c Hb H env g σ p.1 p.2 R e1 _ fun v Hb1 H1 G1 R1 _=>w Hb1 H1 σ G1.b R1
end
end
end KP
namespace KPC
open PySem PySem.Spec PyProof.Rows L2
variable [KP.TheW]
section
variable {prog:Program} {w:World} {A:Around} {R:Result→Shared→Prop} {s:Shared} {kx vx t0 i0 t1 i1:Expr} {ifs0 ifs1:List Expr} {scope:Scope} {pos:Pos} {it:Value} {D:Addr} {env:Env}
end
section
variable {X:Cx}
end
end KPC
namespace KP
open PySem PySem.Spec PyProof.Rows L2 KPC
section
variable [TheW]
section
variable {Γ Γ0 Γ1:List Fl} {g:TG} {tt:TT} {tk tv:TE} {h:GF} {t:BF} {fk fv:XF} {vs is:List Nat}
end
section
variable {Γ Γ0 Γ1 Γ2 Γ3:List Fl} {wi wi1:TI} {g g1:TG} {tt tt1:TT} {tk tv:TE} {fi fi1:IF} {h h1:GF} {t t1:BF} {fk fv:XF} {vs vs1 is is1:List Nat}
end
end
end KP
namespace KP
open PySem PySem.Spec PyProof.Rows L2
section
variable [TheW]
end
end KP
namespace KPC
open PySem PySem.Spec PyProof.Rows L2
variable [KP.TheW]
section
variable {X:Cx} {pins:List (Addr×Obj)} {s:Shared} {σ:L2.St} {H:Hp}
end
section
variable {X:Cx} {a:Expr} {ta:TE} {p p2 pos kpos:Pos}
end
end KPC
namespace KP
open PySem PySem.Spec PyProof.Rows L2
section
variable [TheW]
def abW(ds:List D)(d:D):Prop:=d∈ds∧∃ed,d=.tuple ed∧∀e∈ds,∃es,e=.tuple es∧(ed.length≤es.length→e=d)
theorem abW.one{ds:List D}{d d':D}(h:abW ds d)(h':abW ds d'):d=d':=by
 obtain⟨m,ed,rfl,a⟩:=h
 obtain⟨m',ed',rfl,a'⟩:=h'
 obtain⟨es,e1,b⟩:=a _ m'
 obtain⟨es',e1',b'⟩:=a' _ m
 cases e1;cases e1'
 rcases Nat.le_total ed.length ed'.length with z | z
 ·exact(b z).symm
 ·exact b' z
noncomputable section
end
end
section
variable [TheW]
def aaH(f:LF):IF:=fun env g=>(f env g).bind fun p=>match p.1 with
 | [.int i,.int j]=>if decide (-(2^62)≤i∧i<2^62 ∧ -(2^62)≤j∧j<2^62) then some (J4 i (j - i).toNat,p.2) else none
 | _=>none
theorem ahf{Γ:List Fl}{ta:TA}{fa:LF}(h:aai Γ ta fa):RfI Rp Γ (iRng2 ta) (aaH fa):=fun c Hb H env g σ ds g' R e Q q=>by
 obtain⟨p,e1,e⟩:=zo e
 split at e
 ·rename_i i j hp
  split at e
  ·rename_i hn
   cases e
   refine h c Hb H env g σ p.1 p.2 R e1 _ fun vs Hb1 H1 G1 R1 r1=>?_
   rw[hp] at r1
   cases r1 with
   | cons r rr =>
    cases rr with
    | cons r' rr =>
     cases rr
     have hn:=of_decide_eq_true hn
     exact⟨i,j,by rw[r.int,r'.int],hn,q _ Hb1 H1 G1 R1 ZL⟩
  ·cases e
 ·cases e
section
variable {Γ Γ' Γk:List Fl} {te ts ty:TE} {f fy:XF} {K:PySem.W.Frag}
theorem aeD:RfD 1 Γ tDNewK xE0:=fun c Hb H env g σ d g' R e Q q=>by
 cases e
 intro p hp
 have w:=Nw.newOwn (o:=.dK []) R.ext hp
 exact q (.ref p) [p] Hb _ w.gr (w.rel R) (.dK upd_same (R.ext.free hp) (R.dom p hp) (by simp) .nil) fun a ha=>by rw[List.mem_singleton.mp ha];exact hp
theorem Zy{c:Ctx}{Hb H:Hp}{env:Env}{g:D}{σ:L2.St}{i:Nat}{ds:List (D×D)}(hi:Γ[i]? = some (.od 1))(R:Rel c Γ Hb H env g σ)(x1:env[i]? = some (some (.dict ds))):∃p kvs, σ[i]? = some (some (.ref p))∧H p=some (.dK kvs)∧Hb p=none∧c.Hc p=none∧RpK Hb kvs ds∧Ow c Hb H 1 [p] (.ref p) (.dict ds):=by
 obtain⟨fl,v,y1,y2,y3⟩:=R.slot i _ x1
 rw[hi] at y1;cases y1
 obtain⟨as,o⟩:=y3
 cases o with
 | dK h1 h2 h3 h4 h5 =>
  obtain⟨ea,r⟩:=GK h5
  subst ea
  exact⟨_,_,y2,h1,h2,h3,r,.dK h1 h2 h3 h4 h5⟩
def Xi(i:Nat)(f:SF):SF:=fun env g=>(xV i env g).bind fun x=>(Wd x.1).bind fun _=>f env g
theorem aaI(i:Nat)(hi:Γ[i]? = some (.od 1)){ts:TS}{f:SF}(h1:RfS (Γ.set i .sh) Γ' Γk ts f):RfS Γ Γ' Γk (aex i ts) (Xi i f):=fun c Hb H env g σ r R e Dn w=>by
 obtain⟨x,e1,e⟩:=zo e
 obtain⟨ds,e2,e⟩:=zo e
 obtain⟨x1,x2⟩:=jl (show xV i env g=some (x.1,x.2) from e1)
 rw[ju e2] at x1
 obtain⟨p,kvs,z2,k1,k2,k3,k4,own0⟩:=Zy hi R x1
 have hl:i<Γ.length:=(List.getElem?_eq_some_iff.mp hi).1
 have he:i<env.length:=by rw[R.lene,←R.leng];exact hl
 have hs:i<σ.length:=by rw[←R.leng];exact hl
 refine⟨p,.dK kvs,z2,k1,True.intro,fun od=>?_⟩
 have hbg:∀k:Nat,(Γ.set i .dd)[k]? = some .bg→Γ[k]? = some .bg:=fun k e=>by
  by_cases q:i=k
  ·subst q
   rw[List.getElem?_set_self hl] at e;cases e
  ·rw[List.getElem?_set_ne q] at e;exact e
 have R0:Rel c (Γ.set i .dd) Hb H env g σ:=R.less rfl (by simp) hbg fun j d ej=>⟨ej,by
  by_cases q:i=j
  ·subst q;exact .inr (List.getElem?_set_self hl)
  ·exact .inl (List.getElem?_set_ne q)⟩
 have free:∀j,¬zK c (Γ.set i .dd) Hb H env σ j p:=fun j ow=>by
  by_cases q:i=j
  ·subst q
   obtain⟨_,fl,_,_,e2,_,e4⟩:=ow
   rw[List.getElem?_set_self hl] at e2;cases e2
   exact e4.elim
  ·exact R.sep i j p q ⟨_,_,_,x1,hi,z2,_,own0,by simp⟩ (ow.eqs (List.getElem?_set_ne q) rfl rfl)
 have R1:=R0.pokeOff (o:=.frz od (.dK kvs)) k2 k3 (by rw[k1];simp) fun j=>free j
 have free1:∀j,∀a∈[p],¬zK c (Γ.set i .dd) Hb (upd H p (.frz od (.dK kvs))) env σ j a:=fun j a ha ow=>by
  rw[List.mem_singleton.mp ha] at ow
  exact free j (ow.back R0 (Same.refl _) fun b hb=>⟨fun o eo=>by rw[upd_ne (fun z:b=p=>free j (by rw[←z];exact hb))];exact eo,(hb.live R0).2.1⟩)
 obtain⟨sm,R2⟩:=R1.adoptMany (as:=[p]) (fun a ha=>by rw[List.mem_singleton.mp ha];exact⟨k2,k3⟩) free1
 have rk:Rp (fun a=>if a∈[p] then upd H p (.frz od (.dK kvs)) a else Hb a) (.ref p) (.dict ds):=by
  refine .dK (o:=od) (kvs:=kvs) ?_ (k4.same sm)
  show(if p∈[p] then upd H p (.frz od (.dK kvs)) p else Hb p)=_
  rw[if_pos (by simp),upd_same]
 have R3:=R2.setS (i:=i) rk (by simpa using hl) (by rw[List.getElem?_set_self hl];simp)
 have eΓ:(Γ.set i .dd).set i .sh=Γ.set i .sh:=List.set_set ..
 have eE:env.set i (some (.dict ds))=env:=by
  apply List.ext_getElem?
  intro j
  by_cases q:i=j
  ·subst q;rw[List.getElem?_set_self he,x1]
  ·rw[List.getElem?_set_ne q]
 have eS:σ.set i (some (.ref p))=σ:=by
  apply List.ext_getElem?
  intro j
  by_cases q:i=j
  ·subst q;rw[List.getElem?_set_self hs,z2]
  ·rw[List.getElem?_set_ne q]
 rw[eΓ,eE,eS] at R3
 exact h1 c _ _ env g σ r R3 e Dn (w.same sm)
end
end
end KP
namespace KP
open PySem PySem.Spec PyProof.Rows L2
variable [TheW]
theorem Vu{X:Cx}:MtM X "dict.setdefault" rSetd:=by
 intro pins s σ H x vs v us Q I rx rv h
 obtain⟨a,kvs,k,w,rfl,rfl,ea,hl,w1,w2⟩:=h
 cases rx
 cases rv with
 | cons ry rv =>
  cases rv with
  | cons rd rv =>
   cases rv
   obtain⟨z,hd,vs0,rel,dd⟩:=dk_of I.hok ea
   have hz:vs0.length≤sizeLine:=by rw[←rel.length];exact z
   refine call_meetsIn PySem.F.slot_dict_setdefault dd.typeIs PySem.F.entry_dict_setdefault (PySem.F.args_dict_setdefault_3 _ _ _) (kt_meets_setdefault (mixKind X.prog X.w) _ (kV_is ry) hd _) ⟨vs0,dd,hz,fun u hu=>?_,fun hn h' dd' hs=>?_⟩
   ·have rr:=rel.val k
    rw[hu] at rr
    cases hv:valV kvs k with
    | none=>rw[hv] at rr;exact False.elim rr
    | some x =>
     rw[hv] at rr
     exact(⟨x,H,I.tok _,rr,w1 x hv⟩:EP X pins σ Q u _)
   ·have rr:=rel.val k
    rw[hn] at rr
    cases hv:valV kvs k with
    | some x=>rw[hv] at rr;exact False.elim rr
    | none =>
     have hl2:(putK kvs k w).length≤sizeLine:=by have:=length_putK kvs k w;omega
     exact(⟨w,_,d_write (t':=s.toks+1) I (by rw[ea];exact True.intro) hs (let ⟨q,_,_,hq,_⟩:=dd';⟨q,hq⟩) (dk_new hl2 hd (rel.put k rd) dd'),rd,w2 hv⟩:EP X pins σ Q _ _)
section
variable {Γ Γ' Γk:List Fl} {tk tv tw:TE} {ta tb:TS} {fk fv fw:XF} {fa fb:SF} {K:PySem.W.Frag}
end
section
variable {P:Program} {w:World} {K:PySem.W.Frag} {mg:Str→Option Value} {base:Heap} {x qual:Str} {st:Stmt} {f:Addr} {fd:FuncData} {k:Nat}
end
end KP
set_option maxHeartbeats 4000000
namespace KP
open PySem PySem.Spec PyProof.Rows L2
section
variable [TheW]
def pr2(p:Int×Int):D:=.tuple [.int p.1,.int p.2]
section
variable {Γ:List Fl} {K:PySem.W.Frag} {P:Program} {w:World} {te:TE} {f:XF}
end
end
end KP
namespace KP
open PySem PySem.Spec PyProof.Rows L2
variable [TheW]
section
variable {P:Program} {w:World} {K:PySem.W.Frag} {mg:Str→Option Value} {base:Heap} {x qual:Str} {st:Stmt} {f:Addr} {fd:FuncData} {k:Nat}
end
end KP
set_option maxHeartbeats 2000000
namespace KPX
open PySem PySem.Spec PyProof.Rows L2 PySem.W PySem.Calls
variable [KP.TheW]
structure InS(params:Arguments)(scope:Scope):Prop where
 kind:scope.kind=.function
 co:scope.isCoroutine=false
 gen:scope.isGenerator=false
 cell:∀x∈scope.names,x.2≠.cell
 s1:scope.names.lookup ("super" : Str)=some .globalImplicit
 s2:scope.names.lookup ("__class__" : Str)=some .free
 s3:scope.names.lookup ("self" : Str)=some .local
 s4:scope.names.lookup ("paper" : Str)=some .local
 hp:∃ar:Arg,(params.posonlyargs++params.args).head? = some ar∧ar.arg=("self" : Str)
structure InE(qual:Str)(scope:Scope)(cda cc:Addr)(p0 p1 p2 p3 p4 p5 p6 p7 p8 p9:Pos):Prop where
 it:∀L f,interactive (ksEnv qual scope L f (.ref cda) cc)=false
 sw:∀L f,swapsWith (.Call (.Attribute (.Call (.Name "super" p0) [] [] p1) "__init__" p2) [.Name "paper" p3] [] p4) none p5.line (ksEnv qual scope L f (.ref cda) cc)=pure false
 ev:∀L f,∃pl:Sem Bool,eval (.Call (.Attribute (.Call (.Name "super" p0) [] [] p1) "__init__" p2) [.Name "paper" p3] [] p4) (ksEnv qual scope L f (.ref cda) cc)=(do
   let ov ←attributeBase (.Call (.Name "super" p0) [] [] p1) "__init__" (ksEnv qual scope L f (.ref cda) cc) (eval (.Call (.Name "super" p0) [] [] p1) (ksEnv qual scope L f (.ref cda) cc))
   standAt p2.atName
   let (f',first) ←holding [ov] (getMethod ov "__init__" pl)
   callWith p4 f' first (backTo p4 (starEach [.Name "paper" p3] (ksEnv qual scope L f (.ref cda) cc))) [])
 sw2:∀L f,swapsWith (.Name "paper" p8) (some (.Attribute (.Name "self" p6) "paper" p7)) p9.line (ksEnv qual scope L f (.ref cda) cc)=pure false
structure RefK(P:Program)(K:Frag)(C fI cc cda:Addr):Prop where
 cls:∃nm q N bs bm sn sub ab col dd k0 k1 k2 k3 k5,K.lookup C=some (excClassObj nm q C N bs bm true sn sub ab col dd k0 k1 k2 k3 k5 "ValueError.__new__")∧PySem.HandSPX.refsVE bm=true
 sa:findIn K (.ref C) "__setattr__" = some (some (.builtin "object.__setattr__"))
 no:findIn K (.ref C) "paper" = some none
 code:∃ccl cdd vs ccs file tf,K.lookup cda=some ⟨ccl,cdd,.fields vs,ccs⟩∧vs[2]? = some (.str file tf)∧((P.main.file:Str) == file)=true
 cell:∃cl cld csl,K.lookup cc=some ⟨cl,cld,.cell (some (.ref C)),csl⟩
 mro:mroIn K C (.ref C)=some true
 sup:nsIn K mainGlobals "super" = some none
 top:(P.main.scope.names.lookup ("super" : Str)).isSome=false
 tp:nsIn K cStatics "thirdparty.any" = some none
 along:ks_superIn K C C "__init__" = some (some (.builtin "ValueError.__init__"))
 ve:subIn K (.ref C) (.type "ValueError")=some true
section
variable {prog:Program} {w:World} {A:Around} {R:Result→Shared→Prop} {hp:Heap} {g:Array GenState} {d:Drawn} {t:Nat} {os:OsState} {K:Frag} {x C fI cc cda t0:Addr} {u:Value} {args:Args} {mg mb:Str→Option Value}
 {qual:Str} {params:Arguments} {scope:Scope} {dV kV doc pm ct oc:Value} {an od:Option Addr} {osl:Array (Option Value)} {p0 p1 p2 p3 p4 p5 p6 p7 p8 p9:Pos}
end
def spI(C:Addr):Sp:=fun vs H Q _=>∃a v,vs=[.ref a,v]∧H a=some (exo a C none)∧∀dx,H dx=none→dx≠a→Q .non (upd (upd H dx (exd dx [("paper",v)])) a (exo a C (some dx)))
end KPX
set_option maxHeartbeats 1000000
namespace KP
open PySem PySem.Spec PyProof.Rows L2
variable [TheW]
structure FnX(P:Program)(w:World)(K:PySem.W.Frag)(mg:Str→Option Value)(base:Heap)(k:Nat)(f:Addr)(fd:FuncData)(ps:List Str)(sp:Sp):Prop where
 len:∀vs H Q E,sp vs H Q E→vs.length=ps.length
 runs:∀(A:Around) (outer:List PySem.Env) (s:Shared) (H:Hp) (args:Args) (us:List Value) (vs:List V) (Q:VK) (E:XK),A.guards=some []→Room k A→Env0 P w K mg base A outer s H→BindsTo s fd args (ps.zip us)→Vals vs us→sp vs H Q E →
  codeAny (model P w) A (.call (.ref f) args) (CR (L2.CX P w) outer P w H s Q E) s
theorem FnX.mono{P:Program}{w:World}{K:PySem.W.Frag}{mg:Str→Option Value}{base:Heap}{j k:Nat}{f:Addr}{fd:FuncData}{ps:List Str}{sp:Sp}(F:FnX P w K mg base j f fd ps sp)(h:j≤k):FnX P w K mg base k f fd ps sp :=
 ⟨F.len,fun A outer s H args us vs Q E hg hr=>F.runs A outer s H args us vs Q E hg (hr.mono h)⟩
section
variable {X:Cx} {k:Nat} {f:Addr} {fd:FuncData} {ps:List Str} {sp:Sp} {E:XK} {x:Str} {p pos:Pos} {e:Expr} {es:List Expr} {t:TA}
end
def ahg(P:Program)(w:World)(K:PySem.W.Frag)(mg:Str→Option Value)(base:Heap)(k:Nat)(x:Str)(ps:List Str)(sp:Sp):Prop :=
 ∃f fd,mg x=some (.ref f)∧PySem.W.keepIn K (.ref f)=true∧Binds K fd ps []∧FnX P w K mg base k f fd ps sp
theorem ahg.mono{P:Program}{w:World}{K:PySem.W.Frag}{mg:Str→Option Value}{base:Heap}{j k:Nat}{x:Str}{ps:List Str}{sp:Sp}(c:ahg P w K mg base j x ps sp)(h:j≤k):ahg P w K mg base k x ps sp:=let ⟨f,fd,h1,h2,h3,h4⟩:=c;⟨f,fd,h1,h2,h3,h4.mono h⟩
def RF:Type:=Env→D→Option D
def ahh(C:Addr)(E:XK)(c:Ctx)(Hb:Hp)(d:D):Prop:=∀dx v Hb' H',Same Hb Hb'→Same Hb' H'→(∀a o,c.Hc a=some o→c.io≠some a→H' a=some o)→(∀a o,Hb' a=some o→c.Hb0 a=none→c.Hc a=none)→H' dx=some (.xd [("paper",v)])→Rp Hb' v d→E (.ref C) (some dx) H'
theorem ahh.on{C:Addr}{E:XK}{c:Ctx}{Hb Hb1:Hp}{d:D}(o:ahh C E c Hb d)(s:Same Hb Hb1):ahh C E c Hb1 d:=fun dx v Hb' H' s'=>o dx v Hb' H' (s.trans s')
section
variable {C:Addr} {Γ Γ' Γk:List Fl} {E:XK} {te:TE} {f:RF} {fl:LF} {t:TA} {n:Nat} {F:List D→Option D} {ts tu:TS} {fs:SF} {tt:TT} {fb:BF}
end
end KP
set_option maxHeartbeats 2000000
namespace KPX
open PySem PySem.Spec PyProof.Rows L2 KP
variable [KP.TheW]
structure RefC(P:Program)(w:World)(K:PySem.W.Frag)(mg:Str→Option Value)(base:Heap)(C:Addr):Prop where
 oex:OexC K C
 gC:mg "Refused" = some (.ref C)
 mkr:∃fI fd,PySem.W.findIn K (.ref C) "__init__" = some (some (.ref fI))∧PySem.W.typeIn K (.ref fI)=some (.type "function")∧L2.Binds K fd ["self", "paper"] []∧FnOk P w K mg base C8.CX0 1 fI fd ["self", "paper"] (spI C)
 xf:XfC K C
 no:PySem.W.findIn K (.ref C) "paper" = some none
 te:PySem.W.exmOne K (.ref C) (.ref C)=some true
section
variable {X:Cx} {C:Addr} {E:XK} {e:Expr} {ta:TA} {p p' pos:Pos} {k:Nat}
end
section
variable {X:Cx} {x n:Str} {c:Value} {i:Nat} {body suite:List Stmt} {b₀:Stmt} {hds:List ExceptHandler} {np pos pos':Pos} {tb:WX→TS} {ts:Addr→Value→Option Addr→TS}
end
end KPX
set_option maxHeartbeats 2000000
namespace KPX
open PySem PySem.Spec PyProof.Rows L2 KP
variable [KP.TheW]
theorem afY{fs:List Addr}{L:Addr}{H H2 H3:Hp}{h h2 h3:Heap}(a:Un fs [] H H2 h h2)(b:Un (L::fs) [] H2 H3 h2 h3)(hL:∀o,h.get? L≠some o):Un fs [] H H3 h h3:=by
 have nl:∀ {x o},h.get? x=some o→x≠L:=fun {x o} e z=>hL o (z▸e)
 have no:∀x:Addr,x∉([]:List Addr):=fun x z=>nomatch z
 refine⟨fun x o e n hf _=>?_,fun x o e n hf _=>?_,fun x o e n _=>?_,fun x o e _=>?_,fun x xs e=>b.tups x xs (a.tups x xs e),fun x o u e=>b.frzs x o u (a.frzs x o u e),fun x ps e=>?_⟩
 ·refine b.keep x o (a.keep x o e n hf (no x)) (a.free x o e n (no x)) (fun z=>?_) (no x)
  rcases List.mem_cons.mp z with z | z
  ·exact nl e z
  ·exact hf z
 ·obtain⟨sl,e2⟩:=a.slot x o e n hf (no x)
  obtain⟨sl3,e3⟩:=b.slot x _ e2 (a.free x o e n (no x)) (List.mem_cons_of_mem _ hf) (no x)
  exact⟨sl3,e3⟩
 ·obtain⟨o2,e2⟩:=a.there x o e (no x)
  exact b.free x o2 e2 (a.free x o e n (no x)) (no x)
 ·obtain⟨o2,e2⟩:=a.there x o e (no x)
  exact b.there x o2 e2 (no x)
 ·obtain⟨m1,e1⟩:=a.tbls x ps e
  obtain⟨m2,e2⟩:=b.tbls x _ e1
  exact⟨m1++m2,by rw[e2,Array.append_assoc]⟩
structure Act(P:Program)(w:World)(K:PySem.W.Frag)(mg:Str→Option Value)(base:Heap)(k:Nat)(f:Addr)(tl:XK→Hp→VK→Prop)(outer:List PySem.Env)(s:Heap)(H:Hp):Prop where
 fn:∃fd:FuncData,s.get? f=some ({ cls:=.type "function",data:=.func fd }:Obj)
 nH:H f=none
 nfr:f∉frs outer
 run:∀(A1:Around) (outer1:List PySem.Env) (s1:Shared) (H1:Hp) (Q:VK) (E:XK),A1.guards=some []→Room k A1→Env0 P w K mg base A1 outer1 s1 H1→Un (frs outer) [] H H1 s s1.heap→tl E H1 Q →
  codeAny (model P w) A1 (.call (.ref f) ⟨[],[]⟩) (CR (L2.CX P w) outer1 P w H1 s1 Q E) s1
theorem Act.deeper{P:Program}{w:World}{K:PySem.W.Frag}{mg:Str→Option Value}{base:Heap}{k:Nat}{f L:Addr}{tl:XK→Hp→VK→Prop}{outer:List PySem.Env}{env:PySem.Env}{s h2:Heap}{H H2:Hp}(a:Act P w K mg base k f tl outer s H)(un:Un (frs outer) [] H H2 s h2)(hL:s.objs.size≤L)(he:env.frame=some L) :
  Act P w K mg base k f tl (env::outer) h2 H2:=by
 have nL:∀o,s.get? L≠some o:=fun o e=>absurd (Heap.lt_size e) (Nat.not_lt.mpr hL)
 have ef:frs (env::outer)=L::frs outer:=by
  unfold frs
  rw[List.filterMap_cons,he]
 obtain⟨fd,hf⟩:=a.fn
 refine⟨⟨fd,un.keep f _ hf a.nH a.nfr (fun z=>nomatch z)⟩,un.free f _ hf a.nH (fun z=>nomatch z),?_,fun A1 outer1 s1 H1 Q E hg hr e0 u=>a.run A1 outer1 s1 H1 Q E hg hr e0 (afY un (ef▸u) nL)⟩
 rw[ef]
 intro z
 rcases List.mem_cons.mp z with z | z
 ·exact nL _ (z▸hf)
 ·exact a.nfr z
structure At(X:Cx)(P:Program)(w:World)(K:PySem.W.Frag)(mg:Str→Option Value)(base:Heap)(N:List Str)(sc:Scope)(k:Nat)(outer:List PySem.Env)(s:Shared)(H:Hp):Prop where
 prog:X.prog=P
 w:X.w=w
 K:X.K=K
 mg:X.mg=mg
 base:X.base=base
 N:X.N=N
 gu:X.A.guards=some []
 room:Room k X.A
 calm:X.calm=true
 scope:X.env.scope=sc
 fn:X.fn=fun _=>true
 outer:X.outer=outer
 s0:X.s_0=s
 H0:X.H_0=H
 stack:X.stack=X.env::X.outer
 frame:X.env.frame=some X.env.locals
 ex:X.ex=[]
 new:s.heap.objs.size≤X.env.locals
section
variable {P:Program} {w:World} {K:PySem.W.Frag} {mg:Str→Option Value} {base:Heap} {k:Nat} {f0:Addr} {tl:XK→Hp→VK→Prop} {outer:List PySem.Env} {s:Shared} {H:Hp} {N:List Str} {sc:Scope}
end
end KPX
set_option maxHeartbeats 2000000
namespace KPX
open PySem PySem.Spec PyProof.Rows L2 KP
variable [KP.TheW]
structure HrdS(sc:Scope):Prop where
 r:sc.names.lookup ("Refused" : Str)=some .globalImplicit
 e:sc.names.lookup ("e" : Str)=some .local
 a:sc.names.lookup ("_law_act" : Str)=some .local
section
variable {P:Program} {w:World} {K:PySem.W.Frag} {mg:Str→Option Value} {base:Heap} {k:Nat} {f0 C:Addr} {tl:XK→Hp→VK→Prop} {outer:List PySem.Env} {s:Shared} {H:Hp} {sc:Scope} {j1 j2 n4 n10:Nat} {q1 q2 q3 q4 q5 q6 q7 q8 q9 q10 q11 q12 q13:Pos} {hds:List ExceptHandler}
end
end KPX
set_option maxHeartbeats 2000000
namespace KPX
open PySem PySem.Spec PyProof.Rows L2 KP
variable [KP.TheW]
section
variable {P:Program} {w:World} {K:PySem.W.Frag} {mg:Str→Option Value} {base:Heap} {k:Nat} {f0 C gh:Addr} {tl:XK→Hp→VK→Prop} {outer:List PySem.Env} {s:Shared} {H:Hp} {sc:Scope} {N:List Str} {i:Nat} {a:Str} {fdh:FuncData} {st:Stmt}
 {j1 j2 n4 n10:Nat} {q1 q2 q3 q4 q5 q6 q7 q8 q9 q10 q11 q12 q13 p p1 pos:Pos} {hds:List ExceptHandler}
end
end KPX
set_option maxHeartbeats 2000000
namespace KPX
open PySem PySem.Spec PyProof.Rows L2 KP LamX
variable [KP.TheW]
section
variable {X:Cx} {pins:List (Addr×Obj)} {σ:L2.St} {H:Hp} {s:Shared}
end
end KPX
set_option maxHeartbeats 2000000
namespace KP
open PySem PySem.Spec PyProof.Rows L2 KPX LamX
variable [TheW]
structure Tb0(P:Addr)(c:Ctx):Prop where
 e:c.Hc P=some (.tbl #[])
 io:c.io≠some P
 b:c.Hb0 P=none
section
variable {P:Addr} {Γ Γ' Γk:List Fl} {t u ta:TS} {f h fa:SF} {tt:TT} {bt:BF}
theorem Rel.sh{c:Ctx}{Hb H:Hp}{env:Env}{g:D}{σ:L2.St}(R:Rel c Γ Hb H env g σ){j:Nat}{d:D}(hj:Γ[j]? = some .sh)(e:env[j]? = some (some d)):∃v, σ[j]? = some (some v)∧Rp Hb v d:=by
 obtain⟨fl,v,e1,e2,e3⟩:=R.slot j d e
 rw[hj] at e1
 cases e1
 exact⟨v,e2,e3⟩
end
end KP
set_option maxHeartbeats 2000000
namespace KP
open PySem PySem.Spec PyProof.Rows L2 KPX LamX
variable [TheW]
section
variable {P:Program} {w:World} {K:PySem.W.Frag} {mg:Str→Option Value} {base:Heap} {x qual:Str} {st:Stmt} {f:Addr} {fd:FuncData} {k:Nat}
end
end KP
set_option maxHeartbeats 2000000
namespace KPX
open PySem PySem.Spec PyProof.Rows L2 KP PySem.W He
variable [KP.TheW]
abbrev FnR:Type:=Option (Str×Str×Arguments×FuncBody×Scope×Addr×Value×Addr)
def fnR(K:Frag)(a:Addr):FnR:=match K.lookup a with
 | some ⟨_,_,.func fd,_⟩=>some (fd.name,fd.qualname,fd.params,fd.body,fd.scope,fd.globals,fd.defaults,fd.builtins)
 | _=>none
def aif(K:Frag)(a:Addr):Addr:=match K.lookup a with
 | some ⟨_,_,.func fd,_⟩=>(match fd.closure with
  | [(_,c)]=>c
  | _=>0)
 | _=>0
def cdA(K:Frag)(a:Addr):Addr:=match K.lookup a with
 | some ⟨_,_,.func fd,_⟩=>(match fd.code with
  | .ref c=>c
  | _=>0)
 | _=>0
def fnB(K:Frag)(a:Addr)(q:Str):Bool:=match K.lookup a with
 | some ⟨_,_,.func fd,_⟩=>(match fd.closure,fd.code with
  | [(x,_)],.ref c=>decide (x = "__class__")&&codeIn K (.ref c) q
  | _,_=>false)
 | _=>false
def aig(K:Frag)(C:Addr):Bool:=match K.lookup C with
 | some ⟨.type c,_,.cls cd,sl⟩=>decide (c = "type")&&(match cd.mro,sl.toList with
  | .ref C'::bm,[_,_,_,_,some (.builtin n),_]=>decide (C'=C)&&(decide (n = "ValueError.__new__")&&(cd.hasDict&&(!cd.hasDel&&PySem.HandSPX.refsVE bm)))
  | _,_=>false)
 | _=>false
def aih(K:Frag)(c C:Addr):Bool:=match K.lookup c with
 | some ⟨_,_,.cell (some (.ref D)),_⟩=>decide (D=C)
 | _=>false
def aii(K:Frag)(c:Addr)(f:Str):Bool:=match K.lookup c with
 | some ⟨_,_,.fields vs,_⟩=>(match (vs[2]? : Option Value) with
  | some (.str g _)=>f == g
  | _=>false)
 | _=>false
def ahR(P:Program)(K:Frag)(C fI:Addr):List Bool :=
 [aig K C,eqO (findIn K (.ref C) "__setattr__") (some (some (.builtin "object.__setattr__"))),eqO (findIn K (.ref C) "paper") (some none),aii K (cdA K fI) P.main.file,aih K (aif K fI) C,decide (mroIn K C (.ref C)=some true),
  eqO (nsIn K mainGlobals "super") (some none),!(P.main.scope.names.lookup ("super" : Str)).isSome,eqO (nsIn K cStatics "thirdparty.any") (some none),eqO (ks_superIn K C C "__init__") (some (some (.builtin "ValueError.__init__"))),decide (subIn K (.ref C) (.type "ValueError")=some true),
  decide (subIn K (.ref C) (.type "BaseException")=some true),decide (typeIn K (.ref C)=some (.type "type")),keepIn K (.ref C),xfB K C,decide (exmOne K (.ref C) (.ref C)=some true),eqO (findIn K (.ref C) "__init__") (some (some (.ref fI))),
  decide (typeIn K (.ref fI)=some (.type "function")),fnB K fI "Refused.__init__",eqO (nsIn K mainGlobals "Refused") (some (some (.ref C)))]
def aij(P:Program)(K:Frag):Bool:=(ahR P K (ga K "Refused") (ma K (ga K "Refused") "__init__")).all id
structure SaysR(P:Program)(fa:List Fa)(fn:List DefD)(tf:List Defn)(ini:FnR)(h:Heap)(K:Frag):Prop where
 d:SaysD fa fn K
 more:aij P K=true
 ini:fnR K (ma K (ga K "Refused") "__init__")=ini
 hd:∀p∈tf,codeHdIn K (cT K p).1 (cT K p).2=true
 out:∀p∈tf,K.lookup (cT K p).2=none
 empty:∀p∈tf,h.get? (cT K p).2=some { cls:=.none,data:=.fields #[] }
end KPX
namespace KP
open PySem PySem.Spec PyProof.Rows L2
variable [TheW]
section
variable {H:Hp}
def vOf:Value→V
 | .none=>.non
 | .bool b=>.bl b
 | .int i _=>.int i
 | .str x _=>.str x
 | .bytes b _=>.byt b
 | .float b _=>.flt b
 | .ref a=>.ref a
 | .type n=>.ty n
 | _=>.non
theorem aeE{v:V}{u:Value}(h:L2.RelV v u):v=vOf u:=by
 cases v with
 | non=>rw[show u=Value.none from h];rfl
 | bl b=>rw[show u=Value.bool b from h];rfl
 | int i=>obtain⟨t,rfl⟩:=(show ∃t,u=Value.int i t from h);rfl
 | str x=>obtain⟨t,rfl⟩:=(show ∃t,u=Value.str x t from h);rfl
 | byt b=>obtain⟨t,rfl⟩:=(show ∃t,u=Value.bytes b t from h);rfl
 | flt b=>obtain⟨t,rfl⟩:=(show ∃t,u=Value.float b t from h);rfl
 | ref a=>rw[show u=Value.ref a from h];rfl
 | ty n=>rw[show u=Value.type n from h];rfl
theorem aeF{v v':V}{u:Value}(h:L2.RelV v u)(k:L2.RelV v' u):v=v':=(aeE h).trans (aeE k).symm
def agD:List KX→List KX→Prop:=Paired fun p q=>p.2.1=q.2.1∧p.2.2=q.2.2
theorem afZ{hk:List Key→Int}{a:Addr}{o:Obj}{kvs kvs':List KX}(h:aah hk a o kvs)(k:aah hk a o kvs'):agD kvs kvs':=by
 obtain⟨w1,w2,xs,r,es,ep,w3,h2,h3,hn⟩:=h
 obtain⟨u1,u2,ys,r',es',ep',u3,k2,k3,kn⟩:=k
 clear hn kn w1 w2 u1 u2 u3 w3
 rw[h2] at k2
 cases k2
 have e:xs.map (afK hk)=ys.map (afK hk):=h3.symm.trans k3
 clear h2 h3 k3
 unfold wK at r r'
 induction r generalizing ys kvs' with
 | nil =>
  cases r' with
  | nil=>exact .nil
  | cons _ _=>simp at e
 | cons hq t ih =>
  cases r' with
  | nil=>simp at e
  | cons hq' t' =>
   simp only[List.map_cons,List.cons.injEq] at e
   obtain⟨e1,e2⟩:=e
   unfold afK at e1
   injection e1 with z1 z2 z3
   injection z2 with z2
   exact .cons ⟨hq.2.1.trans (z2.trans hq'.2.1.symm),aeF hq.2.2 (by rw[z3];exact hq'.2.2)⟩ (ih _ t' e2)
theorem aeG{b:Addr}{k k':List Key}(h:Yh H b k)(h':Yh H b k'):k=k':=by
 obtain⟨o,h1,_⟩:=h
 obtain⟨o',h2,_⟩:=h'
 rw[h1] at h2
 injection h2 with h2
 injection h2 with _ h2
 injection h2 with h2
 exact kVs_inj h2
mutual
theorem Rp.det:∀(d d':D) (v:V),Rp H v d→Rp H v d'→d=d'
 | .none,_,_,h,k=>by cases h;cases k;rfl
 | .bool _,_,_,h,k=>by cases h;cases k;rfl
 | .int _,_,_,h,k=>by cases h;cases k;rfl
 | .str _,_,_,h,k=>by cases h;cases k;rfl
 | .list ds,_,_,h,k=>by
  cases h with
  | lst h1 h2 =>
   cases k with
   | lst k1 k2=>rw[h1] at k1;cases k1;rw[RpL.det ds _ _ h2 k2]
   | tup k1 k0 k2=>rw[h1] at k1;cases k1
   | dK k1 k2=>rw[h1] at k1;cases k1
   | dT k1 k2=>rw[h1] at k1;cases k1
   | dX k1 _ k2=>rw[h1] at k1;cases k1
 | .tuple ds,_,_,h,k=>by
  cases h with
  | tup h1 h0 h2 =>
   cases k with
   | lst k1 k2=>rw[h1] at k1;cases k1
   | tup k1 k0 k2=>rw[h1] at k1;cases k1;rw[RpL.det ds _ _ h2 k2]
   | dK k1 k2=>rw[h1] at k1;cases k1
   | dT k1 k2=>rw[h1] at k1;cases k1
   | dX k1 _ k2=>rw[h1] at k1;cases k1
 | .dict ds,_,_,h,k=>by
  cases h with
  | dK h1 h2 =>
   cases k with
   | lst k1 k2=>rw[h1] at k1;cases k1
   | tup k1 k0 k2=>rw[h1] at k1;cases k1
   | dK k1 k2=>rw[h1] at k1;cases k1;rw[RpK.det ds _ _ h2 k2]
   | dT k1 k2=>rw[h1] at k1;cases k1
   | dX k1 _ k2=>rw[h1] at k1;cases k1
  | dX h1 h0 h2 =>
   cases k with
   | lst k1 k2=>rw[h1] at k1;cases k1
   | tup k1 k0 k2=>rw[h1] at k1;cases k1
   | dK k1 k2=>rw[h1] at k1;cases k1
   | dT k1 k2=>rw[h1] at k1;cases k1
   | dX k1 k0 k2=>rw[h1] at k1;cases k1;rw[RpX.det ds _ _ _ (afZ h0 k0) h2 k2]
  | dT h1 h2 =>
   cases k with
   | lst k1 k2=>rw[h1] at k1;cases k1
   | tup k1 k0 k2=>rw[h1] at k1;cases k1
   | dK k1 k2=>rw[h1] at k1;cases k1
   | dT k1 k2=>rw[h1] at k1;cases k1;rw[RpT.det ds _ _ h2 k2]
   | dX k1 _ k2=>rw[h1] at k1;cases k1
theorem RpL.det:∀(ds ds':List D) (vs:List V),RpL H vs ds→RpL H vs ds'→ds=ds'
 | [],_,_,h,k=>by cases h;cases k;rfl
 | d::ds,_,_,h,k=>by
  cases h with
  | cons h1 h2 =>
   cases k with
   | cons k1 k2=>rw[Rp.det d _ _ h1 k1,RpL.det ds _ _ h2 k2]
theorem RpK.det:∀(ds ds':List (D×D)) (vs:List (Key×V)),RpK H vs ds→RpK H vs ds'→ds=ds'
 | [],_,_,h,k=>by cases h;cases k;rfl
 | (_,d)::ds,_,_,h,k=>by
  cases h with
  | cons h1 h2 =>
   cases k with
   | cons k1 k2=>rw[Rp.det d _ _ h1 k1,RpK.det ds _ _ h2 k2]
theorem RpT.det:∀(ds ds':List (D×D)) (vs:List (List Key×V)),RpT H vs ds→RpT H vs ds'→ds=ds'
 | [],_,_,h,_=>by cases h
 | (_,d)::ds,_,_,h,k=>by
  cases h with
  | nil=>cases k;rfl
  | cons h1 h2 =>
   cases k with
   | cons k1 k2=>rw[Rp.det d _ _ h1 k1,RpT.det ds _ _ h2 k2]
theorem RpX.det:∀(ds ds':List (D×D)) (vs vs':List KX),agD vs vs'→RpX H vs ds→RpX H vs' ds'→ds=ds'
 | [],_,_,_,_,h,_=>by cases h
 | (_,d)::ds,_,_,_,s,h,k=>by
  cases h with
  | nil=>cases s;cases k;rfl
  | cons h0 h1 h2 =>
   cases s with
   | cons sq st =>
    cases k with
    | cons k0 k1 k2 =>
     obtain⟨sa,sv⟩:=sq
     dsimp only at sa sv
     subst sa sv
     rw[Rp.det d _ _ h1 k1,RpX.det ds _ _ _ st h2 k2,aeG h0 k0]
end
end
mutual
def yh:D→List D
 | .list ds=>.list ds::yD ds
 | .tuple ds=>yD ds
 | .dict ds=>jJ ds
 | _=>[]
def yD:List D→List D
 | []=>[]
 | d::ds=>yh d++yD ds
def jJ:List (D×D)→List D
 | []=>[]
 | (_,d)::ds=>yh d++jJ ds
end
mutual
theorem WM:∀(d e:D),e∈yh d→∀x∈yh e,x∈yh d
 | .none,e,h=>by simp[yh] at h
 | .bool _,e,h=>by simp[yh] at h
 | .int _,e,h=>by simp[yh] at h
 | .str _,e,h=>by simp[yh] at h
 | .list ds,e,h=>by
  rw[yh] at h
  rcases List.mem_cons.mp h with h | h
  ·subst h;exact fun x hx=>hx
  ·intro x hx
   rw[yh]
   exact List.mem_cons_of_mem _ (Vv ds e h x hx)
 | .tuple ds,e,h=>by
  rw[yh] at h
  intro x hx
  rw[yh]
  exact Vv ds e h x hx
 | .dict ds,e,h=>by
  rw[yh] at h
  intro x hx
  rw[yh]
  exact YQ ds e h x hx
theorem Vv:∀(ds:List D) (e:D),e∈yD ds→∀x∈yh e,x∈yD ds
 | [],e,h=>by simp[yD] at h
 | d::ds,e,h=>by
  rw[yD] at h
  intro x hx
  rw[yD]
  rcases List.mem_append.mp h with h | h
  ·exact List.mem_append_left _ (WM d e h x hx)
  ·exact List.mem_append_right _ (Vv ds e h x hx)
theorem YQ:∀(ds:List (D×D)) (e:D),e∈jJ ds→∀x∈yh e,x∈jJ ds
 | [],e,h=>by simp[jJ] at h
 | (_,d)::ds,e,h=>by
  rw[jJ] at h
  intro x hx
  rw[jJ]
  rcases List.mem_append.mp h with h | h
  ·exact List.mem_append_left _ (WM d e h x hx)
  ·exact List.mem_append_right _ (YQ ds e h x hx)
end
mutual
theorem Yo:∀(d e:D),e∈yh d→∃ds,e=.list ds
 | .none,e,h=>by simp[yh] at h
 | .bool _,e,h=>by simp[yh] at h
 | .int _,e,h=>by simp[yh] at h
 | .str _,e,h=>by simp[yh] at h
 | .list ds,e,h=>by
  rw[yh] at h
  rcases List.mem_cons.mp h with h | h
  ·exact⟨ds,h⟩
  ·exact WN ds e h
 | .tuple ds,e,h=>by rw[yh] at h;exact WN ds e h
 | .dict ds,e,h=>by rw[yh] at h;exact Z9 ds e h
theorem WN:∀(ds:List D) (e:D),e∈yD ds→∃es,e=.list es
 | [],e,h=>by simp[yD] at h
 | d::ds,e,h=>by
  rw[yD] at h
  rcases List.mem_append.mp h with h | h
  ·exact Yo d e h
  ·exact WN ds e h
theorem Z9:∀(ds:List (D×D)) (e:D),e∈jJ ds→∃es,e=.list es
 | [],e,h=>by simp[jJ] at h
 | (_,d)::ds,e,h=>by
  rw[jJ] at h
  rcases List.mem_append.mp h with h | h
  ·exact Yo d e h
  ·exact Z9 ds e h
end
open Classical in
noncomputable def wf(Hb:Hp)(A:Addr→Prop):Hp:=fun a=>match Hb a with
 | some (.lst xs)=>if A a then some (.lst xs) else none
 | o=>o
theorem Js(Hb:Hp)(A:Addr→Prop):Same (wf Hb A) Hb:=fun a o e=>by
 unfold wf at e
 split at e
 ·rename_i xs h
  split at e
  ·rw[h];exact e
  ·cases e
 ·exact e
theorem aaJ{Hb:Hp}{A:Addr→Prop}{a:Addr}{xs:List V}(h:Hb a=some (.lst xs))(ha:A a):wf Hb A a=some (.lst xs):=by
 unfold wf
 rw[h]
 exact if_pos ha
theorem Vw{Hb:Hp}{A:Addr→Prop}{a:Addr}{o:Obj}{x:HO}(h:Hb a=some (.frz o x)):wf Hb A a=some (.frz o x):=by
 unfold wf
 rw[h]
theorem Ql{Hb:Hp}{A:Addr→Prop}{a:Addr}{xs:List V}(h:wf Hb A a=some (.lst xs)):A a:=by
 unfold wf at h
 split at h
 ·split at h
  ·assumption
  ·cases h
 ·rename_i n
  exact absurd h (n xs)
section
variable {Hb:Hp} {A:Addr→Prop}
mutual
theorem Rp.cut:∀(d:D) (v:V),Rp Hb v d→(∀a e,e∈yh d→Rp Hb (.ref a) e→A a)→Rp (wf Hb A) v d
 | .none,_,h,_=>by cases h;exact .non
 | .bool _,_,h,_=>by cases h;exact .bl _
 | .int _,_,h,_=>by cases h;exact .int _
 | .str _,_,h,_=>by cases h;exact .str _
 | .list ds,_,h,q=>by
  cases h with
  | lst h1 h2=>exact .lst (aaJ h1 (q _ _ (by rw[yh];simp) (.lst h1 h2))) (RpL.cut ds _ h2 fun a e he=>q a e (by rw[yh];exact List.mem_cons_of_mem _ he))
 | .tuple ds,_,h,q=>by
  cases h with
  | tup h1 h0 h2=>exact .tup (Vw h1) h0 (RpL.cut ds _ h2 fun a e he=>q a e (by rw[yh];exact he))
 | .dict ds,_,h,q=>by
  cases h with
  | dK h1 h2=>exact .dK (Vw h1) (RpK.cut ds _ h2 fun a e he=>q a e (by rw[yh];exact he))
  | dT h1 h2=>exact .dT (Vw h1) (RpT.cut ds _ h2 fun a e he=>q a e (by rw[yh];exact he))
  | dX h1 h0 h2=>exact .dX (Vw h1) h0 (RpX.cut ds _ h2 fun a e he=>q a e (by rw[yh];exact he))
theorem RpL.cut:∀(ds:List D) (vs:List V),RpL Hb vs ds→(∀a e,e∈yD ds→Rp Hb (.ref a) e→A a)→RpL (wf Hb A) vs ds
 | [],_,h,_=>by cases h;exact .nil
 | d::ds,_,h,q=>by
  cases h with
  | cons h1 h2=>exact .cons (Rp.cut d _ h1 fun a e he=>q a e (by rw[yD];exact List.mem_append_left _ he)) (RpL.cut ds _ h2 fun a e he=>q a e (by rw[yD];exact List.mem_append_right _ he))
theorem RpK.cut:∀(ds:List (D×D)) (vs:List (Key×V)),RpK Hb vs ds→(∀a e,e∈jJ ds→Rp Hb (.ref a) e→A a)→RpK (wf Hb A) vs ds
 | [],_,h,_=>by cases h;exact .nil
 | (_,d)::ds,_,h,q=>by
  cases h with
  | cons h1 h2=>exact .cons (Rp.cut d _ h1 fun a e he=>q a e (by rw[jJ];exact List.mem_append_left _ he)) (RpK.cut ds _ h2 fun a e he=>q a e (by rw[jJ];exact List.mem_append_right _ he))
theorem RpT.cut:∀(ds:List (D×D)) (vs:List (List Key×V)),RpT Hb vs ds→(∀a e,e∈jJ ds→Rp Hb (.ref a) e→A a)→RpT (wf Hb A) vs ds
 | [],_,h,_=>by cases h
 | (_,d)::ds,_,h,q=>by
  cases h with
  | nil=>exact .nil
  | cons h1 h2=>exact .cons (Rp.cut d _ h1 fun a e he=>q a e (by rw[jJ];exact List.mem_append_left _ he)) (RpT.cut ds _ h2 fun a e he=>q a e (by rw[jJ];exact List.mem_append_right _ he))
theorem RpX.cut:∀(ds:List (D×D)) (vs:List KX),RpX Hb vs ds→(∀a e,e∈jJ ds→Rp Hb (.ref a) e→A a)→RpX (wf Hb A) vs ds
 | [],_,h,_=>by cases h
 | (_,d)::ds,_,h,q=>by
  cases h with
  | nil=>exact .nil
  | cons h0 h1 h2=>exact .cons (let ⟨o,y1,y2⟩:=h0;⟨o,Vw y1,y2⟩) (Rp.cut d _ h1 fun a e he=>q a e (by rw[jJ];exact List.mem_append_left _ he)) (RpX.cut ds _ h2 fun a e he=>q a e (by rw[jJ];exact List.mem_append_right _ he))
end
end
theorem adw{ds:List D}{e:D}:e∈yD ds↔∃d∈ds,e∈yh d:=by
 induction ds with
 | nil=>simp[yD]
 | cons d ds ih=>rw[yD,List.mem_append,ih];simp
def QW(Hb Hb':Hp):Hp:=fun a=>match Hb a with
 | some o=>some o
 | none=>match Hb' a with
  | some (.lst _)=>none
  | o=>o
theorem GL{Hb Hb':Hp}{a:Addr}{o:HO}(h:Hb a=some o):QW Hb Hb' a=some o:=by
 unfold QW;rw[h]
theorem adx{Hb Hb':Hp}{a:Addr}{xs:List V}(h:Hb a=none)(h2:Hb' a=some (.lst xs)):QW Hb Hb' a=none:=by
 unfold QW;rw[h,h2]
theorem GM{Hb Hb':Hp}{a:Addr}{o:HO}(h:QW Hb Hb' a=some o):Hb a=some o∨(Hb a=none∧Hb' a=some o):=by
 unfold QW at h
 split at h
 ·rename_i x hx
  exact .inl (by rw[hx];exact h)
 ·rename_i hx
  split at h
  ·cases h
  ·exact .inr ⟨hx,h⟩
theorem ady{Hb Hb' H':Hp}{a:Addr}{o:Obj}{x:HO}(s:Same Hb H')(s':Same Hb' H')(h:Hb' a=some (.frz o x)):QW Hb Hb' a=some (.frz o x):=by
 cases e:Hb a with
 | none=>unfold QW;rw[e,h]
 | some y =>
  rw[GL e]
  have h1:=s _ _ e
  have h2:=s' _ _ h
  rw[h1] at h2
  exact h2
inductive Al(H:Hp):List Addr→List D→Prop
 | nil:Al H [] []
 | cons {a:Addr} {e:D} {as:List Addr} {es:List D}:Rp H (.ref a) e→Al H as es→Al H (a::as) (e::es)
theorem Al.append{H:Hp}:∀ {as bs:List Addr} {es fs:List D},Al H as es→Al H bs fs→Al H (as++bs) (es++fs)
 | _,_,_,_,.nil,k=>k
 | _,_,_,_,.cons h t,k=>.cons h (t.append k)
theorem Al.mem{H:Hp}:∀ {as:List Addr} {es:List D},Al H as es→∀a∈as,∃e∈es,Rp H (.ref a) e
 | _,_,.nil,a,h=>by cases h
 | _,_,.cons h t,a,ha=>by
  rcases List.mem_cons.mp ha with z | z
  ·subst z;exact⟨_,by simp,h⟩
  ·obtain⟨e,he,r⟩:=t.mem a z
   exact⟨e,List.mem_cons_of_mem _ he,r⟩
theorem Al.nodup{H:Hp}:∀ {as:List Addr} {es:List D},Al H as es→es.Nodup→as.Nodup
 | _,_,.nil,_=>.nil
 | _,_,.cons h t,nd=>by
  rw[List.nodup_cons] at nd
  refine List.nodup_cons.mpr ⟨fun ha=>?_,t.nodup nd.2⟩
  obtain⟨e,he,r⟩:=t.mem _ ha
  exact nd.1 (Rp.det _ _ _ h r▸he)
section
variable {c:Ctx} {Hb H Hb' H':Hp}
mutual
theorem agE(s:Same Hb H')(s':Same Hb' H')(hc:∀a,H a=none→Hb a=none∧c.Hc a=none):∀(d:D) (v:V),vf d=true→Rp Hb' v d→(∀e∈yh d,∀a,Rp Hb' (.ref a) e→H a=none)→∃as,Fw c (QW Hb Hb') H' as v d∧Al Hb' as (yh d)
 | .none,_,_,h,_=>by cases h;exact⟨[],.sc rfl .non,by rw[yh];exact .nil;all_goals simp⟩
 | .bool _,_,_,h,_=>by cases h;exact⟨[],.sc rfl (.bl _),by rw[yh];exact .nil;all_goals simp⟩
 | .int _,_,_,h,_=>by cases h;exact⟨[],.sc rfl (.int _),by rw[yh];exact .nil;all_goals simp⟩
 | .str _,_,_,h,_=>by cases h;exact⟨[],.sc rfl (.str _),by rw[yh];exact .nil;all_goals simp⟩
 | .list ds,_,n,h,q=>by
  cases h with
  | @lst p xs _ h1 h2 =>
   obtain⟨as,f,l⟩:=abX s s' hc ds xs (by simpa[vf] using n) h2 fun e he a r=>q e (by rw[yh];exact List.mem_cons_of_mem _ he) a r
   have hp:=q (.list ds) (by rw[yh];simp) p (.lst h1 h2)
   exact⟨p::as,.lst (s' _ _ h1) (adx (hc p hp).1 h1) (hc p hp).2 f,by rw[yh];exact .cons (.lst h1 h2) l⟩
 | .tuple ds,_,n,h,q=>by
  cases h with
  | tup h1 h0 h2 =>
   obtain⟨as,f,l⟩:=abX s s' hc ds _ (by simpa[vf] using n) h2 fun e he a r=>q e (by rw[yh];exact he) a r
   exact⟨as,.tup (ady s s' h1) h0 f,by rw[yh];exact l⟩
 | .dict ds,_,n,_,_=>by simp[vf] at n
theorem abX(s:Same Hb H')(s':Same Hb' H')(hc:∀a,H a=none→Hb a=none∧c.Hc a=none):∀(ds:List D) (vs:List V),vq ds=true→RpL Hb' vs ds→(∀e∈yD ds,∀a,Rp Hb' (.ref a) e→H a=none)→∃as,FwL c (QW Hb Hb') H' as vs ds∧Al Hb' as (yD ds)
 | [],_,_,h,_=>by cases h;exact⟨[],.nil,by rw[yD];exact .nil⟩
 | d::ds,_,n,h,q=>by
  simp[vq] at n
  cases h with
  | cons h1 h2 =>
   obtain⟨as,f,l⟩:=agE s s' hc d _ n.1 h1 fun e he a r=>q e (by rw[yD];exact List.mem_append_left _ he) a r
   obtain⟨bs,f2,l2⟩:=abX s s' hc ds _ n.2 h2 fun e he a r=>q e (by rw[yD];exact List.mem_append_right _ he) a r
   exact⟨as++bs,.cons f f2,by rw[yD];exact l.append l2⟩
end
mutual
theorem acK:∀(d:D) (v:V),vf d=true→yh d=[]→Rp Hb v d→Fw c Hb H [] v d
 | .none,_,_,_,h=>.sc rfl h
 | .bool _,_,_,_,h=>.sc rfl h
 | .int _,_,_,_,h=>.sc rfl h
 | .str _,_,_,_,h=>.sc rfl h
 | .list ds,_,_,l,_=>by rw[yh] at l;cases l
 | .tuple ds,_,n,l,h=>by
  cases h with
  | tup h1 h0 h2=>exact .tup h1 h0 (aaK ds _ (by simpa[vf] using n) (by rw[yh] at l;exact l) h2)
 | .dict ds,_,n,_,_=>by simp[vf] at n
theorem aaK:∀(ds:List D) (vs:List V),vq ds=true→yD ds=[]→RpL Hb vs ds→FwL c Hb H [] vs ds
 | [],_,_,_,h=>by cases h;exact .nil
 | d::ds,_,n,l,h=>by
  simp[vq] at n
  rw[yD,List.append_eq_nil_iff] at l
  cases h with
  | cons h1 h2=>exact .cons (a:=[]) (as:=[]) (acK d _ n.1 l.1 h1) (aaK ds _ n.2 l.2 h2)
end
mutual
theorem Fw.rp(s:Same Hb H):∀(d:D) (as:List Addr) (v:V),Fw c Hb H as v d→Rp H v d
 | .list ds,_,_,h=>by
  cases h with
  | sc r _=>cases r
  | lst h1 h2 h3 h5=>exact .lst h1 (FwL.rp s ds _ _ h5)
 | .tuple ds,_,_,h=>by
  cases h with
  | sc r _=>cases r
  | tup h1 h2 h5=>exact .tup (s _ _ h1) h2 (FwL.rp s ds _ _ h5)
 | .dict ds,_,_,h=>by cases h with | sc r _=>cases r
 | .none,_,_,h=>by cases h with | sc r k=>exact k.same s
 | .bool _,_,_,h=>by cases h with | sc r k=>exact k.same s
 | .int _,_,_,h=>by cases h with | sc r k=>exact k.same s
 | .str _,_,_,h=>by cases h with | sc r k=>exact k.same s
theorem FwL.rp(s:Same Hb H):∀(ds:List D) (as:List Addr) (vs:List V),FwL c Hb H as vs ds→RpL H vs ds
 | [],_,_,h=>by cases h;exact .nil
 | d::ds,_,_,h=>by
  cases h with
  | cons h1 h2=>exact .cons (Fw.rp s d _ _ h1) (FwL.rp s ds _ _ h2)
end
theorem FwL.length:∀ {ds:List D} {as:List Addr} {vs:List V},FwL c Hb H as vs ds→vs.length=ds.length
 | [],_,_,h=>by cases h;rfl
 | _::_,_,_,h=>by
  cases h with
  | cons h1 h2=>simp[FwL.length h2]
theorem FwL.append:∀ {ds es:List D} {as bs:List Addr} {vs ws:List V},FwL c Hb H as vs ds→FwL c Hb H bs ws es→FwL c Hb H (as++bs) (vs++ws) (ds++es)
 | [],_,_,_,_,_,h,k=>by cases h;exact k
 | _::_,_,_,_,_,_,h,k=>by
  cases h with
  | cons h1 h2=>rw[List.append_assoc];exact .cons h1 (FwL.append h2 k)
theorem FwL.one{as:List Addr}{v:V}{d:D}(h:Fw c Hb H as v d):FwL c Hb H as [v] [d]:=by
 have:=FwL.cons h (FwL.nil (c:=c) (Hb:=Hb) (H:=H))
 rwa[List.append_nil] at this
end
section
variable {c:Ctx} {Γ:List Fl} {Hb H Hb' H':Hp} {env:Env} {g g':D} {σ:L2.St}
theorem Qm(R:Rel c Γ Hb H env g σ)(G:Grow c Hb H Hb' H'){a:Addr}(l:H a≠none∧Hb a=none∧c.Hc a=none):(∀o,H a=some o→H' a=some o)∧Hb' a=none:=by
 refine⟨fun o e=>G.h a o e fun q=>(R.bgs _ q) l.2.2,?_⟩
 cases q:Hb' a with
 | none=>rfl
 | some o=>exact absurd (G.n a (by rw[q];simp) l.2.1) l.1
theorem Fw.grow(R:Rel c Γ Hb H env g σ)(G:Grow c Hb H Hb' H'){as:List Addr}{v:V}{d:D}(h:Fw c Hb H as v d):Fw c Hb' H' as v d :=
 Fw.mono G.b d as v (fun a ha=>(Qm R G (Fw.live d as v h a ha)).1) (fun a ha=>(Qm R G (Fw.live d as v h a ha)).2) h
theorem FwL.grow(R:Rel c Γ Hb H env g σ)(G:Grow c Hb H Hb' H'){as:List Addr}{vs:List V}{ds:List D}(h:FwL c Hb H as vs ds):FwL c Hb' H' as vs ds :=
 FwL.mono G.b ds as vs (fun a ha=>(Qm R G (FwL.live ds as vs h a ha)).1) (fun a ha=>(Qm R G (FwL.live ds as vs h a ha)).2) h
end
def RfF(Γ:List Fl)(te:TE)(f:XF):Prop:=∀(c:Ctx) (Hb H:Hp) (env:Env) (g:D) (σ:L2.St) (d g':D),Rel c Γ Hb H env g σ→f env g=some (d,g') →
 ∀Q:VK,(∀v as Hb' H',Grow c Hb H Hb' H'→Rel c Γ Hb' H' env g' σ→Fw c Hb' H' as v d→as.Nodup→(∀a∈as,H a=none)→Q v H')→te σ H Q
def Xj(args:List D)(d:D):Prop:=vf d=true∧(yh d).Nodup∧∀e∈yh d,∀a∈args,e∉yh a
open Classical in
noncomputable def Ua(F:List D→Option D)(fa:LF):XF:=fun env g=>(fa env g).bind fun p=>(F p.1).bind fun d=>if Xj p.1 d then some (d,p.2) else none
theorem adz{F:List D→Option D}{fl:LF}{env:Env}{g g1 d:D}{ds:List D}(h1:fl env g=some (ds,g1))(h2:F ds=some d)(h3:Xj ds d):Ua F fl env g=some (d,g1):=by
 unfold Ua
 rw[h1,Option.bind_some,h2,Option.bind_some]
 exact if_pos h3
def xF(f:XF):XF:=fun env g=>(f env g).bind fun p=>if vf p.1&&(yh p.1).isEmpty then some p else none
theorem ahS{f:XF}{env:Env}{g g1 d:D}(h1:f env g=some (d,g1))(h2:vf d=true)(h3:yh d=[]):xF f env g=some (d,g1):=by
 unfold xF
 rw[h1,Option.bind_some,h2,h3]
 rfl
section
variable {Γ Γ' Γk:List Fl} {te:TE} {f fe:XF} {t:TA} {fl:LF} {E:XK}
theorem ahi{n:Nat}{F:List D→Option D}(hn:∀env g p,fl env g=some p→p.1.length=n)(ha:RfA Γ t fl):RfF Γ (tCall (spP n F) [] E t) (Ua F fl):=fun c Hb H env g σ d g' R e Q q=>by
 obtain⟨p,e1,e⟩:=zo e
 obtain⟨d2,e3,e⟩:=zo e
 split at e
 ·rename_i ok
  cases e
  refine ha c Hb H env g σ p.1 p.2 R e1 _ fun vs Hb1 H1 G1 R1 r1=>?_
  rw[List.append_nil]
  let A:Addr→Prop:=fun a=>∃dd∈p.1,∃e∈yh dd,Rp Hb1 (.ref a) e
  have rc:RpL (wf Hb1 A) vs p.1:=RpL.cut _ _ r1 fun a e he r=>by
   obtain⟨dd,h1,h2⟩:=adw.mp he
   exact⟨dd,h1,e,h2,r⟩
  refine⟨wf Hb1 A,p.1,d,(Js Hb1 A).trans R1.ext,rc,by rw[r1.length];exact hn _ _ _ e1,e3,fun v Hb2 H2 w r=>?_⟩
  have fresh:∀e∈yh d,∀a,Rp Hb2 (.ref a) e→H1 a=none:=fun e he a ra=>by
   obtain⟨es,ee⟩:=Yo d e he
   cases hm:wf Hb1 A a with
   | none =>
    subst ee
    cases ra with
    | lst h1 h2=>exact w.n a (by rw[h1];simp) hm
   | some o =>
    exfalso
    subst ee
    cases ra with
    | lst h1 h2 =>
     have h3:=w.b _ _ hm
     rw[h1] at h3
     cases h3
     obtain⟨dd,q1,e',q2,q3⟩:=Ql hm
     have q4:Rp (wf Hb1 A) (.ref a) e':=Rp.cut e' _ q3 fun b e'' hb rb=>⟨dd,q1,e'',WM dd e' q2 e'' hb,rb⟩
     have:=Rp.det _ _ _ (q4.same w.b) (.lst h1 h2)
     subst this
     exact ok.2.2 _ he dd q1 q2
  have s1:Same Hb1 H2:=R1.ext.trans w.h
  obtain⟨as,fw,al⟩:=agE (c:=c) (H:=H1) s1 w.x (fun a ha=>⟨R1.ext.free ha,R1.dom a ha⟩) d v ok.1 r fresh
  have nw:Nw Hb1 H1 (QW Hb1 Hb2) H2:=⟨fun a o e=>GL e,fun a o e=>by
   rcases GM e with z | ⟨_,z⟩
   ·exact s1 _ _ z
   ·exact w.x _ _ z,w.h,fun a h1 h2=>by
   cases z:QW Hb1 Hb2 a with
   | none=>exact absurd z h1
   | some o =>
    rcases GM z with y | ⟨_,y⟩
    ·rw[h2] at y;cases y
    ·exact w.n a (by rw[y];simp) (by unfold wf;rw[h2])⟩
  exact q v as _ H2 (G1.trans nw.gr) (nw.rel R1) fw (al.nodup ok.2.1) fun a ha=>by
   obtain⟨e,he,ra⟩:=al.mem a ha
   exact G1.d a (fresh e he a ra)
 ·cases e
theorem RfE.fr(h:RfE Γ te f):RfF Γ te (xF f):=fun c Hb H env g σ d g' R e Q q=>by
 obtain⟨p,e1,e⟩:=zo e
 split at e
 ·rename_i hz
  cases e
  simp only[Bool.and_eq_true,List.isEmpty_iff] at hz
  exact h c Hb H env g σ d g' R e1 Q fun v Hb' H' G R' r=>q v [] Hb' H' G R' (acK d v hz.1 hz.2 r) .nil fun a ha=>by cases ha
 ·cases e
end
end KP
namespace KP
open PySem PySem.Spec PyProof.Rows L2
section
variable {α:Type} {h:GF} {t:BF} {f fk fv:XF} {env:Env} {g:D} {wp:List Nat} {body:SF}
theorem Zz(enc:α→D)(p:α→Bool)(q:α→D):∀(xs:List α),(∀x∈xs,∃env1,h (enc x) env=some env1∧t env1 g=some (p x,g)∧(p x=true→f env1 g=some (q x,g))) →
  lcF h t f (xs.map enc) env g=some ((xs.filter p).map q,g)
 | [],_=>rfl
 | x::xs,H=>by
  obtain⟨env1,h1,h2,h3⟩:=H x (by simp)
  have ih:=Zz enc p q xs fun y hy=>H y (List.mem_cons_of_mem _ hy)
  rw[List.map_cons]
  unfold lcF
  rw[h1,Option.bind_some,h2,Option.bind_some]
  cases hp:p x with
  | true=>rw[List.filter_cons_of_pos hp,if_pos rfl,h3 hp,Option.bind_some,ih];rfl
  | false=>rw[List.filter_cons_of_neg (by simp[hp]),if_neg (by simp),ih]
theorem ag0(enc:α→D)(q:α→D)(xs:List α)(H:∀x∈xs,∃env1,h (enc x) env=some env1∧f env1 g=some (q x,g)):lcF h vh f (xs.map enc) env g=some (xs.map q,g):=by
 rw[Zz enc (fun _=>true) q xs fun x hx=>(H x hx).imp fun env1 z=>⟨z.1,rfl,fun _=>z.2⟩,List.filter_eq_self.mpr (by simp)]
theorem VU(enc:α→D)(Q:List α→List D→D→Prop)(H:∀x xs ds g,Q (x::xs) ds g→∃env1 b g1,h (enc x) env=some env1∧t env1 g=some (b,g1)∧(b=true→∃v g2,f env1 g1=some (v,g2)∧Q xs (ds++[v]) g2)∧(b=false→Q xs ds g1)) :
  ∀(xs:List α) (ds:List D) (g:D),Q xs ds g→∃r g',lcF h t f (xs.map enc) env g=some (r,g')∧Q [] (ds++r) g'
 | [],ds,g,q=>⟨[],g,rfl,by simpa using q⟩
 | x::xs,ds,g,q=>by
  obtain⟨env1,b,g1,h1,h2,h3,h4⟩:=H x xs ds g q
  rw[List.map_cons]
  unfold lcF
  rw[h1,Option.bind_some,h2,Option.bind_some]
  cases b with
  | true =>
   obtain⟨v,g2,e1,e2⟩:=h3 rfl
   obtain⟨r,g',e3,e4⟩:=VU enc Q H xs _ g2 e2
   exact⟨v::r,g',by rw[if_pos rfl,e1,Option.bind_some,e3];rfl,by simpa using e4⟩
  | false =>
   obtain⟨r,g',e3,e4⟩:=VU enc Q H xs _ g1 (h4 rfl)
   exact⟨r,g',by rw[if_neg (by simp)];exact e3,e4⟩
theorem yM(enc:α→D)(Q:List α→Env→D→Prop)(H:∀x xs env g,Q (x::xs) env g→∃env1 e g',h (enc x) env=some env1∧body env1 g=some (.nx e g')∧Q xs (zJ e wp) g') :
  ∀(xs:List α) (env:Env) (g:D),Q xs env g→∃e g',wu h wp body (xs.map enc) env g=some (.nx e g')∧Q [] e g'
 | [],env,g,q=>⟨env,g,rfl,q⟩
 | x::xs,env,g,q=>by
  obtain⟨env1,e,g1,h1,h2,h3⟩:=H x xs env g q
  obtain⟨e2,g2,e3,e4⟩:=yM enc Q H xs _ g1 h3
  refine⟨e2,g2,?_,e4⟩
  rw[List.map_cons]
  unfold wu
  rw[h1,Option.bind_some,h2,Option.bind_some]
  exact e3
end
section
variable {f fa fb:XF} {h s1 s2:SF} {env e:Env} {g g1 g2 d a b:D} {t:BF}
theorem zk(h1:s1 env g=some (.nx e g1)):zg s1 s2 env g=s2 e g1:=by unfold zg;rw[h1]
theorem zL(h1:s1 env g=some (.rt d g1)):zg s1 s2 env g=some (.rt d g1):=by unfold zg;rw[h1]
theorem zU{i:Nat}(h1:f env g=some (d,g1)):z9 i f env g=some (.nx (env.set i (some d)) g1):=by unfold z9;rw[h1];rfl
theorem zZ(h1:f env g=some (d,g1)):ya f env g=some (.rt d g1):=by unfold ya;rw[h1];rfl
theorem Qn(h1:t env g=some (true,g1)):sIf t s1 s2 env g=s1 env g1:=by unfold sIf;rw[h1,Option.bind_some];exact if_pos rfl
theorem wB(h1:t env g=some (false,g1)):sIf t s1 s2 env g=s2 env g1:=by unfold sIf;rw[h1,Option.bind_some];exact if_neg (by simp)
theorem yp{m:Nat}{B:SF}{ds:List D}(h1:B (jU m ds) .none=some (.rt d g)):yZ m B ds=some d:=by unfold yZ;rw[h1]
theorem jK{m:Nat}{B:SF}{ds:List D}(h1:B (none::jU (m - 1) ds) g=some (.rt d g1)):Vi m B ds g=some (d,g1):=by unfold Vi;rw[h1]
theorem zu{op:D→D→Option D}(h1:fa env g=some (a,g1))(h2:fb env g1=some (b,g2))(h3:op a b=some d):xOp op fa fb env g=some (d,g2):=by unfold xOp;rw[h1,Option.bind_some,h2,Option.bind_some,h3];rfl
theorem zP{c:Bool}(h1:f env g=some (.bool c,g1)):bT f env g=some (c,g1):=by unfold bT;rw[h1];rfl
theorem vo{i:Nat}(h1:env[i]? = some (some d)):xV i env g=some (d,g):=by unfold xV;rw[h1]
variable {fl fr:LF} {ds es xs r:List D} {c c2:Bool} {i j k:Nat} {fi:IF} {hg:GF} {tt:BF} {ff fc:XF} {vs:List Nat}
theorem zd(h1:fa env g=some (a,g1))(h2:fr env g1=some (ds,g2)):za fa fr env g=some (a::ds,g2):=by unfold za;rw[h1,Option.bind_some,h2];rfl
theorem jg(h1:fa env g=some (a,g1))(h2:y9 a=some xs)(h3:fr env g1=some (ds,g2)):jc fa fr env g=some (xs++ds,g2):=by unfold jc;rw[h1,Option.bind_some,h2,Option.bind_some,h3];rfl
theorem zX(h1:fl env g=some (ds,g1))(hs:ds.length<16000000):zV fl env g=some (.tuple ds,g1):=by unfold zV;rw[h1,Option.bind_some];exact if_pos (decide_eq_true hs)
theorem z8(h1:fl env g=some (ds,g1))(hs:ds.length<16000000):zY fl env g=some (.list ds,g1):=by unfold zY;rw[h1,Option.bind_some];exact if_pos (decide_eq_true hs)
theorem zB{F:List D→Option D}(h1:fl env g=some (ds,g1))(h2:F ds=some d):zy F fl env g=some (d,g1):=by unfold zy;rw[h1,Option.bind_some,h2];rfl
theorem zM{F:List D→D→Option (D×D)}(h1:fl env g=some (ds,g1))(h2:F ds g1=some (d,g2)):zw F fl env g=some (d,g2):=by unfold zw;rw[h1,Option.bind_some,h2]
theorem yg{F:List D→Option D}(h1:fl env g=some (ds,g1))(h2:F ds=some d):xCB F fl env g=some (d,g1):=by unfold xCB;rw[h1,Option.bind_some,h2];rfl
theorem jo{F:List D→Option (List D)}(h1:fl env g=some (ds,g1))(h2:F ds=some es):jC F fl env g=some (.list es,g1):=by unfold jC;rw[h1,Option.bind_some,h2];rfl
theorem zI(h1:f env g=some (d,g1))(h2:y9 d=some ds):zG f env g=some (ds,g1):=by unfold zG;rw[h1,Option.bind_some,h2];rfl
theorem Yp(h1:fi env g=some (ds,g1))(h2:lcF hg tt ff ds (zJ env vs) g1=some (r,g2))(hs:r.length<16000000):xLc fi hg tt ff vs env g=some (.list r,g2):=by unfold xLc;rw[h1,Option.bind_some,h2,Option.bind_some];exact if_pos (decide_eq_true hs)
theorem yT{body:SF}{wp:List Nat}{sr:Option SR}(h1:fi env g=some (ds,g1))(h2:wu hg wp body ds (zJ env wp) g1=sr):vd fi hg wp body env g=sr:=by unfold vd;rw[h1,Option.bind_some];exact h2
theorem jv(h0:env[i]? = some (some (.list ds)))(h1:f env g=some (d,g1))(hs:ds.length<16000000):yI i f env g=some (.nx (env.set i (some (.list (ds++[d])))) g1):=by
 unfold yI
 rw[vo h0,Option.bind_some,h1,Option.bind_some,h0]
 show(if sz ds.length then _ else none)=_
 exact if_pos (decide_eq_true hs)
theorem YR(h0:env[i]? = some (some (.list ds)))(h1:f env g=some (d,g1))(h2:y9 d=some es)(hs:ds.length+es.length<16000000):Jn i f env g=some (.nx (env.set i (some (.list (ds++es)))) g1):=by
 unfold Jn
 rw[vo h0,Option.bind_some,h1,Option.bind_some,h2,Option.bind_some,h0]
 show(if sz (ds.length+es.length) then _ else none)=_
 exact if_pos (decide_eq_true hs)
theorem YS(h1:t env g=some (true,g1)):xIf t fa fb env g=fa env g1:=by unfold xIf;rw[h1,Option.bind_some];exact if_pos rfl
theorem Ub(h1:t env g=some (false,g1)):xIf t fa fb env g=fb env g1:=by unfold xIf;rw[h1,Option.bind_some];exact if_neg (by simp)
theorem JV{h:BF}(h1:t env g=some (c,g1))(h2:c=true→h env g1=some (c2,g1)):vr t h env g=some (c&&c2,g1):=by
 unfold vr
 rw[h1,Option.bind_some]
 cases c with
 | true=>exact(if_pos rfl).trans (h2 rfl)
 | false=>exact if_neg (by simp)
theorem wC{h:BF}(h1:t env g=some (c,g1))(h2:c=false→h env g1=some (c2,g1)):bOr t h env g=some (c||c2,g1):=by
 unfold bOr
 rw[h1,Option.bind_some]
 cases c with
 | true=>exact if_pos rfl
 | false=>exact(if_neg (by simp)).trans (h2 rfl)
theorem wN(h1:t env g=some (c,g1)):v8 t env g=some (!c,g1):=by unfold v8;rw[h1];rfl
theorem jh(h1:fa env g=some (a,g1))(h2:fb env g1=some (b,g2)):jb i j fa fb env g=some (.nx ((env.set i (some a)).set j (some b)) g2):=by unfold jb;rw[h1,Option.bind_some,h2];rfl
theorem aeH{g3:D}(h1:fa env g=some (a,g1))(h2:fb env g1=some (b,g2))(h3:fc env g2=some (d,g3)):acF i j k fa fb fc env g=some (.nx (((env.set i (some a)).set j (some b)).set k (some d)) g3):=by unfold acF;rw[h1,Option.bind_some,h2,Option.bind_some,h3];rfl
end
theorem ZA{α:Type}{ds:List α}{k:Nat}{d:α}(h:ds[k]? = some d):atI ds (k:Int)=some d:=by
 have hk:k<ds.length:=(List.getElem?_eq_some_iff.mp h).1
 unfold atI ixN
 rw[if_pos (by omega),if_pos (by omega)]
 simpa using h
theorem ixL{ds:List D}{k:Nat}{d:D}(h:ds[k]? = some d):ixD (.list ds) (.int (k:Int))=some d:=ZA h
theorem ixT{ds:List D}{k:Nat}{d:D}(h:ds[k]? = some d):ixD (.tuple ds) (.int (k:Int))=some d:=ZA h
theorem ahT(d:D)(ds:List D):ixD (.list (d::ds)) (.int 0)=some d:=ixL (k:=0) rfl
theorem aik(d:D)(ds:List D):ixD (.tuple (d::ds)) (.int 0)=some d:=ixT (k:=0) rfl
def tS(l:List Str):D:=.tuple (l.map .str)
def lS(l:List Str):D:=.list (l.map .str)
def okS(x:Str):Bool:=PyData.strOk x
theorem Uc:∀(l m:List Str),PyData.eqvAll (l.map .str) (m.map .str)=decide (l=m)
 | [],[]=>by simp[PyData.eqvAll]
 | [],_::_=>by simp[PyData.eqvAll]
 | _::_,[]=>by simp[PyData.eqvAll]
 | x::l,y::m=>by
  rw[List.map_cons,List.map_cons,PyData.eqvAll,Uc l m]
  simp only[PyData.eqv,List.cons.injEq,Bool.decide_and]
  congr 1
theorem Vx:∀(l:List Str),vq (l.map .str)=true
 | []=>rfl
 | x::l=>by rw[List.map_cons,vq,Vx l];simp[vf]
section
variable [TheW]
def Fb(c:Ctx)(Hb H:Hp)(v:V)(d:D):Prop:=Rp Hb v d∨∃as,Fw c Hb H as v d
inductive FbL(c:Ctx)(Hb H:Hp):List V→List D→Prop
 | nil:FbL c Hb H [] []
 | cons {v:V} {vs:List V} {d:D} {ds:List D}:Fb c Hb H v d→FbL c Hb H vs ds→FbL c Hb H (v::vs) (d::ds)
section
variable {c:Ctx} {Γ:List Fl} {Hb H Hb' H':Hp} {env:Env} {g g':D} {σ:L2.St} {v:V} {d:D}
theorem Fb.grow(R:Rel c Γ Hb H env g σ)(G:Grow c Hb H Hb' H')(h:Fb c Hb H v d):Fb c Hb' H' v d:=by
 rcases h with h | ⟨as,h⟩
 ·exact .inl (h.same G.b)
 ·exact .inr ⟨as,h.grow R G⟩
theorem Fb.rp(h:Fb c Hb H v d)(s:Same Hb H):Rp H v d:=by
 rcases h with h | ⟨as,h⟩
 ·exact h.same s
 ·exact Fw.rp s _ _ _ h
theorem FbL.rp(s:Same Hb H):∀ {vs:List V} {ds:List D},FbL c Hb H vs ds→RpL H vs ds
 | _,_,.nil=>.nil
 | _,_,.cons h t=>.cons (h.rp s) (t.rp s)
theorem acL:∀ {vs:List V} {ds:List D},RpL H vs ds→RbL c H H vs ds
 | _,_,.nil=>.nil
 | _,_,.cons h t=>.cons (.inl h) (acL t)
theorem Rp.scal{H H':Hp}{v:V}{d:D}(h:Rp H v d)(s:JS d=true):Rp H' v d:=by
 cases h with
 | non=>exact .non
 | bl b=>exact .bl b
 | int b=>exact .int b
 | str b=>exact .str b
 | lst _ _=>cases s
 | tup _ _ _=>cases s
 | dK _ _=>cases s
 | dT _ _=>cases s
 | dX _ _ _=>cases s
theorem nwH{H2 H3 Hb3:Hp}(x:Same Hb H2)(w:Nw H2 H2 Hb3 H3):Nw Hb H2 Hb H3:=⟨Same.refl _,x.trans w.h,w.h,fun a e z=>absurd z e⟩
end
def RfX(Γ:List Fl)(te:TE)(f:XF):Prop:=∀(c:Ctx) (Hb H:Hp) (env:Env) (g:D) (σ:L2.St) (d g':D),Rel c Γ Hb H env g σ→f env g=some (d,g') →
 ∀Q:VK,(∀v Hb' H',Grow c Hb H Hb' H'→Rel c Γ Hb' H' env g' σ→Fb c Hb' H' v d→Q v H')→te σ H Q
def aeI(Γ:List Fl)(ta:TA)(f:LF):Prop:=∀(c:Ctx) (Hb H:Hp) (env:Env) (g:D) (σ:L2.St) (ds:List D) (g':D),Rel c Γ Hb H env g σ→f env g=some (ds,g') →
 ∀Q:List V→Hp→Prop,(∀vs Hb' H',Grow c Hb H Hb' H'→Rel c Γ Hb' H' env g' σ→FbL c Hb' H' vs ds→Q vs H')→ta σ H Q
def QX(f:XF):XF:=fun env g=>(f env g).bind fun p=>if JS p.1 then some p else none
theorem JB{f:XF}{env:Env}{g g1 d:D}(h1:f env g=some (d,g1))(h2:JS d=true):QX f env g=some (d,g1):=by
 unfold QX
 rw[h1,Option.bind_some]
 exact if_pos h2
theorem WO{f:XF}{env:Env}{g:D}{p:D×D}(h:QX f env g=some p):f env g=some p∧JS p.1=true:=by
 obtain⟨q,e1,e⟩:=zo h
 split at e
 ·cases e;exact⟨e1,by assumption⟩
 ·cases e
section
variable {Γ:List Fl} {ta tb te:TE} {fa fb f:XF} {t tr:TA} {fl fr:LF} {E:XK}
theorem Ud{i:Nat}(h:Γ[i]? = some .fr):RfX Γ (tVar i) (xV i):=fun c Hb H env g σ d g' R e Q q=>by
 obtain⟨e1,e2⟩:=jl e
 subst e2
 obtain⟨fl,v,z1,z2,z3⟩:=R.slot i d e1
 rw[h] at z1;cases z1
 obtain⟨as,o,_⟩:=z3
 exact⟨v,z2,q v Hb H (Grow.refl _ _ _) R (.inr ⟨as,o⟩)⟩
theorem RfE.x(h:RfE Γ te f):RfX Γ te f:=fun c Hb H env g σ d g' R e Q q=>h c Hb H env g σ d g' R e Q fun v Hb' H' G R' r=>q v Hb' H' G R' (.inl r)
theorem IJ:aeI Γ tNil zb:=fun c Hb H env g σ ds g' R e Q q=>by cases e;exact q [] _ _ (Grow.refl _ _ _) R .nil
theorem j7(ha:RfX Γ ta fa)(hr:aeI Γ tr fr):aeI Γ (tCons ta tr) (za fa fr):=fun c Hb H env g σ ds g' R e Q q=>by
 obtain⟨d,g1,es,e1,e2,rfl⟩:=Jx e
 exact ha c Hb H env g σ d g1 R e1 _ fun v Hb1 H1 G1 R1 r1=>hr c Hb1 H1 env g1 σ es g' R1 e2 _ fun vs Hb2 H2 G2 R2 r2=>q (v::vs) Hb2 H2 (G1.trans G2) R2 (.cons (r1.grow R1 G2) r2)
theorem aeJ{n:Nat}{F:List D→Option D}(hn:∀env g p,fl env g=some p→p.1.length=n)(ha:aeI Γ t fl):RfE Γ (tCall (spP n F) [] E t) (QX (zy F fl)):=fun c Hb H env g σ d g' R e Q q=>by
 obtain⟨e,hs⟩:=WO e
 obtain⟨p,e1,e⟩:=zo e
 obtain⟨d2,e3,e⟩:=zo e
 cases e
 refine ha c Hb H env g σ p.1 p.2 R e1 _ fun vs Hb1 H1 G1 R1 r1=>?_
 have r2:=r1.rp R1.ext
 rw[List.append_nil]
 exact⟨H1,p.1,d,Same.refl _,r2,by rw[r2.length];exact hn _ _ _ e1,e3,fun v Hb2 H2 w r=>q v Hb1 H2 (G1.trans (nwH R1.ext w).gr) ((nwH R1.ext w).rel R1) (r.scal hs)⟩
theorem ahU{r:R2}{h:D→D→Option D}(hr:RfO r h)(ha:RfX Γ ta fa)(hb:RfX Γ tb fb):RfE Γ (tOp r ta tb) (QX (xOp h fa fb)):=fun c Hb H env g σ d g' R e Q q=>by
 obtain⟨e,hs⟩:=WO e
 obtain⟨p,e1,e⟩:=zo e
 obtain⟨p2,e2,e⟩:=zo e
 obtain⟨d2,e3,e⟩:=zo e
 cases e
 exact ha c Hb H env g σ p.1 p.2 R e1 _ fun v Hb1 H1 G1 R1 r1=>hb c Hb1 H1 env p.2 σ p2.1 p2.2 R1 e2 _ fun u Hb2 H2 G2 R2 r2 =>
  hr c H2 H2 v u p.1 p2.1 d (Same.refl _) (.inl ((r1.grow R1 G2).rp R2.ext)) (.inl (r2.rp R2.ext)) e3 _ fun z Hb3 H3 w3 r3=>q z Hb2 H3 ((G1.trans G2).trans (nwH R2.ext w3).gr) ((nwH R2.ext w3).rel R2) (r3.scal hs)
theorem ahV{r:List V→Hp→VK→Prop}{h:List D→Option D}(hr:RfC r h)(ha:aeI Γ t fl):RfE Γ (tCB r t) (QX (xCB h fl)):=fun c Hb H env g σ d g' R e Q q=>by
 obtain⟨e,hs⟩:=WO e
 obtain⟨p,e1,e⟩:=zo e
 obtain⟨d2,e3,e⟩:=zo e
 cases e
 exact ha c Hb H env g σ p.1 p.2 R e1 _ fun v Hb1 H1 G1 R1 r1=>hr c H1 H1 v p.1 d (Same.refl _) (acL (r1.rp R1.ext)) e3 _ fun z Hb3 H3 w3 r3=>q z Hb1 H3 (G1.trans (nwH R1.ext w3).gr) ((nwH R1.ext w3).rel R1) (r3.scal hs)
end
def atP:List Nat→D→Option (List D)
 | [],.list es=>some es
 | k::ks,.list ds=>(ds[k]?).bind (atP ks)
 | k::ks,.tuple ds=>(ds[k]?).bind (atP ks)
 | _,_=>none
def IK(es:List D):List Nat→D→D
 | [],_=>.list es
 | k::ks,.list ds=>.list (match ds[k]? with | some d=>ds.set k (IK es ks d) | none=>ds)
 | k::ks,.tuple ds=>.tuple (match ds[k]? with | some d=>ds.set k (IK es ks d) | none=>ds)
 | _,d=>d
def adA(K:PySem.W.Frag):List Nat→TE→TE
 | [],te=>te
 | k::ks,te=>adA K ks (tOp (v9 K) te (tC (.int (k:Nat))))
section
variable {c:Ctx} {Hb H:Hp} {K:PySem.W.Frag}
theorem abY:∀ {ds:List D} {as:List Addr} {vs:List V} {k:Nat} {d:D},FwL c Hb H as vs ds→ds[k]? = some d →
  ∃v l1 a l2,vs[k]? = some v∧as=l1++(a++l2)∧Fw c Hb H a v d∧∀(Hb2 H2:Hp) (a':List Addr) (d':D),Same Hb Hb2→(∀x,x∈l1∨x∈l2→(∀o,H x=some o→H2 x=some o)∧Hb2 x=none)→Fw c Hb2 H2 a' v d'→FwL c Hb2 H2 (l1++(a'++l2)) vs (ds.set k d')
 | [],_,_,_,_,_,e=>by simp at e
 | d0::ds,_,_,0,d,h,e=>by
  cases h with
  | @cons a as v vs _ _ h1 h2 =>
   simp at e
   subst e
   exact⟨v,[],a,as,rfl,rfl,h1,fun Hb2 H2 a' d' s k f=>by
    rw[List.nil_append,List.set_cons_zero]
    exact FwL.cons (a:=a') (as:=as) f (FwL.mono s ds _ _ (fun x hx=>(k x (.inr hx)).1) (fun x hx=>(k x (.inr hx)).2) h2)⟩
 | d0::ds,_,_,k+1,d,h,e=>by
  cases h with
  | @cons a0 as0 v0 vs _ _ h1 h2 =>
   obtain⟨v,l1,a,l2,e1,e2,f,q⟩:=abY (k:=k) h2 (by simpa using e)
   refine⟨v,a0++l1,a,l2,by simpa using e1,by rw[e2];simp,f,fun Hb2 H2 a' d' s z f2=>?_⟩
   rw[List.append_assoc,List.set_cons_succ]
   exact .cons (Fw.mono s d0 _ _ (fun x hx=>(z x (.inl (List.mem_append_left _ hx))).1) (fun x hx=>(z x (.inl (List.mem_append_left _ hx))).2) h1) (q Hb2 H2 a' d' s (fun x hx=>z x (hx.imp (fun y=>List.mem_append_right _ y) id)) f2)
theorem acM:∀(ks:List Nat) (d:D) (as:List Addr) (v:V) (es:List D),Fw c Hb H as v d→as.Nodup→atP ks d=some es→Same Hb H →
  ∃p xs as1,(∀(te:TE) (σ:L2.St),(∀Q:VK,Q v H→te σ H Q)→∀Q:VK,Q (.ref p) H→adA K ks te σ H Q)∧H p=some (.lst xs)∧Hb p=none∧c.Hc p=none∧FwL c Hb H as1 xs es∧(p::as1).Nodup∧(∀a∈p::as1,a∈as) ∧
   ∀(Hb2 H2:Hp) (xs2:List V) (as2:List Addr) (es2:List D),Same Hb Hb2→(∀a∈as,a∉p::as1→(∀o,H a=some o→H2 a=some o)∧Hb2 a=none)→H2 p=some (.lst xs2)→Hb2 p=none→FwL c Hb2 H2 as2 xs2 es2→(p::as2).Nodup→(∀a∈as2,a∈as1∨a∉as) →
    ∃as',Fw c Hb2 H2 as' v (IK es2 ks d)∧as'.Nodup∧∀a∈as',a∈as∨a∈as2
 | [],.list ds,_,_,es,h,nd,e,sx=>by
  cases h with
  | sc r _=>cases r
  | @lst p xs as1 _ h1 h2 h3 h5 =>
   simp[atP] at e
   subst e
   exact⟨p,xs,as1,fun te σ k Q q=>k Q q,h1,h2,h3,h5,nd,fun a ha=>ha,fun Hb2 H2 xs2 as2 es2 s k g1 g2 g3 g4 g5=>⟨p::as2,.lst g1 g2 h3 g3,g4,fun a ha=>by
    rcases List.mem_cons.mp ha with z | z
    ·exact .inl (by rw[z];simp)
    ·exact .inr z⟩⟩
 | [],.none,_,_,_,_,_,e,_=>by simp[atP] at e
 | [],.bool _,_,_,_,_,_,e,_=>by simp[atP] at e
 | [],.int _,_,_,_,_,_,e,_=>by simp[atP] at e
 | [],.str _,_,_,_,_,_,e,_=>by simp[atP] at e
 | [],.tuple _,_,_,_,_,_,e,_=>by simp[atP] at e
 | [],.dict _,_,_,_,_,_,e,_=>by simp[atP] at e
 | k::ks,.none,_,_,_,_,_,e,_=>by simp[atP] at e
 | k::ks,.bool _,_,_,_,_,_,e,_=>by simp[atP] at e
 | k::ks,.int _,_,_,_,_,_,e,_=>by simp[atP] at e
 | k::ks,.str _,_,_,_,_,_,e,_=>by simp[atP] at e
 | k::ks,.dict _,_,_,_,_,_,e,_=>by simp[atP] at e
 | k::ks,.list ds,_,_,es,h,nd,e,sx=>by
  cases h with
  | sc r _=>cases r
  | @lst p0 xs0 as0 _ h1 h2 h3 h5 =>
   simp only[atP] at e
   obtain⟨d1,e1,e⟩:=zo e
   rw[List.nodup_cons] at nd
   obtain⟨v1,l1,a1,l2,k1,k2,k3,k4⟩:=abY h5 e1
   subst k2
   have nd1:a1.Nodup:=(List.nodup_append.mp (List.nodup_append.mp nd.2).2.1).1
   obtain⟨p,xs,as1,w,q1,q2,q3,q4,q5,q6,q7⟩:=acM ks d1 a1 v1 es k3 nd1 e sx
   have in1:∀a,a∈a1→a∈l1++(a1++l2):=fun a ha=>List.mem_append_right _ (List.mem_append_left _ ha)
   have off1:∀x,x∈l1∨x∈l2→x∉a1:=fun x hx hz=>by
    rcases hx with hx | hx
    ·exact(List.nodup_append.mp nd.2).2.2 x hx x (List.mem_append_left _ hz) rfl
    ·exact(List.nodup_append.mp (List.nodup_append.mp nd.2).2.1).2.2 x hz x hx rfl
   have inl:∀x,x∈l1∨x∈l2→x∈l1++(a1++l2):=fun x hx=>hx.elim (fun z=>List.mem_append_left _ z) fun z=>List.mem_append_right _ (List.mem_append_right _ z)
   refine⟨p,xs,as1,fun te σ kk Q q=>w _ σ (fun Q' q'=>kk (fun x H1=>v9 K x (.int (k:Nat)) H1 Q') (Or.inl ⟨p0,xs0,_,v1,rfl,rfl,SqL.of h1,ZA k1,q'⟩)) Q q,q1,q2,q3,q4,q5,fun a ha=>List.mem_cons_of_mem _ (in1 a (q6 a ha)),fun Hb2 H2 xs2 as2 es2 s st g1 g2 g3 g4 g5=>?_⟩
   obtain⟨b,f,fn,fm⟩:=q7 Hb2 H2 xs2 as2 es2 s (fun a ha hz=>st a (List.mem_cons_of_mem _ (in1 a ha)) hz) g1 g2 g3 g4 (fun a ha=>(g5 a ha).imp id fun z hz=>z (List.mem_cons_of_mem _ (in1 a hz)))
   have offb:∀x,(x∈l1∨x∈l2)∨x=p0→x∉b:=fun x hx hz=>by
    have hx0:x∈p0::(l1++(a1++l2)):=hx.elim (fun z=>List.mem_cons_of_mem _ (inl x z)) fun z=>by rw[z];simp
    have nx:x∉a1:=hx.elim (off1 x) fun z hz=>nd.1 (by rw[←z];exact in1 x hz)
    rcases fm x hz with z | z
    ·exact nx z
    ·rcases g5 x z with y | y
     ·exact nx (q6 x (List.mem_cons_of_mem _ y))
     ·exact y hx0
   have stay:∀x,(x∈l1∨x∈l2)∨x=p0→(∀o,H x=some o→H2 x=some o)∧Hb2 x=none:=fun x hx=>by
    have hx0:x∈p0::(l1++(a1++l2)):=hx.elim (fun z=>List.mem_cons_of_mem _ (inl x z)) fun z=>by rw[z];simp
    have nx:x∉a1:=hx.elim (off1 x) fun z hz=>nd.1 (by rw[←z];exact in1 x hz)
    exact st x hx0 fun z=>nx (q6 x z)
   have F:=k4 Hb2 H2 b _ s (fun x hx=>stay x (.inl hx)) f
   have sp0:=stay p0 (.inr rfl)
   refine⟨p0::(l1++(b++l2)),?_,?_,fun a ha=>?_⟩
   ·show Fw c Hb2 H2 _ _ (.list (match ds[k]? with | some d=>ds.set k (IK es2 ks d) | none=>ds))
    rw[e1]
    exact .lst (sp0.1 _ h1) sp0.2 h3 F
   ·have n1:=List.nodup_append.mp nd.2
    have n2:=List.nodup_append.mp n1.2.1
    refine List.nodup_cons.mpr ⟨fun z=>?_,List.nodup_append.mpr ⟨n1.1,List.nodup_append.mpr ⟨fn,n2.2.1,fun x hx y hy e=>?_⟩,fun x hx y hy e=>?_⟩⟩
    ·rcases List.mem_append.mp z with z | z
     ·exact nd.1 (inl p0 (.inl z))
     ·rcases List.mem_append.mp z with z | z
      ·exact offb p0 (.inr rfl) z
      ·exact nd.1 (inl p0 (.inr z))
    ·subst e;exact offb x (.inl (.inr hy)) hx
    ·subst e
     rcases List.mem_append.mp hy with z | z
     ·exact offb x (.inl (.inl hx)) z
     ·exact n1.2.2 x hx x (List.mem_append_right _ z) rfl
   ·rcases List.mem_cons.mp ha with z | z
    ·exact .inl (by rw[z];simp)
    ·rcases List.mem_append.mp z with z | z
     ·exact .inl (List.mem_cons_of_mem _ (inl a (.inl z)))
     ·rcases List.mem_append.mp z with z | z
      ·exact(fm a z).imp (fun y=>List.mem_cons_of_mem _ (in1 a y)) id
      ·exact .inl (List.mem_cons_of_mem _ (inl a (.inr z)))
 | k::ks,.tuple ds,_,_,es,h,nd,e,sx=>by
  cases h with
  | sc r _=>cases r
  | @tup t0 o0 xs0 as0 _ h1 h2 h5 =>
   simp only[atP] at e
   obtain⟨d1,e1,e⟩:=zo e
   obtain⟨v1,l1,a1,l2,k1,k2,k3,k4⟩:=abY h5 e1
   subst k2
   have nd1:a1.Nodup:=(List.nodup_append.mp (List.nodup_append.mp nd).2.1).1
   obtain⟨p,xs,as1,w,q1,q2,q3,q4,q5,q6,q7⟩:=acM ks d1 a1 v1 es k3 nd1 e sx
   have in1:∀a,a∈a1→a∈l1++(a1++l2):=fun a ha=>List.mem_append_right _ (List.mem_append_left _ ha)
   have off1:∀x,x∈l1∨x∈l2→x∉a1:=fun x hx hz=>by
    rcases hx with hx | hx
    ·exact(List.nodup_append.mp nd).2.2 x hx x (List.mem_append_left _ hz) rfl
    ·exact(List.nodup_append.mp (List.nodup_append.mp nd).2.1).2.2 x hz x hx rfl
   have inl:∀x,x∈l1∨x∈l2→x∈l1++(a1++l2):=fun x hx=>hx.elim (fun z=>List.mem_append_left _ z) fun z=>List.mem_append_right _ (List.mem_append_right _ z)
   refine⟨p,xs,as1,fun te σ kk Q q=>w _ σ (fun Q' q'=>kk (fun x H1=>v9 K x (.int (k:Nat)) H1 Q') (Or.inr ⟨t0,xs0,_,v1,rfl,rfl,.inl (.inr ⟨_,sx _ _ h1⟩),ZA k1,q'⟩)) Q q,q1,q2,q3,q4,q5,fun a ha=>in1 a (q6 a ha),fun Hb2 H2 xs2 as2 es2 s st g1 g2 g3 g4 g5=>?_⟩
   obtain⟨b,f,fn,fm⟩:=q7 Hb2 H2 xs2 as2 es2 s (fun a ha hz=>st a (in1 a ha) hz) g1 g2 g3 g4 (fun a ha=>(g5 a ha).imp id fun z hz=>z (in1 a hz))
   have offb:∀x,x∈l1∨x∈l2→x∉b:=fun x hx hz=>by
    rcases fm x hz with z | z
    ·exact off1 x hx z
    ·rcases g5 x z with y | y
     ·exact off1 x hx (q6 x (List.mem_cons_of_mem _ y))
     ·exact y (inl x hx)
   have F:=k4 Hb2 H2 b _ s (fun x hx=>st x (inl x hx) fun z=>off1 x hx (q6 x z)) f
   refine⟨l1++(b++l2),?_,?_,fun a ha=>?_⟩
   ·show Fw c Hb2 H2 _ _ (.tuple (match ds[k]? with | some d=>ds.set k (IK es2 ks d) | none=>ds))
    rw[e1]
    exact .tup (s _ _ h1) h2 F
   ·have n1:=List.nodup_append.mp nd
    have n2:=List.nodup_append.mp n1.2.1
    refine List.nodup_append.mpr ⟨n1.1,List.nodup_append.mpr ⟨fn,n2.2.1,fun x hx y hy e=>?_⟩,fun x hx y hy e=>?_⟩
    ·subst e;exact offb x (.inr hy) hx
    ·subst e
     rcases List.mem_append.mp hy with z | z
     ·exact offb x (.inl hx) z
     ·exact n1.2.2 x hx x (List.mem_append_right _ z) rfl
   ·rcases List.mem_append.mp ha with z | z
    ·exact .inl (inl a (.inl z))
    ·rcases List.mem_append.mp z with z | z
     ·exact(fm a z).imp (in1 a) id
     ·exact .inl (inl a (.inr z))
end
section
variable {c:Ctx} {Γ:List Fl} {Hb H:Hp} {env:Env} {g:D} {σ:L2.St}
theorem Rel.pokeF(R:Rel c Γ Hb H env g σ){i:Nat}(hi:Γ[i]? = some .fr){v:V}{d d2:D}(e1:env[i]? = some (some d))(e2:σ[i]? = some (some v)){as as':List Addr}(h:Fw c Hb H as v d){p:Addr}(hp:p∈as)(o:HO)(f:Fw c Hb (upd H p o) as' v d2)(nd:as'.Nodup)
  (hs:∀a∈as',a∈as∨∀j,¬zK c Γ Hb H env σ j a):Rel c Γ Hb (upd H p o) (env.set i (some d2)) g σ:=by
 have hl:i<Γ.length:=(List.getElem?_eq_some_iff.mp hi).1
 have hs':i<σ.length:=by rw[←R.leng];exact hl
 have lv:=Fw.live d as v h
 have hbg:∀k:Nat,(Γ.set i .dd)[k]? = some .bg→Γ[k]? = some .bg:=fun k e=>by
  by_cases q:i=k
  ·subst q
   rw[List.getElem?_set_self hl] at e;cases e
  ·rw[List.getElem?_set_ne q] at e;exact e
 have R0:Rel c (Γ.set i .dd) Hb H env g σ:=R.less rfl (by simp) hbg fun j d ej=>⟨ej,by
  by_cases q:i=j
  ·subst q;exact .inr (List.getElem?_set_self hl)
  ·exact .inl (List.getElem?_set_ne q)⟩
 have other:∀ {j a},zK c (Γ.set i .dd) Hb H env σ j a→i≠j∧zK c Γ Hb H env σ j a:=fun {j a} ow=>by
  by_cases q:i=j
  ·subst q
   obtain⟨_,fl,_,_,e2,_,e4⟩:=ow
   rw[List.getElem?_set_self hl] at e2;cases e2
   exact e4.elim
  ·exact⟨q,ow.eqs (List.getElem?_set_ne q) rfl rfl⟩
 have free:∀j,∀a∈as,¬zK c (Γ.set i .dd) Hb H env σ j a:=fun j a ha ow=>by
  obtain⟨q,ow⟩:=other ow
  exact R.sep i j a q ⟨_,_,_,e1,hi,e2,_,h,ha⟩ ow
 have lp:=lv p hp
 have R1:=R0.pokeOff (o:=o) lp.2.1 lp.2.2 lp.1 fun j=>free j p hp
 have back:∀ {j a},zK c (Γ.set i .dd) Hb (upd H p o) env σ j a→zK c (Γ.set i .dd) Hb H env σ j a:=fun {j a} ow=>ow.back R0 (Same.refl _) fun b hb=>⟨fun x eo=>by rw[upd_ne (fun z:b=p=>free j p hp (by rw[←z];exact hb))];exact eo,(hb.live R0).2.1⟩
 have R2:=R1.setOf (i:=i) (fl:=.fr) (v:=v) (d:=d2) ⟨as',f,nd⟩ (by simp) (by simpa using hl) (by rw[List.getElem?_set_self hl];simp) fun j a hj ho ow=>by
  obtain⟨bs,o2,ha⟩:=ho
  rw[←Fw.uniq _ _ _ _ f o2] at ha
  rcases hs a ha with z | z
  ·exact free j a z (back ow)
  ·exact z j (other (back ow)).2
 have eΓ:(Γ.set i .dd).set i .fr=Γ:=by
  apply List.ext_getElem?
  intro j
  by_cases q:i=j
  ·subst q;rw[List.getElem?_set_self (by simpa using hl),hi]
  ·rw[List.getElem?_set_ne q,List.getElem?_set_ne q]
 have eS:σ.set i (some v)=σ:=by
  apply List.ext_getElem?
  intro j
  by_cases q:i=j
  ·subst q;rw[List.getElem?_set_self hs',e2]
  ·rw[List.getElem?_set_ne q]
 rw[eΓ,eS] at R2
 exact R2
end
def IL(i:Nat)(ks:List Nat)(f:XF):SF:=fun env g=>(xV i env g).bind fun x=>(f env g).bind fun p=>(atP ks x.1).bind fun es=>if sz es.length then some (.nx (env.set i (some (IK (es++[p.1]) ks x.1))) p.2) else none
theorem adB{i:Nat}{ks:List Nat}{f:XF}{env:Env}{g g1 d x:D}{es:List D}(h0:env[i]? = some (some x))(h1:f env g=some (d,g1))(h2:atP ks x=some es)(h3:es.length<16000000):IL i ks f env g=some (.nx (env.set i (some (IK (es++[d]) ks x))) g1):=by
 unfold IL
 rw[vo h0,Option.bind_some,h1,Option.bind_some,h2,Option.bind_some]
 exact if_pos (decide_eq_true h3)
section
variable {Γ Γk:List Fl} {te:TE} {fe:XF} {K:PySem.W.Frag}
theorem ag1{i:Nat}(ks:List Nat)(hi:Γ[i]? = some .fr)(he:RfF Γ te fe):RfS Γ Γ Γk (tDrop (tBM K "list" rAppend (adA K ks (tVar i)) (tCons te tNil))) (IL i ks fe):=fun c Hb H env g σ r R e Dn w=>by
 obtain⟨x,e0,e⟩:=zo e
 obtain⟨p,e1,e⟩:=zo e
 obtain⟨es,e2,e⟩:=zo e
 split at e
 ·rename_i hz
  cases e
  obtain⟨x1,_⟩:=jl (show xV i env g=some (x.1,x.2) from e0)
  obtain⟨fl,v,z1,z2,z3⟩:=R.slot i _ x1
  rw[hi] at z1;cases z1
  obtain⟨as,fw,nd⟩:=z3
  obtain⟨q,xs,as1,wk,k1,k2,k3,k4,k5,k6,k7⟩:=acM (K:=K) ks x.1 as v es fw nd e2 R.ext
  refine wk (tVar i) σ (fun Q h=>⟨v,z2,h⟩) _ ⟨.inl ⟨rfl,xs,SqL.of k1⟩,he c Hb H env g σ p.1 p.2 R e1 _ fun u bs Hb1 H1 G1 R1 f1 n1 fr1=>?_⟩
  have lv:=Fw.live _ _ _ fw
  have kp:∀a∈as,(∀o,H a=some o→H1 a=some o)∧Hb1 a=none:=fun a ha=>Qm R G1 (lv a ha)
  have hq:=k6 q (by simp)
  have k1':=(kp q hq).1 _ k1
  refine⟨q,xs,u,rfl,rfl,k1',by rw[FwL.length k4];exact Gw hz,?_⟩
  have off:∀a∈bs,a∉as:=fun a ha hz=>(lv a hz).1 (fr1 a ha)
  have fw1:=fw.grow R G1
  have k4':FwL c Hb1 (upd H1 q (.lst (xs++[u]))) as1 xs es:=FwL.mono G1.b es as1 xs (fun a ha o eo=>by
   rw[upd_ne (fun z:a=q=>(List.nodup_cons.mp k5).1 (by rw[←z];exact ha))]
   exact(kp a (k6 a (List.mem_cons_of_mem _ ha))).1 o eo) (fun a ha=>(kp a (k6 a (List.mem_cons_of_mem _ ha))).2) k4
  have f1':Fw c Hb1 (upd H1 q (.lst (xs++[u]))) bs u p.1:=Fw.mono (Same.refl _) p.1 bs u (fun a ha o eo=>by
   rw[upd_ne (fun z:a=q=>off a ha (by rw[z];exact hq))]
   exact eo) (fun a ha=>(Fw.live _ _ _ f1 a ha).2.1) f1
  obtain⟨as',F,N,M⟩:=k7 Hb1 (upd H1 q (.lst (xs++[u]))) (xs++[u]) (as1++bs) (es++[p.1]) G1.b (fun a ha hz=>⟨fun o eo=>by
   rw[upd_ne (fun z:a=q=>hz (by rw[z];simp))]
   exact(kp a ha).1 o eo,(kp a ha).2⟩) upd_same (kp q hq).2 (k4'.append (FwL.one f1')) (by
   have n5:=List.nodup_cons.mp k5
   refine List.nodup_cons.mpr ⟨fun z=>?_,List.nodup_append.mpr ⟨n5.2,n1,fun a ha b hb ee=>?_⟩⟩
   ·rcases List.mem_append.mp z with z | z
    ·exact n5.1 z
    ·exact off q z hq
   ·subst ee
    exact off a hb (k6 a (List.mem_cons_of_mem _ ha))) (fun a ha=>by
   rcases List.mem_append.mp ha with z | z
   ·exact .inl z
   ·exact .inr (off a z))
  refine w Hb1 _ σ G1.b (R1.pokeF hi x1 z2 fw1 hq _ F N fun a ha=>?_)
  rcases M a ha with z | z
  ·exact .inl z
  ·rcases List.mem_append.mp z with y | y
   ·exact .inl (k6 a (List.mem_cons_of_mem _ y))
   ·exact .inr fun j ow=>RfN.old R G1 ow (fr1 a y)
 ·cases e
end
end
end KP
namespace KP
open PySem PySem.Spec PyProof.Rows L2
variable [TheW]
section
variable {Γ Γ' Γk:List Fl} {tu:TS} {h:SF} {K:PySem.W.Frag}
end
end KP
set_option autoImplicit false
namespace KP
open PySem PySem.Spec PyProof.Rows L2
variable [TheW]
section
variable {Γ Γ' Γk:List Fl} {tk tv te:TE} {fk fv f:XF} {ta:TA} {fa:LF} {K:PySem.W.Frag}
def QG(i:Nat)(fk fv:XF):SF:=fun env g=>(xV i env g).bind fun x=>(Wd x.1).bind fun ds=>(fv env g).bind fun pv=>(fk env pv.2).bind fun pk=>(vV pk.1).bind fun k=>if sz ds.length then some (.nx (env.set i (some (.dict (Vt k pv.1 ds)))) pk.2) else none
theorem IM{i:Nat}(hi:Γ[i]? = some (.od 1))(hk:RfE Γ tk fk)(hv:RfE Γ tv fv):RfS Γ Γ Γk (tAsg tv (gSub (tVar i) tk rSetD)) (QG i fk fv):=fun c Hb H env g σ r R e Dn w=>by
 obtain⟨x,e1,e⟩:=zo e
 obtain⟨ds,e2,e⟩:=zo e
 obtain⟨pv,e5,e⟩:=zo e
 obtain⟨pk,e3,e⟩:=zo e
 obtain⟨k,e4,e⟩:=zo e
 split at e
 ·rename_i hz
  cases e
  obtain⟨x1,x2⟩:=jl (show xV i env g=some (x.1,x.2) from e1)
  rw[ju e2] at x1
  refine hv c Hb H env g σ pv.1 pv.2 R e5 _ fun vv Hb1 H1 G1 R1 r1=>?_
  obtain⟨pa,kvs,z2,_,_,_,_,_⟩:=Zy hi R1 x1
  refine⟨.ref pa,z2,hk c Hb1 H1 env pv.2 σ pk.1 pk.2 R1 e3 _ fun vk Hb2 H2 G2 R2 r2=>?_⟩
  obtain⟨pa2,kvs2,y5,k1,k2,k3,k4,own0⟩:=Zy hi R2 x1
  rw[z2] at y5;cases y5
  rw[wL e4] at r2
  have ek:vk=kV k:=Vs (c:=c) (H:=H2) (.inl r2)
  have hl:kvs2.length<sizeLine:=by
   rw[wA k4]
   have:=of_decide_eq_true (show decide (ds.length<16000000)=true from hz)
   rw[sizeLine_eq]
   omega
  show ∃a H',V.ref pa=V.ref a∧DPut H2 a vk vv H'∧Dn.nx σ H'
  refine⟨pa,_,rfl,by rw[ek];exact DPut.k k1 hl,?_⟩
  have own1:Ow c Hb2 (upd H2 pa (.dK (putK kvs2 k vv))) 1 [pa] (.ref pa) (.dict (Vt k pv.1 ds)):=.dK upd_same k2 k3 (by simp) (Z8 (W8 k (r1.same G2.b) k4))
  refine w Hb2 _ σ (G1.b.trans G2.b) (R2.change hi x1 z2 (fun a ha=>upd_ne fun z=>ha ⟨_,own0,by rw[z];simp⟩) (fun a ha=>?_) ⟨_,own1⟩ fun a ⟨bs,ob,hb⟩=>⟨_,own0,by rw[Ow.uniq _ _ _ _ _ own1 ob];exact hb⟩)
  by_cases z:a=pa
  ·subst z;rw[upd_same] at ha;cases ha
  ·rw[upd_ne z] at ha;exact ha
 ·cases e
def abZ(fl:Fl)(Γ:List Fl)(te:TE)(f:XF):Prop:=∀(c:Ctx) (Hb H:Hp) (env:Env) (g:D) (σ:L2.St) (d g':D),Rel c Γ Hb H env g σ→f env g=some (d,g') →
 ∀Q:VK,(∀v Hb' H',Grow c Hb H Hb' H'→Rel c Γ Hb' H' env g' σ→jE c Hb' H' fl v d→(∀a,Jw c Hb' H' fl v d a→H a=none)→Q v H')→te σ H Q
theorem RfE.v(h:RfE Γ te f):abZ .sh Γ te f:=fun c Hb H env g σ d g' R e Q q=>h c Hb H env g σ d g' R e Q fun v Hb' H' G R' r=>q v Hb' H' G R' r fun a z=>z.elim
theorem RfN.v(h:RfN Γ te f):abZ .ow Γ te f:=fun c Hb H env g σ d g' R e Q q=>h c Hb H env g σ d g' R e Q fun p xs ds Hb' H' G R' e1 e2 e3 e4 e5 e6=>q _ Hb' H' G R' ⟨p,xs,ds,rfl,e1,e2,e3,e5,e6⟩ fun a z=>by
 cases(show V.ref p=V.ref a from z)
 exact e4
theorem RfD.v{n:Nat}(h:RfD n Γ te f):abZ (.od n) Γ te f:=fun c Hb H env g σ d g' R e Q q=>h c Hb H env g σ d g' R e Q fun v as Hb' H' G R' o fr=>q v Hb' H' G R' ⟨as,o⟩ fun a ⟨bs,o2,ha⟩=>fr a (by rw[Ow.uniq _ _ _ _ _ o o2];exact ha)
def IN:List Nat→List D→Env→Env
 | i::is,d::ds,env=>IN is ds (env.set i (some d))
 | _,_,env=>env
def acN:List Nat→List Fl→List Fl→List Fl
 | i::is,f::fs, Γ=>acN is fs (Γ.set i f)
 | _,_, Γ=>Γ
def ac0:List Nat→TGs
 | []=>gNil
 | i::is=>gCons (gName i) (ac0 is)
inductive RowV(c:Ctx)(Hb H:Hp):Hp→List Fl→List V→List D→Prop
 | nil {H0:Hp}:RowV c Hb H H0 [] [] []
 | cons {H0 H1:Hp} {fl:Fl} {fls:List Fl} {v:V} {vs:List V} {d:D} {ds:List D}:jE c Hb H fl v d→(∀a,Jw c Hb H fl v d a→H0 a=none∧H1 a≠none)→(∀a,H1 a=none→H0 a=none)→RowV c Hb H H1 fls vs ds→RowV c Hb H H0 (fl::fls) (v::vs) (d::ds)
def aeK(fls:List Fl)(Γ:List Fl)(ta:TA)(fa:LF):Prop:=∀(c:Ctx) (Hb H:Hp) (env:Env) (g:D) (σ:L2.St) (ds:List D) (g':D),Rel c Γ Hb H env g σ→fa env g=some (ds,g') →
 ∀Q:List V→Hp→Prop,(∀vs Hb' H',Grow c Hb H Hb' H'→Rel c Γ Hb' H' env g' σ→RowV c Hb' H' H fls vs ds→Q vs H')→ta σ H Q
theorem Xk:aeK [] Γ tNil zb:=fun c Hb H env g σ ds g' R e Q q=>by
 cases e
 exact q [] Hb H (.refl ..) R .nil
theorem wD{fl:Fl}{fls:List Fl}{tr:TA}{fr:LF}(x:abZ fl Γ te f)(y:aeK fls Γ tr fr):aeK (fl::fls) Γ (tCons te tr) (za f fr):=fun c Hb H env g σ ds g' R e Q q=>by
 obtain⟨d,g1,es,e1,e2,rfl⟩:=Jx e
 refine x c Hb H env g σ d g1 R e1 _ fun v Hb1 H1 G1 R1 s1 n1=>y c Hb1 H1 env g1 σ es g' R1 e2 _ fun vs Hb2 H2 G2 R2 row=>?_
 have kp:∀a,Jw c Hb1 H1 fl v d a→(∀o,H1 a=some o→H2 a=some o)∧Hb2 a=none:=fun a ha=>by
  obtain⟨l1,l2,l3⟩:=ha.live s1
  refine⟨fun o eo=>G2.h a o eo fun z=>(R1.bgs _ z) l3,?_⟩
  cases z:Hb2 a with
  | none=>rfl
  | some o=>exact absurd (G2.n a (by rw[z];simp) l2) l1
 refine q (v::vs) Hb2 H2 (G1.trans G2) R2 (.cons (s1.keep G2.b kp) (fun a ha=>?_) G1.d row)
 have hb:=Jw.back s1 G2.b kp ha
 exact⟨n1 a hb,(hb.live s1).1⟩
theorem RowV.length{c:Ctx}{Hb H H0:Hp}{fls:List Fl}{vs:List V}{ds:List D}(h:RowV c Hb H H0 fls vs ds):vs.length=fls.length∧ds.length=fls.length:=by
 induction h with
 | nil=>exact⟨rfl,rfl⟩
 | cons _ _ _ _ ih=>exact⟨by simp[ih.1],by simp[ih.2]⟩
theorem RowV.keep{c:Ctx}{Hb H H' H0:Hp}{fls:List Fl}{vs:List V}{ds:List D}(h:RowV c Hb H H0 fls vs ds)(kp:∀a o,H a=some o→H' a=some o):RowV c Hb H' H0 fls vs ds:=by
 induction h with
 | nil=>exact .nil
 | cons s n m _ ih =>
  have k:∀a,Jw c Hb H _ _ _ a→(∀o,H a=some o→H' a=some o)∧Hb a=none:=fun a ha=>⟨kp a,(ha.live s).2.1⟩
  exact .cons (s.keep (Same.refl _) k) (fun a ha=>n a (Jw.back s (Same.refl _) k ha)) m ih
theorem aeL{c:Ctx}{Hb H:Hp}{g:D}:∀(is:List Nat) {H0:Hp} {fls:List Fl} {vs:List V} {ds:List D} {Γ:List Fl} {env:Env} {σ:L2.St},RowV c Hb H H0 fls vs ds→is.length=fls.length→is.Nodup→(∀i∈is,i<Γ.length)→(∀i∈is, Γ[i]? ≠ some .bg)→(∀f∈fls,f≠.bg) →
  Rel c Γ Hb H env g σ→(∀i a,zK c Γ Hb H env σ i a→H0 a≠none)→∀Q:L2.St→Hp→Prop,(∀ σ',Rel c (acN is fls Γ) Hb H (IN is ds env) g σ'→Q σ' H)→ac0 is vs σ H Q
 | [],_,_,_,_,_,_,_,.nil,_,_,_,_,_,R,_,Q,q=>⟨rfl,q _ R⟩
 | i::is,H0,_,_,_, Γ,env, σ,.cons (H1:=H1) (fl:=fl) (v:=v) (d:=d) s n m row,hl,nd,hi,h0,hb,R,old,Q,q=>by
  refine⟨v,_,rfl,?_⟩
  have nd2:=List.nodup_cons.mp nd
  have hil:=hi i (by simp)
  have R1:=R.setOf s (hb fl (by simp)) hil (h0 i (by simp)) fun j a _ ow oa=>old j a oa (n a ow).1
  refine aeL is row (by simpa using hl) nd2.2 (fun j hj=>by rw[List.length_set];exact hi j (List.mem_cons_of_mem _ hj)) (fun j hj=>?_) (fun f hf=>hb f (List.mem_cons_of_mem _ hf)) R1 (fun j a oa=>?_) Q q
  ·rw[List.getElem?_set_ne (fun z:i=j=>nd2.1 (by rw[z];exact hj))]
   exact h0 j (List.mem_cons_of_mem _ hj)
  ·by_cases z:i=j
   ·subst z
    obtain⟨d',fl',v',e1,e2,e3,e4⟩:=oa
    have hs:i<σ.length:=by rw[←R.leng];exact hil
    have he:i<env.length:=by rw[R.lene];exact hs
    rw[List.getElem?_set_self he] at e1;cases e1
    rw[List.getElem?_set_self hil] at e2;cases e2
    rw[List.getElem?_set_self hs] at e3;cases e3
    exact(n a e4).2
   ·exact fun y=>old j a (oa.eqs (List.getElem?_set_ne z) (List.getElem?_set_ne z) (List.getElem?_set_ne z)) (m a y)
def JC(is:List Nat)(fa:LF):SF:=fun env g=>(fa env g).bind fun p=>some (.nx (IN is p.1 env) p.2)
theorem ahj{n:Nat}{is:List Nat}{fls:List Fl}(ha:aeK fls Γ ta fa)(hn:fls.length=n)(hl:is.length=n)(nd:is.Nodup)(hi:∀i∈is,i<Γ.length)(h0:Qz Γ is=true)(hb:∀f∈fls,f≠.bg)(h9:n≤1000) :
  RfS Γ (acN is fls Γ) Γk (tAsg (tTup ta) (gTup K n (ac0 is))) (JC is fa):=fun c Hb H env g σ r R e Dn w=>by
 obtain⟨p,e1,e⟩:=zo e
 cases e
 refine ha c Hb H env g σ p.1 p.2 R e1 _ fun vs Hb1 H1 G1 R1 row=>?_
 have lv:=row.length.1
 refine⟨by rw[lv,hn,sizeLine_eq];omega,fun pt hpt=>?_⟩
 have nw:=Nw.newOwn (o:=.tup vs) R1.ext hpt
 have R3:=nw.rel R1
 have G3:=nw.gr (c:=c)
 have row3:RowV c Hb1 (upd H1 pt (.tup vs)) H fls vs p.1:=row.keep fun a o ho=>by rw[upd_ne (ne_of_none ho hpt)];exact ho
 refine⟨pt,vs,rfl,.inl (.inl upd_same),lv.trans hn,?_⟩
 refine aeL is row3 (hl.trans hn.symm) nd hi (fun i h z=>jm h0 z h) hb R3 (fun i a oa=>RfN.old R (G1.trans G3) oa) _ fun σ' R'=>w Hb1 _ σ' G1.b R'
end
def agF:D→D→Option D
 | d,.none=>some (.bool (!aaE d))
 | _,_=>none
theorem aeM:RfO rNotN agF:=fun c Hb H x y dx dy d sm rx ry e Q q=>by
 cases dy with
 | none =>
  cases e
  have hy:y=.non:=by
   rcases ry with h | ⟨_,_,_,_,h,_⟩
   ·cases h;rfl
   ·cases h
  have hx:decide (x=.non)=aaE dx:=by
   rcases rx with h | ⟨p,xs,ds,hx,hd,_⟩
   ·cases h <;> simp[aaE]
   ·subst hx hd;simp[aaE]
  exact⟨hy,by rw[hx];exact q _ Hb H (Nw.refl sm) (.bl _)⟩
 | _=>cases e
section
variable {Γ:List Fl} {ta tb:TE} {fa fb:XF} {K:PySem.W.Frag}
theorem FwL.get{c:Ctx}{Hb H:Hp}:∀ {as:List Addr} {vs:List V} {ds:List D} {j:Nat} {d:D},FwL c Hb H as vs ds→ds[j]? = some d→∃v bs,vs[j]? = some v∧Fw c Hb H bs v d
 | _,_,_,_,_,.nil,e=>by simp at e
 | _,_,_,0,_,.cons h _,e=>by simp at e;subst e;exact⟨_,_,rfl,h⟩
 | _,_,_,j+1,_,.cons _ t,e=>by
  obtain⟨v,bs,h1,h2⟩:=FwL.get (j:=j) t (by simpa using e)
  exact⟨v,bs,by simpa using h1,h2⟩
theorem FwL.len{c:Ctx}{Hb H:Hp}:∀ {as:List Addr} {vs:List V} {ds:List D},FwL c Hb H as vs ds→vs.length=ds.length
 | _,_,_,.nil=>rfl
 | _,_,_,.cons _ t=>by simp[FwL.len t]
theorem aeN{c:Ctx}{Hb H:Hp}{as:List Addr}{xs:List V}{ds:List D}{i:Int}{d:D}(r:FwL c Hb H as xs ds)(e:atI ds i=some d):∃v bs,atI xs i=some v∧Fw c Hb H bs v d:=by
 unfold atI at e ⊢
 obtain⟨j,e1,e2⟩:=zo e
 obtain⟨v,bs,hv,rv⟩:=r.get e2
 exact⟨v,bs,by rw[r.len,e1];exact hv,rv⟩
theorem agG(ha:RfX Γ ta fa)(hb:RfE Γ tb fb):RfX Γ (tOp (v9 K) ta tb) (xOp ixD fa fb):=fun c Hb H env g σ d g' R e Q q=>by
 obtain⟨p,e1,e⟩:=zo e
 obtain⟨p2,e2,e⟩:=zo e
 obtain⟨d2,e3,e⟩:=zo e
 cases e
 refine ha c Hb H env g σ p.1 p.2 R e1 _ fun v Hb1 H1 G1 R1 r1=>hb c Hb1 H1 env p.2 σ p2.1 p2.2 R1 e2 _ fun u Hb2 H2 G2 R2 r2=>?_
 rcases r1.grow R1 G2 with h | ⟨as,h⟩
 ·exact yj c Hb2 H2 v u p.1 p2.1 d R2.ext (.inl h) (.inl r2) e3 _ fun z Hb3 H3 w3 r3=>q z Hb3 H3 ((G1.trans G2).trans w3.gr) (w3.rel R2) (.inl r3)
 ·have e4:=e3
  unfold ixD at e4
  split at e4
  ·rename_i ds i h1 h2
   rw[h1] at h
   rw[h2] at r2
   cases r2
   cases h with
   | sc r _=>cases r
   | lst k1 k2 k3 k4 =>
    obtain⟨z,bs,y1,y2⟩:=aeN k4 e4
    exact .inl ⟨_,_,_,z,rfl,rfl,SqL.of k1,y1,q z Hb2 H2 (G1.trans G2) R2 (.inr ⟨bs,y2⟩)⟩
  ·rename_i ds i h1 h2
   rw[h1] at h
   rw[h2] at r2
   cases r2
   cases h with
   | sc r _=>cases r
   | tup k1 k2 k4 =>
    obtain⟨z,bs,y1,y2⟩:=aeN k4 e4
    exact .inr ⟨_,_,_,z,rfl,rfl,.inl (.inr ⟨_,R2.ext _ _ k1⟩),y1,q z Hb2 H2 (G1.trans G2) R2 (.inr ⟨bs,y2⟩)⟩
  ·cases e4
end
end KP
set_option autoImplicit false
namespace KP
open PySem PySem.Spec PyProof.Rows L2 KPX LamX
section
variable [TheW]
section
variable {P:Addr} {Γ:List Fl} {te:TE} {t:TS} {f:SF}
end
end
end KP
namespace KP
open PySem PySem.Spec PyProof.Rows L2
section
variable [TheW]
section
variable {Γ Γ' Γk:List Fl} {tk tv tw:TE} {ta tb:TS} {fk fv fw:XF} {fa fb:SF} {K:PySem.W.Frag}
end
end
end KP
namespace KPC
open PySem PySem.Spec PyProof.Rows L2
variable [KP.TheW]
section
variable {X:Cx}
end
end KPC
namespace KP
open PySem PySem.Spec PyProof.Rows L2 KPC
variable [TheW]
section
variable {Γ Γ0 Γ1 Γ2 Γ3:List Fl} {wi wi1:TI} {g g1:TG} {tt tt1:TT} {tk tv:TE} {fi fi1:IF} {h h1:GF} {t t1:BF} {fk fv:XF} {vs vs1 is is1:List Nat}
end
end KP
set_option maxHeartbeats 4000000
namespace KP
open PySem PySem.Spec PyProof.Rows L2
section
variable [TheW]
section
variable {X:Cx}
end
end
section
variable [TheW]
section
variable {c:Ctx} {Hb H:Hp}
end
section
variable {Γ Γk:List Fl} {K:PySem.W.Frag}
end
end
section
variable [TheW]
def IO(kvs:List KX)(k:List Key)(b:Addr)(v:V):List KX:=if kvs.any (fun p=>decide (p.1=k)) then kvs.map (fun p=>if p.1=k then(p.1,p.2.1,v) else p) else kvs++[(k,b,v)]
def WP(kvs ps:List KX):List KX:=ps.foldl (fun acc p=>IO acc p.1 p.2.1 p.2.2) kvs
theorem aaL(kvs:List KX)(k:List Key)(b:Addr)(v:V):(IO kvs k b v).length≤kvs.length+1:=by
 unfold IO
 split <;> simp
theorem We:∀(ps kvs:List KX),(WP kvs ps).length≤kvs.length+ps.length
 | [],kvs=>Nat.le_refl _
 | p::ps,kvs=>by
  have h1:=We ps (IO kvs p.1 p.2.1 p.2.2)
  have h2:=aaL kvs p.1 p.2.1 p.2.2
  show(WP (IO kvs p.1 p.2.1 p.2.2) ps).length≤_
  rw[List.length_cons]
  omega
theorem wK.any{k:List Key}:∀ {kvs:List KX} {xs:List (List Key×Addr×Value)},wK kvs xs→(kvs.any fun p=>decide (p.1=k))=(atKey xs k).isSome
 | _,_,.nil=>rfl
 | _,_,.cons (a:=p) (b:=q) (l₁:=ps) (l₂:=qs) h t=>by
  have ih:=wK.any (k:=k) t
  obtain⟨j,b,v⟩:=p
  obtain⟨j2,b2,u⟩:=q
  cases(show j=j2 from h.1)
  by_cases e:j=k
  ·subst e
   simp[atKey]
  ·have e2:atKey ((j,b2,u)::qs) k=atKey qs k:=by simp[atKey,e]
   rw[e2,←ih,List.any_cons,decide_eq_false e,Bool.false_or]
theorem wK.mapPut{k:List Key}{v:V}{u:Value}(rv:L2.RelV v u):∀ {kvs:List KX} {xs:List (List Key×Addr×Value)},wK kvs xs→wK (kvs.map fun p=>if p.1=k then(p.1,p.2.1,v) else p) (xs.map (putAt k u))
 | _,_,.nil=>.nil
 | _,_,.cons (a:=p) (b:=q) h t=>by
  refine .cons ?_ (wK.mapPut rv t)
  obtain⟨j,b,v'⟩:=p
  obtain⟨j2,b2,u'⟩:=q
  cases(show j=j2 from h.1)
  unfold putAt
  dsimp only
  by_cases e:j=k
  ·rw[if_pos e,if_pos e]
   exact⟨rfl,h.2.1,rv⟩
  ·rw[if_neg e,if_neg e]
   exact h
theorem wK.app:∀ {kvs:List KX} {xs:List (List Key×Addr×Value)} {kvs':List KX} {xs':List (List Key×Addr×Value)},wK kvs xs→wK kvs' xs'→wK (kvs++kvs') (xs++xs')
 | _,_,_,_,.nil,r=>r
 | _,_,_,_,.cons h t,r=>.cons h (wK.app t r)
theorem wK.put{k:List Key}{b:Addr}{v:V}{u:Value}{kvs:List KX}{xs:List (List Key×Addr×Value)}(r:wK kvs xs)(rv:L2.RelV v u):wK (IO kvs k b v) (storedH xs k b u):=by
 unfold IO storedH
 rw[r.any]
 split
 ·exact wK.mapPut rv r
 ·exact wK.app r (.cons ⟨rfl,rfl,rv⟩ .nil)
theorem wK.merge:∀ {ps:List KX} {ys:List (List Key×Addr×Value)} {kvs:List KX} {xs:List (List Key×Addr×Value)},wK ps ys→wK kvs xs→wK (WP kvs ps) (storedAllH xs ys)
 | _,_,_,_,.nil,r=>r
 | _,_,_,_,.cons (a:=p) (b:=q) h t,r=>by
  obtain⟨j,b,v⟩:=p
  obtain⟨j2,b2,u⟩:=q
  cases(show j=j2 from h.1)
  cases(show b=b2 from h.2.1)
  have:=wK.merge t (r.put (k:=j) (b:=b) h.2.2)
  exact this
inductive RpEX(H:Hp):List KX→List (D×D)→Prop
 | nil:RpEX H [] []
 | cons {k:List Key} {b:Addr} {v:V} {vs:List KX} {d:D} {ds:List (D×D)}:Yh H b k→Rp H v d→RpEX H vs ds→RpEX H ((k,b,v)::vs) ((.tuple (k.map kD),d)::ds)
theorem RpEX.x{H:Hp}:∀ {kvs:List KX} {ds:List (D×D)},RpEX H kvs ds→RpX H kvs (ds++[(.none,.none)])
 | _,_,.nil=>.nil
 | _,_,.cons h0 h t=>.cons h0 h t.x
theorem RpX.e{H:Hp}:∀ {kvs:List KX} {ds:List (D×D)},RpX H kvs ds→ds=ds.dropLast++[(.none,.none)]∧RpEX H kvs ds.dropLast
 | _,_,.nil=>⟨rfl,.nil⟩
 | _,_,.cons (ds:=ds) h0 h t=>by
  obtain⟨e1,e2⟩:=t.e
  have ne:ds≠[]:=fun z=>by rw[z] at e1;simp at e1
  rw[List.dropLast_cons_of_ne_nil ne]
  exact⟨by rw[List.cons_append,←e1],.cons h0 h e2⟩
theorem RpEX.len{H:Hp}:∀ {kvs:List KX} {ds:List (D×D)},RpEX H kvs ds→kvs.length=ds.length
 | _,_,.nil=>rfl
 | _,_,.cons _ _ t=>by rw[List.length_cons,List.length_cons,t.len]
theorem RpEX.anyX{H:Hp}{k:List Key}:∀ {kvs:List KX} {ds:List (D×D)},RpEX H kvs ds→(kvs.any fun p=>decide (p.1=k))=ds.any fun p=>decide (QD p.1=some k)
 | _,_,.nil=>rfl
 | _,_,.cons (k:=j) h0 h t=>by
  have ej:QD (.tuple (j.map kD))=some j:=W5 j
  rw[List.any_cons,List.any_cons,t.anyX,ej]
  congr 1
  rw[decide_eq_decide]
  exact⟨fun e=>congrArg some e,fun e=>Option.some.inj e⟩
theorem RpEX.mapX{H:Hp}{k:List Key}{v:V}{d:D}(r:Rp H v d):∀ {kvs:List KX} {ds:List (D×D)},RpEX H kvs ds→RpEX H (kvs.map fun p=>if p.1=k then(p.1,p.2.1,v) else p) (ds.map fun p=>if QD p.1=some k then(p.1,d) else p)
 | _,_,.nil=>.nil
 | _,_,.cons (k:=j) h0 h t=>by
  have ej:QD (.tuple (j.map kD))=some j:=W5 j
  rw[List.map_cons,List.map_cons]
  dsimp only
  rw[ej]
  by_cases e:j=k
  ·rw[if_pos e,if_pos (by rw[e])]
   exact .cons h0 r (t.mapX r)
  ·rw[if_neg e,if_neg (fun z=>e (Option.some.inj z))]
   exact .cons h0 h (t.mapX r)
theorem RpEX.app{H:Hp}:∀ {kvs:List KX} {ds:List (D×D)} {kvs':List KX} {ds':List (D×D)},RpEX H kvs ds→RpEX H kvs' ds'→RpEX H (kvs++kvs') (ds++ds')
 | _,_,_,_,.nil,r=>r
 | _,_,_,_,.cons h0 h t,r=>.cons h0 h (t.app r)
theorem RpEX.put{H:Hp}{k:List Key}{b:Addr}{v:V}{d:D}{kvs:List KX}{ds:List (D×D)}(t:RpEX H kvs ds)(hk:Yh H b k)(r:Rp H v d):RpEX H (IO kvs k b v) (ah3 k d ds):=by
 unfold IO ah3
 rw[t.anyX (k:=k)]
 split
 ·exact t.mapX r
 ·exact t.app (.cons hk r .nil)
def acO(acc:List (D×D))(rows:List (List Key×D)):List (D×D):=rows.foldl (fun acc r=>ah3 r.1 r.2 acc) acc
def agH(rows:List (List Key×D)):D:=.dict (acO [] rows++[(.none,.none)])
theorem RpEX.merge{H:Hp}:∀ {ps:List KX} {rows:List (List Key×D)} {kvs:List KX} {ds:List (D×D)},Paired (fun(p:KX) (r:List Key×D)=>p.1=r.1∧Yh H p.2.1 p.1∧Rp H p.2.2 r.2) ps rows→RpEX H kvs ds→RpEX H (WP kvs ps) (acO ds rows)
 | _,_,_,_,.nil,r=>r
 | _,_,_,_,.cons (a:=p) (b:=q) h t,r=>by
  obtain⟨j,b,v⟩:=p
  obtain⟨j2,d⟩:=q
  cases(show j=j2 from h.1)
  have:=RpEX.merge t (r.put h.2.1 h.2.2)
  exact this
section
variable {X:Cx}
end
section
variable {Γ Γ' Γk:List Fl} {te tk tv ty:TE} {f fk fv fy:XF} {K:PySem.W.Frag}
end
section
variable {Γ:List Fl} {te:TE} {tr:TA} {f:RF}
end
theorem ZB{Γ Γk:List Fl}{ta:TA}{fa:LF}{f1 f2:Fl}{i j:Nat}(ha:aeK [f1,f2] Γ ta fa)(hi:i<Γ.length)(hj:j<Γ.length)(hij:i≠j)(h0:Qz Γ [i,j]=true)(hb1:f1≠.bg)(hb2:f2≠.bg) :
  RfS Γ (acN [i,j] [f1,f2] Γ) Γk (tPar i j ta) (JC [i,j] fa):=fun c Hb H env g σ r R e Dn w=>by
 obtain⟨p,e1,e⟩:=zo e
 cases e
 refine ha c Hb H env g σ p.1 p.2 R e1 _ fun vs Hb1 H1 G1 R1 row=>?_
 have q:=aeL (g:=p.2) [i,j] row rfl (by simpa using hij) (fun k hk=>by
  simp only[List.mem_cons,List.not_mem_nil,or_false] at hk
  rcases hk with rfl | rfl
  ·exact hi
  ·exact hj) (fun k hk z=>jm h0 z hk) (fun f hf=>by
  simp only[List.mem_cons,List.not_mem_nil,or_false] at hf
  rcases hf with rfl | rfl
  ·exact hb1
  ·exact hb2) R1 (fun k a oa=>RfN.old R G1 oa) (fun σ' H'=>Dn.nx σ' H') fun σ' R'=>w Hb1 _ σ' G1.b R'
 obtain⟨v1,r1,rfl,v2,r2,rfl,rfl,q⟩:=q
 exact⟨v1,v2,rfl,q⟩
end
section
variable [TheW]
section
variable {Γ Γ0 Γ1:List Fl} {wi:TI} {g:TG} {tt:TT} {tk tv:TE} {fi:IF} {h:GF} {t:BF} {fk fv:XF} {vs is:List Nat}
theorem ahW{W:Hp→V→D→Prop}(hi:RfI W Γ wi fi)(hg:RfG W Γ0 Γ1 is g h)(ht:RfT Γ1 tt t)(hk:RfE Γ1 tk fk)(hv':RfE Γ1 tv fv)(k0:Qh Γ Γ0 vs=true)(h0:Qz Γ vs=true)(hv:∀i∈is,i∈vs):RfD 1 Γ (tDc wi g tt tk tv vs) (abN fi h t fk fv vs):=fun c Hb H env bag σ d g' R e Q q=>by
 obtain⟨p,e1,e⟩:=zo e
 split at e
 ·rename_i hz
  obtain⟨r,e2,e⟩:=zo e
  cases e
  refine hi c Hb H env bag σ p.1 p.2 R e1 _ fun J Hb1 H1 G1 R1 it Dd hD=>?_
  refine acD (PO:=fun Hb o acc=>∃kvs,o=.dK kvs∧RpK Hb kvs acc) (G:=fun D y z H5 Nx=>∃kvs k,y=kV k∧H5 D=some (.dK kvs)∧kvs.length<sizeLine∧Nx (upd H5 D (.dK (putK kvs k z)))) (Qx:=fun H=>Q (V.ref Dd) H) (Vk:=Rp) hg ht hk (fun _ _ _ _ r s=>r.same s) hv' k0 h0 hv (fun Hb Hb' o acc ⟨kvs,e,rk⟩ sm=>⟨kvs,e,RpK.mono sm acc kvs rk⟩) (fun k d acc acc' e=>?_) (fun Hb H5 y z k d acc acc' o Nx sm hx hpo hl rk rz hpt nx=>?_) R1 it hD hz ⟨[],rfl,.nil⟩ e2 fun Hb2 H2 o G2 R2 hx hb hpo off=>?_
  ·obtain⟨kk,_,e⟩:=zo e
   cases e
   exact YL _ _ _
  ·obtain⟨kk,y1,e⟩:=zo hpt
   cases e
   obtain⟨kvs,rfl,rkk⟩:=hpo
   have:=wL y1
   subst this
   have ey:y=kV kk:=Vs (c:=c) (H:=H5) (.inl rk)
   exact⟨kvs,kk,ey,hx,by rw[wA rkk];exact hl,nx _ ⟨_,rfl,W8 kk rz rkk⟩⟩
  ·obtain⟨kvs,rfl,rkk⟩:=hpo
   exact q (.ref Dd) [Dd] Hb2 H2 (G1.trans G2) R2 (.dK hx hb (R1.dom Dd hD) (by simp) (Z8 rkk)) fun a ha=>by
    rw[List.mem_singleton.mp ha]
    exact G1.d _ hD
 ·cases e
end
section
variable {Γ Γ' Γk:List Fl} {te tk tv ty tx:TE} {f fk fv fy fx:XF} {K:PySem.W.Frag}
theorem ahk{fl:Fl}{i:Nat}(h:abZ fl Γ te f)(hi:i<Γ.length)(h0:Γ[i]? ≠ some .bg)(hb:fl≠.bg):RfS Γ (Γ.set i fl) Γk (tAsg te (gName i)) (z9 i f):=fun c Hb H env g σ r R e Dn w=>by
 obtain⟨p,e1,e⟩:=zo e
 cases e
 refine h c Hb H env g σ p.1 p.2 R e1 _ fun v Hb1 H1 G1 R1 s n=>?_
 exact w Hb1 H1 _ G1.b (R1.setOf s hb hi h0 fun j a _ ow oa=>RfN.old R G1 oa (n a ow))
def aeO(K:PySem.W.Frag)(ta:TE):TE:=fun σ H Q=>ta σ H fun x H1=>∃(l:Addr) (ks:List Key),x=.ref l∧(SqL K H1 l (ks.map kV)∨SqT K H1 l (ks.map kV))∧ks.length≤1000 ∧
 ∀z,H1 z=none→Q (.ref z) (upd H1 z (abC z fun j=>ks.any fun k=>decide (j=k)))
theorem aeP{X:Cx}{a:Expr}{ta:TE}{p2 q:Pos}[Tied X.prog X.w](hc:X.calm=true)(hg2:Gl X "set")(hm2:X.mg "set" = none)(ha:PE X a ta)
  (na:starEach [a] X.env=(false,eval a X.env)::starEach [] X.env:=by rfl):PE X (.Call (.Name "set" p2) [a] [] q) (aeO X.K ta):=by
 refine⟨fun pins s σ H Q I h=>?_⟩
 refine Call_ (ld_blt I hg2 hm2 PyProof.Rows.boot_set ?_)
 refine PyProof.Rows.callWith_type1 (PyProof.Rows.args_cons (thn (ha.run pins s σ H _ I h) fun v s1 ⟨x,H1,I1,r1,q1⟩=>PyProof.Rows.args_nil ?_) na) na rfl
 obtain⟨l,ks,rfl,hq,hl,q1⟩:=q1
 cases r1
 obtain⟨its,rv,pl,_⟩:=aen I1 hq
 have hlen:its.toArray.size=ks.length:=by rw[List.size_toArray,←rv.length,List.length_map]
 refine Wc ks (I1.ok.hd hc) pl hlen (fun i v hv=>IC rv i v (by simpa using hv)) (by unfold scanBound;omega) fun h' tk c R hcl hk=>?_
 have hn:=I1.hok.fresh (Nat.le_refl s1.heap.objs.size)
 have ho:∃o,h'.get? s1.heap.objs.size=some o:=by
  obtain⟨o,es,ep,t,ho,_⟩:=R
  exact⟨o,ho⟩
 have new:∀H',ObjOk X.prog X.w H' h' s1.heap.objs.size (abC s1.heap.objs.size fun j=>ks.any fun k=>decide (j=k)):=fun H'=>⟨⟨h',c,by rw[Tied.st (P:=X.prog) (w:=X.w)];exact R,fun o e=>e⟩,ho,fun h1 h2 ⟨h0,n,y1,y2⟩ k=>⟨h0,n,y1,fun o e=>k o (y2 o e)⟩⟩
 exact⟨.ref s1.heap.objs.size,_,I1.laid (t':=tk) hk (Nat.le_refl _) (new _),rfl,q1 _ hn⟩
def ac1(d:D):Option D:=(y9 d).bind fun ds=>(YH ds).bind fun ks=>if decide (ks.length≤1000) then some (.list (ks.map kD)) else none
def IP(f:XF):XF:=fun env g=>(f env g).bind fun p=>(ac1 p.1).bind fun d=>some (d,p.2)
theorem ag2(h:RfB Γ te f):abZ .st Γ (aeO K te) (IP f):=fun c Hb H env g σ d g' R e Q q=>by
 obtain⟨p,e1,e⟩:=zo e
 obtain⟨d2,e2,e⟩:=zo e
 cases e
 obtain⟨ds,e3,e4⟩:=zo e2
 obtain⟨ks,e5,e6⟩:=zo e4
 split at e6
 ·rename_i hc
  have hc:=of_decide_eq_true hc
  cases e6
  have ed:=JA e5
  subst ed
  refine h c Hb H env g σ p.1 p.2 R e1 _ fun v Hb1 H1 G1 R1 r1=>?_
  have fin:∀(l:Addr) (xs:List V),(SqL K H1 l xs∨SqT K H1 l xs)→RpL Hb1 xs (ks.map kD)→v=.ref l→∃(l:Addr) (ks':List Key),v=.ref l∧(SqL K H1 l (ks'.map kV)∨SqT K H1 l (ks'.map kV))∧ks'.length≤1000∧∀z,H1 z=none→Q (.ref z) (upd H1 z (abC z fun j=>ks'.any fun k=>decide (j=k))):=fun l xs h1 h2 ev=>by
   have ex:=Vp h2
   subst ex
   refine⟨l,ks,ev,h1,hc,fun z hz=>?_⟩
   have w:=Nw.newOwn (o:=abC z fun j=>ks.any fun k=>decide (j=k)) R1.ext hz
   refine q (.ref z) Hb1 _ (G1.trans w.gr) (w.rel R1) ⟨z,ks,rfl,rfl,upd_same,R1.ext.free hz,R1.dom z hz⟩ fun a ha=>?_
   cases(show V.ref z=V.ref a from ha)
   exact G1.d z hz
  rcases ww e3 with z | z
  ·rw[z] at r1
   rcases r1 with r1 | ⟨l,xs,ds2,rfl,ed2,h3,h6,_⟩
   ·cases r1 with
    | lst a b=>exact fin _ _ (.inl (SqL.of (R1.ext _ _ a))) b rfl
   ·cases ed2
    exact fin _ _ (.inl (SqL.of h3)) h6 rfl
  ·rw[z] at r1
   rcases r1 with r1 | ⟨l,xs,ds2,rfl,ed2,_⟩
   ·cases r1 with
    | tup a hd b=>exact fin _ _ (.inr (.inl (.inr ⟨_,R1.ext _ _ a⟩))) b rfl
   ·cases ed2
 ·cases e6
def acP:List V→Hp→VK→Prop:=fun xs H Q=>∃(p:Addr) (ks:List Key),xs=[.ref p]∧H p=some (abC p fun j=>ks.any fun k=>decide (j=k))∧jF ks=true∧ks.length≤1000∧∀z,H z=none→Q (.ref z) (upd H z (.lst ((wq ((ddK ks).map kD)).map dV)))
theorem adC{X:Cx}[Tied X.prog X.w](hc:X.calm=true)(hu:X.A.units+100<cLine):CallR X (.builtin "sorted") acP:=by
 intro pins s σ H xs us Q I r h
 obtain⟨p,ks,rfl,hp,hal,hl,q⟩:=h
 rw[Vals.ref1 r]
 obtain⟨⟨h0,n,y1,y2⟩,⟨o0,ho0⟩,_⟩:=(show ObjOk X.prog X.w H s.heap p (abC p fun j=>ks.any fun k=>decide (j=k)) from I.hok p _ hp)
 have R:Jl X.w s.heap p (fun j=>Vo j ks) n:=by
  have y1:Jl X.w h0 p (fun j=>ks.any fun k=>decide (j=k)) n:=by rw[←Tied.st (P:=X.prog) (w:=X.w)];exact y1
  exact y1.at y2
 refine YI R (I.ok.hd hc) (by omega) (jW ks) (fun k=>by rw[Qj,wM]) ?_ fun s3 h3 out c0 k g o k3 hg' hv=>?_
 ·simp only[jF,List.all_eq_true] at hal ⊢
  exact fun x hx y hy=>hal x (wM.mp hx) y (wM.mp hy)
 have hlen2:((wq ((ddK ks).map kD)).map dV).length≤sizeLine:=by
  obtain⟨o,es,ep,t,ho,hex,hd,g,nd,hm',hb,hf,hsz,hr,hl'⟩:=R
  have p1:(es.toList.map fun e=>jt e.2).Perm (ddK ks):=(List.perm_ext_iff_of_nodup nd (jW ks)).mpr fun k=>by rw[←hm' k,Qj,wM]
  rw[List.length_map,(wy _).length_eq,List.length_map,←p1.length_eq,List.length_map,Array.length_toList]
  exact fits_of_scanBound hb
 have I3:Inv X pins σ H s3:=I.call' (ch:=[]) o (Un.kept k) (I.hok.kept k) (by rw[g];exact I.bare) (fun _ z=>nomatch z)
 exact⟨.ref s3.heap.objs.size,_,I3.laid (t':=s3.toks) (o:=.lst ((wq ((ddK ks).map kD)).map dV)) k3 (Nat.le_refl _) ⟨hlen2,out,c0,hv,hg'⟩,rfl,q _ (I3.hok.fresh (Nat.le_refl _))⟩
theorem aeQ{i:Nat}(hi:Γ[i]? = some .st):RfN Γ (tCB acP (tCons (tVar i) tNil)) (vS (xV i)):=fun c Hb H env g σ d g' R e Q q=>by
 obtain⟨p,e1,e⟩:=zo e
 obtain⟨zs,e2,e⟩:=zo e
 cases e
 obtain⟨ds,e3,e4⟩:=zo e2
 obtain⟨ks,e5,e6⟩:=zo e4
 split at e6
 ·rename_i hc
  simp only[Bool.and_eq_true,decide_eq_true_eq] at hc
  cases e6
  have ed:=JA e5
  subst ed
  obtain⟨x1,x2⟩:=jl (show xV i env g=some (p.1,p.2) from e1)
  obtain⟨fl,v,y1,y2,y3⟩:=R.slot i _ x1
  rw[hi] at y1;cases y1
  obtain⟨pa,ks2,rfl,ed2,h1,h2,h3⟩:=y3
  rw[ed2] at e3
  have e7:=Option.some.inj e3
  have:ks2=ks:=by
   have h4:=W5 ks2
   rw[e7,e5] at h4
   exact(Option.some.inj h4).symm
  subst this
  refine⟨.ref pa,y2,pa,ks2,rfl,h1,hc.1,hc.2,fun z hz=>?_⟩
  have w:=Nw.newOwn (o:=.lst ((wq ((ddK ks2).map kD)).map dV)) R.ext hz
  rw[←x2] at R
  refine q z _ _ Hb _ w.gr (w.rel R) rfl upd_same (R.ext.free hz) hz (R.dom z hz) (aeo fun d hd=>?_)
  obtain⟨k,_,rfl⟩:=List.mem_map.mp ((wy _).mem_iff.mp hd)
  exact⟨k,rfl⟩
 ·cases e6
def acQ(fd fy fx:XF):XF:=fun env g=>(fd env g).bind fun p=>(Wd p.1).bind fun _=>(fy env p.2).bind fun y=>(fx env y.2).bind fun z=>(JU p.1 y.1).bind fun o=>some (o.getD z.1,z.2)
theorem aeR{Hb H:Hp}{v:V}{ds:List (D×D)}{y:D}{o:Option D}(sm:Same Hb H)(r:Rp Hb v (.dict ds))(e:JU (.dict ds) y=some o):∃a,v=.ref a∧IsD H a:=by
 unfold JU at e
 dsimp only at e
 cases r with
 | @dK a ob kvs _ ha rk=>exact⟨a,rfl,.inl ⟨kvs,.inr ⟨ob,sm _ _ ha⟩⟩⟩
 | @dT a ob kvs _ ha rk =>
  rw[YJ rk,if_pos rfl] at e
  cases e
 | dX ha hx rk =>
  rw[YK rk,if_pos rfl] at e
  cases e
theorem ahl(hd:RfE Γ te f)(hy:RfE Γ ty fy)(hx:RfE Γ tx fx):RfE Γ (tDGet2 te ty tx) (acQ f fy fx):=fun c Hb H env g σ d g' R e Q q=>by
 obtain⟨p,e1,e⟩:=zo e
 obtain⟨ds,e2,e⟩:=zo e
 obtain⟨y,e3,e⟩:=zo e
 obtain⟨z,e4,e⟩:=zo e
 obtain⟨o,e5,e⟩:=zo e
 cases e
 refine hd c Hb H env g σ p.1 p.2 R e1 _ fun v Hb1 H1 G1 R1 r1=>?_
 have ed:=ju e2
 rw[ed] at r1 e5
 obtain⟨a,rfl,isd⟩:=aeR R1.ext r1 e5
 refine⟨a,rfl,isd,hy c Hb1 H1 env p.2 σ y.1 y.2 R1 e3 _ fun vy Hb2 H2 G2 R2 r2=>hx c Hb2 H2 env y.2 σ z.1 z.2 R2 e4 _ fun vz Hb3 H3 G3 R3 r3=>?_⟩
 obtain⟨a2,r,ea,g3,lk⟩:=W6 (c:=c) R3.ext (.inl ((r1.same G2.b).same G3.b)) (.inl (r2.same G3.b)) e5
 cases ea
 have g3:DGet H3 a vy r:=by
  rcases g3 with g3 | ⟨kvs,k,b,hx,_,_,_⟩
  ·exact g3
  ·exfalso
   have rr:=(r1.same G2.b).same G3.b
   unfold JU at e5
   dsimp only at e5
   cases rr with
   | @dK _ ob kvs2 _ ha rk =>
    have hh:=R3.ext _ _ ha
    rcases hx.1 with⟨_,h1,_⟩ | h1
    ·rw[hh] at h1;cases h1
    ·rw[hh] at h1;cases h1
   | @dT _ ob kvs2 _ ha rk =>
    rw[YJ rk,if_pos rfl] at e5
    cases e5
   | dX ha hx rk =>
    rw[YK rk,if_pos rfl] at e5
    cases e5
 cases o with
 | none =>
  have hr:r=none:=lk
  subst hr
  exact⟨none,g3,q vz Hb3 H3 ((G1.trans G2).trans G3) R3 r3⟩
 | some d2 =>
  obtain⟨v2,rfl,rv⟩:=lk
  exact⟨some v2,g3,q v2 Hb3 H3 ((G1.trans G2).trans G3) R3 rv⟩
def IQ:D→Option (List D)
 | .dict ds=>if isT ds then none else some (ds.map fun p=>.tuple [p.1,p.2])
 | _=>none
def Ue(f:XF):IF:=fun env g=>(f env g).bind fun p=>(IQ p.1).bind fun ds=>some (ds,p.2)
theorem ahm{H:Hp}{i:Nat}:∀ {kvs:List (Key×V)} {ds:List (D×D)} {k:Key} {v:V},RpK H kvs ds→kvs[i]? = some (k,v)→∃d,ds[i]? = some (kD k,d)∧Rp H v d:=by
 induction i with
 | zero =>
  intro kvs ds k v r e
  cases r with
  | nil=>simp at e
  | cons h t=>simp at e;exact⟨_,by simp[e.1],e.2▸h⟩
 | succ i ih =>
  intro kvs ds k v r e
  cases r with
  | nil=>simp at e
  | cons h t=>simpa using ih t (by simpa using e)
theorem ac2{Hb:Hp}{a:Addr}{o:Obj}{kvs:List (Key×V)}{ds:List (D×D)}(h:Hb a=some (.frz o (.dK kvs)))(r:RpK Hb kvs ds):ItOk RpW Hb (Iti a o kvs) (ds.map fun p=>.tuple [p.1,p.2]) where
 go:=fun i H e hi=>⟨e _ _ h,by rw[wA r];simpa using hi⟩
 yld:=fun i H Hb2 x H' d e1 e2 y hd=>by
  obtain⟨T,k,v,hk,rfl,hT,rfl⟩:=y
  obtain⟨dv,h1,rv⟩:=ahm r hk
  rw[List.getElem?_map,h1] at hd
  cases hd
  have w:=Nw.new (o:=.tup [kV k,v]) e2 hT
  refine⟨_,w,.inr ⟨T,_,_,rfl,rfl,upd_same,.cons ?_ (.one ((rv.same e1).same w.b))⟩⟩
  cases k with
  | inl i=>exact .int i
  | inr i=>exact .str i
 stop:=fun i H e hi=>⟨e _ _ h,by rw[wA r];simpa using hi⟩
theorem ag3(h:RfE Γ te f):RfI RpW Γ (iItems te) (Ue f):=fun c Hb H env g σ ds g' R e Q q=>by
 obtain⟨p,e1,e⟩:=zo e
 obtain⟨es,e2,e⟩:=zo e
 cases e
 refine h c Hb H env g σ p.1 p.2 R e1 _ fun v Hb1 H1 G1 R1 r1=>?_
 unfold IQ at e2
 split at e2
 ·rename_i dd hp
  rw[hp] at r1
  cases r1 with
  | @dK a ob kvs _ ha rk =>
   rw[acA rk,if_neg (by simp)] at e2
   cases e2
   exact⟨a,ob,kvs,rfl,R1.ext _ _ ha,q _ Hb1 H1 G1 R1 (ac2 ha rk)⟩
  | @dT a ob kvs _ ha rk =>
   rw[YJ rk,if_pos rfl] at e2
   cases e2
  | dX ha hx rk =>
   rw[YK rk,if_pos rfl] at e2
   cases e2
 ·cases e2
abbrev XM:=Env→D→Option (D×Env×D)
def aeS(Γ:List Fl)(te:TE)(f:XM):Prop:=∀(c:Ctx) (Hb H:Hp) (env:Env) (g:D) (σ:L2.St) (d:D) (env':Env) (g':D),Rel c Γ Hb H env g σ→f env g=some (d,env',g') →
 ∀Q:VK,(∀v Hb' H',Same Hb Hb'→Rel c Γ Hb' H' env' g' σ→Rp Hb' v d→Q v H')→te σ H Q
def J7(j:Nat):XM:=fun env g=>(env[j]?.join.bind Ji).bind fun ds=>(ds[ds.length - 1]?).bind fun d=>some (d,env.set j (some (.list ds.dropLast)),g)
theorem Uf{j:Nat}(hj:Γ[j]? = some .ow):aeS Γ (tBM0 K "list" rPop (tVar j)) (J7 j):=fun c Hb H env g σ d env' g' R e Q q=>by
 obtain⟨ds,e2,e⟩:=zo e
 obtain⟨d,e3,e⟩:=zo e
 cases e
 obtain⟨y0,a,xs,y1,y2,y3,y4,y5⟩:=jd R hj e2
 obtain⟨v,hv,rv⟩:=y5.get _ e3
 refine⟨.ref a,y1,.inl ⟨rfl,xs,SqL.of y2⟩,a,xs,v,rfl,rfl,y2,by rw[y5.length];exact hv,?_⟩
 exact q v Hb _ (Same.refl _) (R.poke hj ⟨_,y0⟩ y1 y3 y4 (by rw[y2];simp) y5.dropLast) rv
def aaM(fd:XF)(m:XM)(fx:XF):XM:=fun env g=>(fd env g).bind fun p=>(Wd p.1).bind fun _=>(m env p.2).bind fun y=>(fx y.2.1 y.2.2).bind fun z=>(JU p.1 y.1).bind fun o=>some (o.getD z.1,y.2.1,z.2)
theorem ag4{m:XM}(hd:RfE Γ te f)(hy:aeS Γ ty m)(hx:RfE Γ tx fx):aeS Γ (tDGet2 te ty tx) (aaM f m fx):=fun c Hb H env g σ d env' g' R e Q q=>by
 obtain⟨p,e1,e⟩:=zo e
 obtain⟨ds,e2,e⟩:=zo e
 obtain⟨y,e3,e⟩:=zo e
 obtain⟨z,e4,e⟩:=zo e
 obtain⟨o,e5,e⟩:=zo e
 cases e
 refine hd c Hb H env g σ p.1 p.2 R e1 _ fun v Hb1 H1 G1 R1 r1=>?_
 have ed:=ju e2
 rw[ed] at r1 e5
 obtain⟨a,rfl,isd⟩:=aeR R1.ext r1 e5
 refine⟨a,rfl,isd,hy c Hb1 H1 env p.2 σ y.1 y.2.1 y.2.2 R1 e3 _ fun vy Hb2 H2 s2 R2 r2=>hx c Hb2 H2 y.2.1 y.2.2 σ z.1 z.2 R2 e4 _ fun vz Hb3 H3 G3 R3 r3=>?_⟩
 have rr:=(r1.same s2).same G3.b
 obtain⟨a2,r,ea,g3,lk⟩:=W6 (c:=c) R3.ext (.inl rr) (.inl (r2.same G3.b)) e5
 cases ea
 have g3:DGet H3 a vy r:=by
  rcases g3 with g3 | ⟨kvs,k,b,hx,_,_,_⟩
  ·exact g3
  ·exfalso
   unfold JU at e5
   dsimp only at e5
   cases rr with
   | @dK _ ob kvs2 _ ha rk =>
    have hh:=R3.ext _ _ ha
    rcases hx.1 with⟨_,h1,_⟩ | h1
    ·rw[hh] at h1;cases h1
    ·rw[hh] at h1;cases h1
   | @dT _ ob kvs2 _ ha rk =>
    rw[YJ rk,if_pos rfl] at e5
    cases e5
   | dX ha hx rk =>
    rw[YK rk,if_pos rfl] at e5
    cases e5
 have sm:=(G1.b.trans s2).trans G3.b
 cases o with
 | none =>
  have hr:r=none:=lk
  subst hr
  exact⟨none,g3,q vz Hb3 H3 sm R3 r3⟩
 | some d2 =>
  obtain⟨v2,rfl,rv⟩:=lk
  exact⟨some v2,g3,q v2 Hb3 H3 sm R3 rv⟩
def jL(i:Nat)(m:XM)(fa:LF):SF:=fun env g=>(m env g).bind fun y=>(fa y.2.1 y.2.2).bind fun p=>(y.2.1[i]?.join.bind Ji).bind fun ds=>if sz ds.length&&sz (p.1.length+1) then some (.nx (y.2.1.set i (some (.list (ds++[.tuple (y.1::p.1)])))) p.2) else none
theorem Xl{i:Nat}{m:XM}{ta:TA}{fa:LF}(hi:Γ[i]? = some .ow)(hs:∀env g d env' g',m env g=some (d,env',g')→env'[i]? = env[i]?)(hm:aeS Γ te m)(ha:RfA Γ ta fa):RfS Γ Γ Γk (tDrop (tBM K "list" rAppend (tVar i) (tCons (yP (tCons te ta)) tNil))) (jL i m fa):=fun c Hb H env g σ r R e Dn w=>by
 obtain⟨y,e1,e⟩:=zo e
 obtain⟨p,e2,e⟩:=zo e
 obtain⟨ds,e3,e⟩:=zo e
 split at e
 ·rename_i hz
  rw[Bool.and_eq_true] at hz
  cases e
  have e3':env[i]?.join.bind Ji=some ds:=by rw[←hs env g y.1 y.2.1 y.2.2 e1];exact e3
  obtain⟨y0,a,xs,y1,y2,y3,y4,y5⟩:=jd R hi e3'
  refine⟨.ref a,y1,.inl ⟨rfl,xs,SqL.of y2⟩,hm c Hb H env g σ y.1 y.2.1 y.2.2 R e1 _ fun v Hb1 H1 s1 R1 r1=>ha c Hb1 H1 y.2.1 y.2.2 σ p.1 p.2 R1 e2 _ fun vs Hb2 H2 G2 R2 r2=>?_⟩
  refine⟨by rw[List.length_cons,r2.length];exact V9 hz.2,fun pa od hp hod=>?_⟩
  have nt:Nw Hb2 H2 (upd Hb2 pa (.frz od (.tup (v::vs)))) (upd H2 pa (.frz od (.tup (v::vs)))):=Nw.new R2.ext hp
  have R3:=nt.rel R2
  obtain⟨z0,a2,ws,z1,z2,z3,z4,z5⟩:=jd R3 hi e3
  rw[y1] at z1;cases z1
  refine⟨a,ws,.ref pa,rfl,rfl,z2,by rw[z5.length];exact Gw hz.1,?_⟩
  have rt:Rp (upd Hb2 pa (.frz od (.tup (v::vs)))) (.ref pa) (.tuple (y.1::p.1)):=.tup upd_same hod (.cons ((r1.same G2.b).same nt.b) (RpL.mono nt.b _ _ r2))
  exact w _ _ σ ((s1.trans G2.b).trans nt.b) (R3.poke hi ⟨_,z0⟩ y1 z3 z4 (by rw[z2];simp) (z5.append (.one rt)))
 ·cases e
end
end
section
variable [TheW]
section
variable {Γ Γ' Γ1 Γb Γk Γk':List Fl} {g:TG} {tb:TS} {h:GF} {body:SF} {is:List Nat} {te tk tv ty tx:TE} {f fk fv fy fx:XF} {K:PySem.W.Frag}
def acR(m:XM)(h:GF)(wp:List Nat)(body:SF):SF:=fun env g=>(m env g).bind fun y=>(y9 y.1).bind fun ds=>wu h wp body ds (zJ y.2.1 wp) y.2.2
theorem ahn{m:XM}(wp:List Nat)(hm:aeS Γ te m)(hg:RfG Rp Γ Γ1 is g h)(hb:RfS Γ1 Γb Γk' tb body)(k0:Qh Γ Γ wp=true)(k1:Qh Γb Γ wp=true)(k2:Qh Γk' Γ wp=true):RfS Γ Γ Γk (tFor (Zi K te) g tb) (acR m h wp body):=fun c Hb H env bag σ r R e Dn w=>by
 obtain⟨y,e1,e⟩:=zo e
 obtain⟨ds,e2,e⟩:=zo e
 refine hm c Hb H env bag σ y.1 y.2.1 y.2.2 R e1 _ fun v Hb1 H1 s1 R1 r1=>?_
 have fin:∀J:It,ItOk Rp Hb1 J ds→∃inv:Nat→Nat→L2.St→Hp→Prop,(∃m,inv 0 m σ H1)∧∀i m σ' H',inv i m σ' H' →
   (J.stop i H'∧Dn.nx σ' H')∨(J.go i H'∧∃Nx:L2.St→Hp→Prop,(∀ σ2 H2,Nx σ2 H2→∃m',m'<m∧inv (i+1) m' σ2 H2)∧∀x H2,J.yld i H' x H2→g x σ' H2 fun σ3 H3=>tb { Dn with nx:=Nx,ct:=Nx,bk:=Dn.nx } σ3 H3):=fun J it=>by
  refine⟨fun i m σ' H'=>m=ds.length - i∧i≤ds.length∧∃Hb' env' g',Same Hb1 Hb'∧Rel c Γ Hb' H' env' g' σ'∧wu h wp body (ds.drop i) env' g'=some r,⟨ds.length,rfl,Nat.zero_le _,Hb1,_,_,Same.refl _,R1.wiped k0,by simpa using e⟩,?_⟩
  rintro i m σ' H' ⟨rfl,hil,Hb',env',g',sm,R',ef⟩
  by_cases hlt:i<ds.length
  ·refine .inr ⟨it.go i H' (sm.trans R'.ext) hlt,?_⟩
   rw[List.drop_eq_getElem_cons hlt] at ef
   obtain⟨env1,y1,ef⟩:=zo ef
   obtain⟨r1,y2,ef⟩:=zo ef
   refine⟨fun σ2 H2=>∃Hb2 e2 g2,Same Hb1 Hb2∧Rel c Γ Hb2 H2 e2 g2 σ2∧wu h wp body (ds.drop (i+1)) e2 g2=some r,fun σ2 H2 ⟨Hb2,e2,g2,q1,q2,q3⟩=>⟨ds.length - (i+1),by omega,rfl,by omega,Hb2,e2,g2,q1,q2,q3⟩,fun x H2 hy=>?_⟩
   obtain⟨Hb2,nw,rx⟩:=it.yld i H' Hb' x H2 _ sm R'.ext hy (List.getElem?_eq_getElem hlt)
   refine hg c Hb2 H2 env' g' σ' x _ env1 (nw.rel R') rx y1 _ fun σ3 R3 _ _=>?_
   refine hb c Hb2 H2 env1 g' σ3 r1 R3 y2 _ ?_
   have s12:Same Hb1 Hb2:=sm.trans nw.b
   cases r1 with
   | nx e2 g2=>exact fun Hb3 H3 σ4 s R4=>⟨Hb3,_,g2,s12.trans s,R4.wiped k1,ef⟩
   | ct e2 g2=>exact fun Hb3 H3 σ4 s R4=>⟨Hb3,_,g2,s12.trans s,R4.wiped k2,ef⟩
   | bk e2 g2 =>
    cases ef
    exact fun Hb3 H3 σ4 s R4=>w Hb3 H3 σ4 (s1.trans (s12.trans s)) (R4.wiped k2)
   | rt d g2 =>
    cases ef
    exact fun v Hb3 H3 s R4 rv=>w v Hb3 H3 (s1.trans (s12.trans s)) R4 rv
  ·have:i=ds.length:=by omega
   subst this
   refine .inl ⟨it.stop _ H' (sm.trans R'.ext) (Nat.le_refl _),?_⟩
   rw[List.drop_length] at ef
   cases ef
   exact w Hb' H' σ' (s1.trans sm) R'
 cases e4:y.1 with
 | list xs =>
  rw[e4] at r1 e2;cases e2
  cases r1 with
  | lst a b=>exact⟨_,rfl,.inl ⟨⟨_,SqL.of (R1.ext _ _ a)⟩,fin _ (Gz a b)⟩⟩
 | tuple xs =>
  rw[e4] at r1 e2;cases e2
  cases r1 with
  | tup a hd b =>
   have tp:W0 Hb1 _ _:=⟨_,a,hd⟩
   exact⟨_,rfl,.inr ⟨⟨_,tp.sq R1.ext⟩,fin _ (aak tp b)⟩⟩
 | none=>rw[e4] at e2;cases e2
 | bool b=>rw[e4] at e2;cases e2
 | int b=>rw[e4] at e2;cases e2
 | str b=>rw[e4] at e2;cases e2
 | dict b=>rw[e4] at e2;cases e2
def Xm(neg:Bool)(i:Nat)(fy:XF):XF:=fun env g=>(fy env g).bind fun y=>(xV i env y.2).bind fun x=>(Wd x.1).bind fun ds=>(vV y.1).bind fun k=>some (.bool (if neg then !(yY k ds).isSome else(yY k ds).isSome),y.2)
theorem aeT{neg:Bool}{i:Nat}(hi:Γ[i]? = some (.od 1))(hy:RfE Γ ty fy):RfE Γ (tOp (aau neg) ty (tVar i)) (Xm neg i fy):=fun c Hb H env g σ d g' R e Q q=>by
 obtain⟨y,e1,e⟩:=zo e
 obtain⟨x,e2,e⟩:=zo e
 obtain⟨ds,e3,e⟩:=zo e
 obtain⟨k,e4,e⟩:=zo e
 cases e
 obtain⟨x1,_⟩:=jl (show xV i env y.2=some (x.1,x.2) from e2)
 rw[ju e3] at x1
 refine hy c Hb H env g σ y.1 y.2 R e1 _ fun u Hb1 H1 G1 R1 r1=>?_
 obtain⟨p,kvs,z2,h1,_,_,h4,_⟩:=Zy hi R1 x1
 rw[wL e4] at r1
 have ek:u=kV k:=Vs (c:=c) (H:=H1) (.inl r1)
 refine⟨.ref p,z2,p,valV kvs k,rfl,.inl (.inl ⟨kvs,k,.inl h1,ek,rfl⟩),?_⟩
 have:(valV kvs k).isSome=(yY k ds).isSome:=by
  rcases ZT k h4 with⟨y1,y2⟩ | ⟨v,d2,y1,y2,_⟩
  ·rw[y1,y2];rfl
  ·rw[y1,y2];rfl
 rw[this]
 exact q _ Hb1 H1 G1 R1 (.bl _)
end
def Xn(i:Nat)(ks:List Nat):SF:=fun env g=>(xV i env g).bind fun x=>(atP ks x.1).bind fun _=>some (.nx (env.set i (some (IK [] ks x.1))) g)
theorem aaN{i:Nat}{ks:List Nat}{env:Env}{g x:D}{es:List D}(h0:env[i]? = some (some x))(h2:atP ks x=some es):Xn i ks env g=some (.nx (env.set i (some (IK [] ks x))) g):=by
 unfold Xn
 rw[vo h0,Option.bind_some,h2]
 rfl
section
variable {Γ Γk:List Fl} {K:PySem.W.Frag} {te:TE} {f:XF}
theorem adD{i:Nat}(ks:List Nat)(hi:Γ[i]? = some .fr):RfS Γ Γ Γk (tDrop (tBM0 K "list" rClear (adA K ks (tVar i)))) (Xn i ks):=fun c Hb H env g σ r R e Dn w=>by
 obtain⟨x,e0,e⟩:=zo e
 obtain⟨es,e2,e⟩:=zo e
 cases e
 obtain⟨x1,_⟩:=jl (show xV i env g=some (x.1,x.2) from e0)
 obtain⟨fl,v,z1,z2,z3⟩:=R.slot i _ x1
 rw[hi] at z1;cases z1
 obtain⟨as,fw,nd⟩:=z3
 obtain⟨q,xs,as1,wk,k1,k2,k3,k4,k5,k6,k7⟩:=acM (K:=K) ks x.1 as v es fw nd e2 R.ext
 refine wk (tVar i) σ (fun Q h=>⟨v,z2,h⟩) _ ⟨.inl ⟨rfl,xs,SqL.of k1⟩,q,xs,rfl,rfl,k1,?_⟩
 have lv:=Fw.live _ _ _ fw
 have hq:=k6 q (by simp)
 obtain⟨as',F,N,M⟩:=k7 Hb (upd H q (.lst [])) [] [] [] (Same.refl _) (fun a ha hz=>⟨fun o eo=>by
  rw[upd_ne (fun z:a=q=>hz (by rw[z];simp))]
  exact eo,(lv a ha).2.1⟩) upd_same (lv q hq).2.1 .nil (by simp) (fun a ha=>by cases ha)
 refine w Hb _ σ (Same.refl _) (R.pokeF hi x1 z2 fw hq _ F N fun a ha=>?_)
 rcases M a ha with z | z
 ·exact .inl z
 ·cases z
theorem RfF.v(h:RfF Γ te f):abZ .fr Γ te f:=fun c Hb H env g σ d g' R e Q q=>h c Hb H env g σ d g' R e Q fun v as Hb' H' G R' F nd nw=>q v Hb' H' G R' ⟨as,F,nd⟩ fun a ⟨bs,o2,ha⟩=>nw a (by rw[Fw.uniq _ _ _ _ F o2];exact ha)
end
end
section
variable [TheW]
section
variable {c:Ctx} {Hb H:Hp}
theorem acS{n:Nat}{k:Key}{b:List Addr}{v:V}{d:D}(hv:Ow c Hb H n b v d):∀ {ds:List (D×D)} {kvs:List (Key×V)} {as:List Addr},OwK c Hb H n as kvs ds→(∀x∈as,x∉b)→OwK c Hb H n (as++b) (kvs++[(k,v)]) (ds++[(kD k,d)])
 | [],_,_,h,_=>by
  cases h
  have:=OwK.cons (k:=k) hv (.nil (n:=n) (c:=c) (Hb:=Hb) (H:=H)) (fun x _=>by simp)
  rw[List.append_nil] at this
  exact this
 | (kd,d')::ds,_,_,h,off=>by
  cases h with
  | @cons _ a0 as0 j w vs _ _ h1 h2 h3 =>
   rw[List.append_assoc]
   refine .cons h1 (acS hv h2 fun x hx=>off x (List.mem_append_right _ hx)) fun x hx hy=>?_
   rcases List.mem_append.mp hy with hy | hy
   ·exact h3 x hx hy
   ·exact off x (List.mem_append_left _ hx) hy
theorem aaO{n:Nat}{k:Key}:∀ {ds:List (D×D)} {kvs:List (Key×V)} {as:List Addr},OwK c Hb H n as kvs ds→yY k ds=none→valV kvs k=none
 | [],_,_,h,_=>by cases h;rfl
 | (kd,d')::ds,_,_,h,e=>by
  cases h with
  | @cons _ a0 as0 j w vs _ _ h1 h2 h3 =>
   by_cases q:j=k
   ·subst q
    unfold yY at e
    rw[if_pos (jG j)] at e
    cases e
   ·have e2:¬vV (kD j)=some k:=fun z=>q (by rw[jG] at z;exact Option.some.inj z)
    unfold yY at e
    rw[if_neg e2] at e
    rw[valV_neg (p:=(j,w)) q]
    exact aaO h2 e
end
section
variable {Γ Γ' Γk:List Fl} {ty te ts:TE} {fy f:XF} {K:PySem.W.Frag}
theorem Ug{c:Ctx}{Hb H:Hp}{env:Env}{g:D}{σ:L2.St}{i:Nat}{ds:List (D×D)}(hi:Γ[i]? = some (.od 2))(R:Rel c Γ Hb H env g σ)(x1:env[i]? = some (some (.dict ds))):∃pa kvs as, σ[i]? = some (some (.ref pa))∧H pa=some (.dK kvs)∧Hb pa=none∧c.Hc pa=none∧pa∉as∧OwK c Hb H 1 as kvs ds:=by
 obtain⟨fl,v,y1,y2,y3⟩:=R.slot i _ x1
 rw[hi] at y1;cases y1
 obtain⟨as,o⟩:=y3
 cases o with
 | dK h1 h2 h3 h4 h5=>exact⟨_,_,_,y2,h1,h2,h3,h4,h5⟩
theorem aaP{c:Ctx}{Hb H:Hp}{kvs:List (Key×V)}{as:List Addr}{ds:List (D×D)}{k:Key}{es:List D}(o:OwK c Hb H 1 as kvs ds)(e:yY k ds=some (.list es)):∃qa xs,valV kvs k=some (.ref qa)∧H qa=some (.lst xs)∧Hb qa=none∧c.Hc qa=none∧qa∈as∧RpL Hb xs es ∧
  ∀xs2 es2,RpL Hb xs2 es2→OwK c Hb (upd H qa (.lst xs2)) 1 as kvs (Z3 k (.list es2) ds):=by
 obtain⟨v,a,y1,y2,y3,y4⟩:=Z4 o e
 cases y2 with
 | @lst _ qa xs as0 _ h1 h2 h3 h4 h5 =>
  obtain⟨ea,r⟩:=Ym h5
  subst ea
  exact⟨qa,xs,y1,h1,h2,h3,y3 qa (by simp),r,fun xs2 es2 r2=>y4 _ _ (fun x hx=>upd_ne fun z=>hx (by rw[z];simp)) (.lst upd_same h2 h3 (by simp) (ZY r2))⟩
theorem aaQ{c:Ctx}{Hb1 H1:Hp}{env:Env}{g1 g2:D}{σ:L2.St}{i:Nat}{ds:List (D×D)}{k:Key}{es:List D}{d:D}{Dn:Ends}(hi:Γ[i]? = some (.od 2))(he:RfE Γ te f)(R1:Rel c Γ Hb1 H1 env g1 σ)(x1:env[i]? = some (some (.dict ds)))(e5:yY k ds=some (.list es))(e7:f env g1=some (d,g2))(hz:sz es.length=true)
  (w:∀Hb' H',Same Hb1 Hb'→Rel c Γ Hb' H' (env.set i (some (.dict (Z3 k (.list (es++[d])) ds)))) g2 σ→Dn.nx σ H') :
  ∃pa kvs qa, σ[i]? = some (some (.ref pa))∧H1 pa=some (.dK kvs)∧valV kvs k=some (.ref qa)∧tyV K "list" (.ref qa) H1∧te σ H1 fun vx H2=>rAppend (.ref qa) [vx] H2 fun _ H'=>Dn.nx σ H':=by
 obtain⟨pa,kvs,as,z2,h1,h2,h3,h4,h5⟩:=Ug hi R1 x1
 obtain⟨qa,xs,v1,v2,v3,v4,v5,v6,v7⟩:=aaP h5 e5
 refine⟨pa,kvs,qa,z2,h1,v1,.inl ⟨rfl,xs,SqL.of v2⟩,he c Hb1 H1 env g1 σ d g2 R1 e7 _ fun vx Hb2 H2 G2 R2 r2=>?_⟩
 obtain⟨pa2,kvs2,as2,z3,k1,k2,k3,k4,k5⟩:=Ug hi R2 x1
 rw[z2] at z3;cases z3
 have:kvs2=kvs:=by
  have:=G2.h pa _ h1 (fun z=>(R1.bgs _ z) h3)
  rw[this] at k1;cases k1;rfl
 subst this
 obtain⟨qa2,xs2,w1,w2,w3,w4,w5,w6,w7⟩:=aaP k5 e5
 rw[v1] at w1;cases w1
 refine⟨qa,xs2,vx,rfl,rfl,w2,by rw[w6.length];exact Gw hz,?_⟩
 have ne:pa≠qa:=fun z=>k4 (z▸w5)
 have new:=w7 (xs2++[vx]) (es++[d]) (w6.append (.one r2))
 have own0:Ow c Hb2 H2 2 (pa::as2) (.ref pa) (.dict ds):=.dK k1 k2 k3 k4 k5
 have own1:Ow c Hb2 (upd H2 qa (.lst (xs2++[vx]))) 2 (pa::as2) (.ref pa) (.dict (Z3 k (.list (es++[d])) ds)):=.dK (by rw[upd_ne ne];exact k1) k2 k3 k4 new
 refine w Hb2 _ G2.b (R2.change hi x1 z2 (fun a ha=>upd_ne fun z=>ha ⟨_,own0,by rw[z];exact List.mem_cons_of_mem _ w5⟩) (fun a ha=>?_) ⟨_,own1⟩ fun a ⟨bs,ob,hb⟩=>⟨_,own0,by rw[Ow.uniq _ _ _ _ _ own1 ob];exact hb⟩)
 by_cases z:a=qa
 ·subst z;rw[upd_same] at ha;cases ha
 ·rw[upd_ne z] at ha;exact ha
def Vg(k:Key)(ds:List (D×D)):List (D×D):=match yY k ds with
 | some _=>ds
 | none=>ds++[(kD k,.list [])]
def JD(i:Nat)(fy f:XF):SF:=fun env g=>(xV i env g).bind fun x=>(Wd x.1).bind fun ds=>(fy env g).bind fun y=>(vV y.1).bind fun k=>(yY k (Vg k ds)).bind fun l=>(Ji l).bind fun es=>(f (env.set i (some (.dict (Vg k ds)))) y.2).bind fun p =>
 if sz es.length&&sz ds.length then some (.nx (env.set i (some (.dict (Z3 k (.list (es++[p.1])) (Vg k ds))))) p.2) else none
theorem GN{i:Nat}(hi:Γ[i]? = some (.od 2))(hy:RfE Γ ty fy)(he:RfE Γ te f):RfS Γ Γ Γk (tDrop (tBM K "list" rAppend (tBM K "dict" rSetd (tVar i) (tCons ty (tCons (tLst tNil) tNil))) (tCons te tNil))) (JD i fy f):=fun c Hb H env g σ r R e Dn w=>by
 obtain⟨x,e1,e⟩:=zo e
 obtain⟨ds,e2,e⟩:=zo e
 obtain⟨y,e3,e⟩:=zo e
 obtain⟨k,e4,e⟩:=zo e
 obtain⟨l,e5,e⟩:=zo e
 obtain⟨es,e6,e⟩:=zo e
 obtain⟨p,e7,e⟩:=zo e
 split at e
 ·rename_i hz
  rw[Bool.and_eq_true] at hz
  cases e
  obtain⟨x1,x2⟩:=jl (show xV i env g=some (x.1,x.2) from e1)
  rw[ju e2] at x1
  have el:=ZK e6
  subst el
  have ek:=wL e4
  obtain⟨pa0,kvs0,as0,z2,a1,_⟩:=Ug hi R x1
  refine⟨.ref pa0,z2,.inr (.inr (.inl ⟨rfl,.inl ⟨kvs0,a1⟩⟩)),hy c Hb H env g σ y.1 y.2 R e3 _ fun ky Hb1 H1 G1 R1 r1=>?_⟩
  rw[ek] at r1
  have eky:ky=kV k:=Vs (c:=c) (H:=H1) (.inl r1)
  refine⟨by decide,fun q hq=>?_⟩
  have nw:=Nw.newOwn (o:=.lst []) R1.ext hq
  have R2:=nw.rel R1
  obtain⟨pa,kvs,as,z3,h1,h2,h3,h4,h5⟩:=Ug hi R2 x1
  rw[z2] at z3;cases z3
  have hlen:kvs.length<sizeLine:=by
   rw[ZZ h5]
   have:=of_decide_eq_true (show decide (ds.length<16000000)=true from hz.2)
   rw[sizeLine_eq]
   omega
  have hl:i<Γ.length:=(List.getElem?_eq_some_iff.mp hi).1
  have hel:i<env.length:=by rw[R.lene,←R.leng];exact hl
  have hs:i<σ.length:=by rw[←R.leng];exact hl
  refine⟨pa0,kvs,k,.ref q,rfl,by rw[eky],h1,hlen,fun u hu=>?_,fun hn=>?_⟩
  ·-- the key stands
   have fk:∃d,yY k ds=some d:=by
    cases h:yY k ds with
    | some d=>exact⟨d,rfl⟩
    | none=>rw[aaO h5 h] at hu;cases hu
   obtain⟨d0,fk⟩:=fk
   have es0:Vg k ds=ds:=by unfold Vg;rw[fk]
   rw[es0] at e5 e7 w
   have eE:env.set i (some (.dict ds))=env:=by
    apply List.ext_getElem?
    intro j
    by_cases q:i=j
    ·subst q;rw[List.getElem?_set_self hel,x1]
    ·rw[List.getElem?_set_ne q]
   rw[eE] at e7
   obtain⟨pa2,kvs2,qa,t1,t2,t3,t4,t5⟩:=aaQ (K:=K) (Dn:=Dn) hi he R2 x1 e5 e7 hz.1 fun Hb' H' sm R'=>w Hb' H' σ ((G1.b.trans nw.b).trans sm) R'
   rw[z2] at t1;cases t1
   rw[h1] at t2;cases t2
   rw[hu] at t3;cases t3
   exact⟨t4,t5⟩
  ·-- a new one
   have fk:yY k ds=none:=by
    cases h:yY k ds with
    | none=>rfl
    | some d =>
     obtain⟨v,a,y1,_⟩:=Z4 h5 h
     rw[hn] at y1;cases y1
   have es0:Vg k ds=ds++[(kD k,.list [])]:=by unfold Vg;rw[fk]
   rw[es0] at e5 e7 w
   have nq:q≠pa0:=fun z=>by rw[←z,upd_same] at h1;cases h1
   have qas:∀z∈as,z≠q:=fun z hz e=>by
    have R1own:∃pa' kvs' as', σ[i]? = some (some (.ref pa'))∧H1 pa'=some (.dK kvs')∧Hb1 pa'=none∧c.Hc pa'=none∧pa'∉as'∧OwK c Hb1 H1 1 as' kvs' ds:=Ug hi R1 x1
    obtain⟨pa',kvs',as',g1,g2,g3,g4,g5,g6⟩:=R1own
    rw[z2] at g1;cases g1
    have gk:kvs'=kvs:=by
     rw[upd_ne (fun z=>nq z.symm),g2] at h1
     cases h1;rfl
    subst gk
    have g6':OwK c Hb1 (upd H1 q (.lst [])) 1 as' kvs' ds:=OwK.mono (Same.refl _) ds 1 as' kvs' (fun a ha o eo=>by
     rw[upd_ne (fun z:a=q=>by
      rw[z,hq] at eo;cases eo)]
     exact eo) (fun a ha=>(OwK.live ds 1 as' kvs' g6 a ha).2.1) g6
    have ea:=OwK.uniq ds 1 as' as kvs' g6' h5
    have lv:=OwK.live ds 1 as' kvs' g6 z (by rw[ea];exact hz)
    rw[e,hq] at lv
    exact lv.1 rfl
   have hbq:Hb1 q=none:=R1.ext.free hq
   have hcq:c.Hc q=none:=R1.dom q hq
   -- the slot is let go,the dict changed,the slot taken again
   have hbg:∀k:Nat,(Γ.set i .dd)[k]? = some .bg→Γ[k]? = some .bg:=fun k e=>by
    by_cases q:i=k
    ·subst q
     rw[List.getElem?_set_self hl] at e;cases e
    ·rw[List.getElem?_set_ne q] at e;exact e
   have R0:Rel c (Γ.set i .dd) Hb1 (upd H1 q (.lst [])) env y.2 σ:=R2.less rfl (by simp) hbg fun j d ej=>⟨ej,by
    by_cases q:i=j
    ·subst q;exact .inr (List.getElem?_set_self hl)
    ·exact .inl (List.getElem?_set_ne q)⟩
   have own0:Ow c Hb1 (upd H1 q (.lst [])) 2 (pa0::as) (.ref pa0) (.dict ds):=.dK h1 h2 h3 h4 h5
   have free:∀z∈pa0::as,∀j,¬zK c (Γ.set i .dd) Hb1 (upd H1 q (.lst [])) env σ j z:=fun z hz j ow=>by
    by_cases q:i=j
    ·subst q
     obtain⟨_,fl,_,_,e2,_,e4⟩:=ow
     rw[List.getElem?_set_self hl] at e2;cases e2
     exact e4.elim
    ·exact R2.sep i j z q ⟨_,_,_,x1,hi,z2,_,own0,hz⟩ (ow.eqs (List.getElem?_set_ne q) rfl rfl)
   have freeq:∀j,¬zK c (Γ.set i .dd) Hb1 (upd H1 q (.lst [])) env σ j q:=fun j ow=>by
    have ow2:zK c Γ Hb1 (upd H1 q (.lst [])) env σ j q:=by
     by_cases q':i=j
     ·subst q'
      obtain⟨_,fl,_,_,e2,_,e4⟩:=ow
      rw[List.getElem?_set_self hl] at e2;cases e2
      exact e4.elim
     ·exact ow.eqs (List.getElem?_set_ne q') rfl rfl
    exact RfN.old R1 nw.gr ow2 hq
   let kv2:=putK kvs k (.ref q)
   have ekv:kv2=kvs++[(k,.ref q)]:=putK_new _ hn
   have R3:=R0.pokeOff (D:=pa0) (o:=.dK kv2) h2 h3 (by rw[h1];simp) (free pa0 (by simp))
   have hq3:(upd (upd H1 q (.lst [])) pa0 (.dK kv2)) q=some (.lst []):=by rw[upd_ne nq,upd_same]
   have ow3:OwK c Hb1 (upd (upd H1 q (.lst [])) pa0 (.dK kv2)) 1 as kvs ds:=OwK.mono (Same.refl _) ds 1 as kvs (fun a ha o eo=>by
    rw[upd_ne (fun z:a=pa0=>h4 (z▸ha))]
    exact eo) (fun a ha=>(OwK.live ds 1 as kvs h5 a ha).2.1) h5
   have newK:OwK c Hb1 (upd (upd H1 q (.lst [])) pa0 (.dK kv2)) 1 (as++[q]) kv2 (ds++[(kD k,.list [])]):=by
    have:=acS (k:=k) (n:=1) (.lst hq3 hbq hcq (by simp) .nil) ow3 fun z hz hz2=>qas z hz (List.mem_singleton.mp hz2)
    rw[←ekv] at this
    exact this
   have own3:Ow c Hb1 (upd (upd H1 q (.lst [])) pa0 (.dK kv2)) 2 (pa0::(as++[q])) (.ref pa0) (.dict (ds++[(kD k,.list [])])):=.dK upd_same h2 h3 (fun z=>by
    rcases List.mem_append.mp z with z | z
    ·exact h4 z
    ·exact nq (List.mem_singleton.mp z).symm) newK
   have back:∀j z,zK c (Γ.set i .dd) Hb1 (upd (upd H1 q (.lst [])) pa0 (.dK kv2)) env σ j z→zK c (Γ.set i .dd) Hb1 (upd H1 q (.lst [])) env σ j z:=fun j z ow=>ow.back R0 (Same.refl _) fun b hb=>⟨fun o eo=>by
    rw[upd_ne (fun z:b=pa0=>free pa0 (by simp) j (by rw[←z];exact hb))]
    exact eo,(hb.live R0).2.1⟩
   have R4:=R3.setOf (i:=i) (fl:=.od 2) (v:=.ref pa0) ⟨_,own3⟩ (by simp) (by simpa using hl) (by rw[List.getElem?_set_self hl];simp) fun j a _ ⟨bs,ob,hb⟩ oa=>by
    rw[←Ow.uniq _ _ _ _ _ own3 ob] at hb
    have ob2:=back j a oa
    rcases List.mem_cons.mp hb with e | hb
    ·exact free a (by rw[e];simp) j ob2
    ·rcases List.mem_append.mp hb with hb | hb
     ·exact free a (List.mem_cons_of_mem _ hb) j ob2
     ·rw[List.mem_singleton.mp hb] at ob2
      exact freeq j ob2
   have eΓ:(Γ.set i .dd).set i (.od 2)=Γ:=by
    rw[List.set_set]
    apply List.ext_getElem?
    intro j
    by_cases q:i=j
    ·subst q;rw[List.getElem?_set_self hl,hi]
    ·rw[List.getElem?_set_ne q]
   have eS:σ.set i (some (.ref pa0))=σ:=by
    apply List.ext_getElem?
    intro j
    by_cases q:i=j
    ·subst q;rw[List.getElem?_set_self hs,z2]
    ·rw[List.getElem?_set_ne q]
   rw[eΓ,eS] at R4
   have x2':(env.set i (some (.dict (ds++[(kD k,.list [])]))))[i]? = some (some (.dict (ds++[(kD k,.list [])]))):=List.getElem?_set_self hel
   obtain⟨pa2,kvs2,qa,t1,t2,t3,t4,t5⟩:=aaQ (K:=K) (Dn:=Dn) hi he R4 x2' e5 e7 hz.1 fun Hb' H' sm R'=>w Hb' H' σ ((G1.b.trans nw.b).trans sm) (by rw[List.set_set] at R';exact R')
   rw[z2] at t1;cases t1
   rw[upd_same] at t2;cases t2
   have:valV kv2 k=some (.ref q):=by
    show valV (putK kvs k (.ref q)) k=_
    rw[valV_put,if_pos rfl]
   rw[this] at t3;cases t3
   exact⟨t4,t5⟩
 ·cases e
end
end
section
variable [TheW]
theorem ZC{i j:Nat}(h:i≠j):∀(env:Env) (g d:D) (env':Env) (g':D),J7 j env g=some (d,env',g')→env'[i]? = env[i]? := fun env g d env' g' e=>by
 obtain⟨ds,e2,e⟩:=zo e
 obtain⟨d2,e3,e⟩:=zo e
 cases e
 exact List.getElem?_set_ne (Ne.symm h)
section
variable {Γ Γ' Γk:List Fl} {tk tv te:TE} {fk fv f:XF} {K:PySem.W.Frag}
theorem acT{n:Nat}:RfD (n+1) Γ tDNewK xE0:=fun c Hb H env g σ d g' R e Q q=>by
 cases e
 intro p hp
 have w:=Nw.newOwn (o:=.dK []) R.ext hp
 exact q (.ref p) [p] Hb _ w.gr (w.rel R) (.dK upd_same (R.ext.free hp) (R.dom p hp) (by simp) .nil) fun a ha=>by rw[List.mem_singleton.mp ha];exact hp
theorem acU:RfE Γ (aep tDNewK) xE0:=fun c Hb H env g σ d g' R e Q q=>by
 cases e
 intro p hp
 refine⟨p,.dK [],rfl,upd_same,True.intro,fun od=>?_⟩
 have e:upd (upd H p (.dK [])) p (.frz od (.dK []))=upd H p (.frz od (.dK [])):=by
  funext b
  by_cases z:b=p
  ·subst z;rw[upd_same,upd_same]
  ·rw[upd_ne z,upd_ne z,upd_ne z]
 rw[e]
 have nt:Nw Hb H (upd Hb p (.frz od (.dK []))) (upd H p (.frz od (.dK []))):=Nw.new R.ext hp
 exact q (.ref p) _ _ nt.gr (nt.rel R) (.dK upd_same .nil)
def ac3(trs:List (TE×TE)):TE:=fun σ H Q=>∀p,H p=none→tPairs trs σ (upd H p (.dT [])) fun ps H2=>H2 p=some (.dT [])∧∃kvs:List KX,ps=kvs.map (fun r=>(.ref r.2.1,r.2.2))∧(∀r∈kvs,Yh H2 r.2.1 r.1)∧kvs.length≤15 ∧
 ∀od,aah TheW.hk p od (WP [] kvs)→Q (.ref p) (upd H2 p (.frz od XU))
theorem aaR{X:Cx}{pins:List (Addr×Obj)}{σ:L2.St}{H:Hp}{s:Shared}(I:Inv X pins σ H s):∀ {kvs:List KX} {ws:List (Value×Value)},VV (kvs.map fun r=>(.ref r.2.1,r.2.2)) ws→(∀r∈kvs,Yh H r.2.1 r.1)→∃rs,CarriesH (tupleKind (mixKind X.prog X.w)) s.heap ws rs∧wK kvs rs
 | [],_,r,_=>by rw[List.map_nil] at r;cases r;exact⟨[],True.intro,.nil⟩
 | p::kvs,_,r,hk=>by
  rw[List.map_cons] at r
  cases r with
  | @cons a b as bs h t =>
   obtain⟨rs,c,q⟩:=aaR I t fun r hr=>hk r (List.mem_cons_of_mem _ hr)
   obtain⟨b1,b2⟩:=b
   obtain⟨o,hko,_⟩:=hk p (by simp)
   exact⟨(p.1,p.2.1,b2)::rs,⟨h.1,rfl,Vr I.hok (.inr ⟨o,hko⟩),c⟩,.cons ⟨rfl,rfl,h.2⟩ q⟩
theorem aeU{X:Cx}{pos:Pos}{keys:List (Option Expr)}{values:List Expr}{trs:List (TE×TE)}[Tied X.prog X.w](hu:X.A.units+1<cLine)(h:PPs X pos keys values trs)(hall:keys.all (·.isSome)=true)(hl:keys.length=values.length)(h0:keys≠[])
  (h15:keys.length≤15):PE X (.Dict keys values pos) (ac3 trs):=by
 refine⟨fun pins s σ H Q I q=>?_⟩
 have hn:=I.hok.fresh (Nat.le_refl s.heap.objs.size)
 have I1:=I.laid (a:=s.heap.objs.size) (o:=.dT []) (h':=s.heap.push { cls:=.type "dict",data:=.dict #[] }) (t':=s.toks) (fun _ _ q=>Heap.get?_push_of_some _ q) (Nat.le_refl _) (dt_empty s.heap I.big)
 have hpl:=pairTrees_length keys values X.env pos hall hl
 have hp0:pairTrees keys values X.env pos≠[]:=fun he=>by
  rw[he] at hpl
  exact h0 (List.length_eq_zero_iff.mp hpl.symm)
 rw[arm_eval_Dict,zip_pairTrees keys values X.env pos hall hl,dictDisplay_pairs (pairTrees keys values X.env pos) hp0 (by rw[hpl];omega)]
 refine wpAny_bind (wpAny_standAt (wpAny_bind (wpAny_subDictH (knd:=tupleKind (mixKind X.prog X.w)) (Q:=fun d s'=>wpAny (model X.prog X.w) X.A (pure (Value.ref d)) (EP X pins σ Q) X.xe s') (show X.A.units<cLine by omega) (by rw[hpl];exact h15) ?_)))
 refine thn (h.run pins _ σ _ _ I1 (q _ hn)) fun ws s2 ⟨ps,H2,I2,rel,e,kvs,ep,hk,lk,q2⟩=>?_
 subst ep
 obtain⟨rs,c,rk⟩:=aaR I2 rel hk
 obtain⟨z,hd,xs0,r0,dd⟩:=dt_of I2.hok e
 cases r0
 refine⟨rs,c,dd,fun h' tk dd' hs=>wpAny_pure ?_⟩
 have hz:(WP [] kvs).length≤sizeLine:=by
  have h1:=We kvs []
  rw[List.length_nil] at h1
  rw[sizeLine_eq];omega
 obtain⟨o,es,ep2,h1,h2,h3,h4,_,h5⟩:=dd'
 have dx:aah TheW.hk s.heap.objs.size o (WP [] kvs):=⟨hz,hd,_,rk.merge .nil,es,ep2,h2,h3,by
  rw[h4]
  congr 1
  funext x
  show DictEntry.mk _ _ _=DictEntry.mk _ _ _
  rw[Tied.eq (P:=X.prog) (w:=X.w)],h5⟩
 have new:ObjOk X.prog X.w (upd H2 s.heap.objs.size (.frz o XU)) h' s.heap.objs.size (.frz o XU):=⟨h1,True.intro,⟨o,h1⟩,fun _ _ _ _=>True.intro⟩
 exact⟨.ref s.heap.objs.size,_,d_write I2 (by rw[e];exact True.intro) hs ⟨o,h1⟩ new,rfl,q2 o dx⟩
abbrev PXF:=Env→D→Option (List (List Key×D)×D)
def acV:PXF:=fun _ g=>some ([],g)
def QH(fk fv:XF)(r:PXF):PXF:=fun env g=>(fk env g).bind fun k=>(QD k.1).bind fun ks=>(fv env k.2).bind fun v=>(r env v.2).bind fun p=>some ((ks,v.1)::p.1,p.2)
def ag5(Γ:List Fl)(trs:List (TE×TE))(f:PXF):Prop:=∀(c:Ctx) (Hb H:Hp) (env:Env) (g:D) (σ:L2.St) (rows:List (List Key×D)) (g':D),Rel c Γ Hb H env g σ→f env g=some (rows,g') →
 ∀Q:List (V×V)→Hp→Prop,(∀(kvs:List KX) Hb' H',Grow c Hb H Hb' H'→Rel c Γ Hb' H' env g' σ→Paired (fun(p:KX) (r:List Key×D)=>p.1=r.1∧Yh Hb' p.2.1 p.1∧Rp Hb' p.2.2 r.2) kvs rows→Q (kvs.map fun r=>(.ref r.2.1,r.2.2)) H')→tPairs trs σ H Q
theorem aho:ag5 Γ [] acV:=fun c Hb H env g σ rows g' R e Q q=>by
 cases e
 exact q [] Hb H (.refl ..) R .nil
theorem acW{trs:List (TE×TE)}{r:PXF}(hk:RfE Γ tk fk)(hv:RfE Γ tv fv)(hr:ag5 Γ trs r):ag5 Γ ((tk,tv)::trs) (QH fk fv r):=fun c Hb H env g σ rows g' R e Q q=>by
 obtain⟨k,e1,e⟩:=zo e
 obtain⟨ks,e2,e⟩:=zo e
 obtain⟨v,e3,e⟩:=zo e
 obtain⟨p,e4,e⟩:=zo e
 cases e
 refine hk c Hb H env g σ k.1 k.2 R e1 _ fun x Hb1 H1 G1 R1 r1=>hv c Hb1 H1 env k.2 σ v.1 v.2 R1 e3 _ fun y Hb2 H2 G2 R2 r2=>hr c Hb2 H2 env v.2 σ p.1 p.2 R2 e4 _ fun kvs Hb3 H3 G3 R3 rr=>?_
 unfold QD at e2
 split at e2
 ·rename_i kds hkd
  have:=JA e2
  subst this
  rw[hkd] at r1
  cases r1 with
  | @tup b ob ys _ hb hdb hrb =>
   have:=Vp hrb
   subst this
   exact q ((ks,b,y)::kvs) Hb3 H3 ((G1.trans G2).trans G3) R3 (.cons ⟨rfl,⟨ob,G3.b _ _ (G2.b _ _ hb),hdb⟩,r2.same G3.b⟩ rr)
 ·cases e2
def Yq(f:PXF):XF:=fun env g=>(f env g).bind fun p=>if decide (p.1.length≤15) then some (agH p.1,p.2) else none
theorem ag6{trs:List (TE×TE)}{r:PXF}(h:ag5 Γ trs r):RfE Γ (ac3 trs) (Yq r):=fun c Hb H env g σ d g' R e Q q=>by
 obtain⟨p,e1,e⟩:=zo e
 split at e
 ·rename_i hz
  have hz:=of_decide_eq_true hz
  cases e
  intro a ha
  have nw:=Nw.newOwn (o:=.dT []) R.ext ha
  have R0:=nw.rel R
  refine h c Hb _ env g σ p.1 p.2 R0 e1 _ fun kvs Hb1 H1 G1 R1 rr=>?_
  have h1:H1 a=some (.dT []):=G1.h a _ upd_same fun z=>(R.bgs _ z) (R.dom a ha)
  have hb0:Hb a=none:=R.ext.free ha
  have hb1:Hb1 a=none:=by
   cases y:Hb1 a with
   | none=>rfl
   | some o =>
    have:=G1.n a (by rw[y];simp) hb0
    rw[upd_same] at this;cases this
  have len:kvs.length=p.1.length:=Paired.length rr
  have kf:∀ {ps:List KX} {rows:List (List Key×D)},Paired (fun(p:KX) (r:List Key×D)=>p.1=r.1∧Yh Hb1 p.2.1 p.1∧Rp Hb1 p.2.2 r.2) ps rows→∀p∈ps,Yh H1 p.2.1 p.1:=fun {ps rows} z=>by
   induction z with
   | nil=>intro p hp;cases hp
   | cons hq _ ih =>
    intro p hp
    rcases List.mem_cons.mp hp with rfl | hp
    ·obtain⟨o,w1,w2⟩:=hq.2.1
     exact⟨o,R1.ext _ _ w1,w2⟩
    ·exact ih p hp
  refine⟨h1,kvs,rfl,kf rr,by omega,fun od dx=>?_⟩
  have off0:=R.offNew ha
  have off1:=R0.offGrow G1 fun j ow=>RfN.old R nw.gr ow ha
  have hca:=R.dom a ha
  have R2:=R1.pokeOff (o:=.frz od XU) hb1 hca (by rw[h1];simp) off1
  have R3:=R2.adopt upd_same hb1 hca fun j w=>off1 j (w.back (Hb:=Hb1) (H:=H1) R1 (Same.refl _) fun b ho=>⟨fun x e=>by rw[upd_ne (fun q:b=a=>off1 j (by rw[←q];exact ho))];exact e,(ho.live R1).2.1⟩)
  have sm:Same Hb1 (upd Hb1 a (.frz od XU)):=yE hb1
  refine q (.ref a) _ _ ⟨(nw.gr.trans G1).b.trans sm,fun b o e io=>?_,fun b e z=>?_,fun b e=>?_⟩ R3 (.dX upd_same dx (RpX.mono sm _ _ (RpEX.merge rr .nil).x))
  ·rw[upd_ne (ne_of_none e ha)];exact(nw.gr.trans G1).h b o e io
  ·by_cases y:b=a
   ·subst y;exact ha
   ·rw[upd_ne y] at e;exact(nw.gr.trans G1).n b e z
  ·by_cases y:b=a
   ·subst y;exact ha
   ·rw[upd_ne y] at e;exact(nw.gr.trans G1).d b e
 ·cases e
end
end
end KP
namespace KP
open PySem PySem.Spec PyProof.Rows L2
variable [TheW]
theorem Uh{H H':Hp}:∀ {vs:List V} {ds:List D},ds.all JS=true→RpL H vs ds→RpL H' vs ds
 | _,_,_,.nil=>.nil
 | _,_,hs,.cons h t=>by
  rw[List.all_cons,Bool.and_eq_true] at hs
  exact .cons (acH hs.1 h) (Uh hs.2 t)
def acX(a g:D)(r:D×D):Prop:=∃as es,a=.list as∧as.all JS=true∧r.1=.list es∧es.all JS=true∧r.1∉yh g∧r.1∉yh r.2
open Classical in
noncomputable def VW(F:List D→D→Option (D×D))(fa:XF):XF:=fun env g=>(fa env g).bind fun p=>(F [p.1] p.2).bind fun r=>if acX p.1 p.2 r then some r else none
theorem ac4{F:List D→D→Option (D×D)}{fa:XF}{env:Env}{g g1 a:D}{r:D×D}(h1:fa env g=some (a,g1))(h2:F [a] g1=some r)(h3:acX a g1 r):VW F fa env g=some r:=by
 unfold VW
 rw[h1,Option.bind_some,h2,Option.bind_some]
 exact if_pos h3
theorem adE{H H':Hp}{A A':Addr→Prop}(s:Same H H')(h:∀a,A a→A' a):Same (wf H A) (wf H' A'):=fun a o e=>by
 have e1:=Js _ _ _ _ e
 have e2:=s _ _ e1
 cases o with
 | lst xs=>exact aaJ e2 (h a (Ql e))
 | _=>unfold wf;rw[e2]
theorem V5.cut{Hb:Hp}{A:Addr→Prop}{o:HO}{g:D}(h:V5 Hb o g)(q:∀a e,e∈yh g→Rp Hb (.ref a) e→A a):V5 (wf Hb A) o g:=by
 rcases h with⟨xs,ds,e1,e2,r⟩ | ⟨kvs,ds,e1,e2,r⟩
 ·subst e2
  exact .inl ⟨xs,ds,e1,rfl,RpL.cut _ _ r fun a e he=>q a e (by rw[yh];exact List.mem_cons_of_mem _ he)⟩
 ·subst e2
  exact .inr ⟨kvs,ds,e1,rfl,RpK.cut _ _ r fun a e he=>q a e (by rw[yh];exact he)⟩
section
variable {Γ Γ' Γk:List Fl} {t:TA} {fl:LF} {tk tv te ta:TE} {fk fv fa f:XF} {K:PySem.W.Frag} {E:XK}
theorem aaS{F:List D→D→Option (D×D)}(ha:RfN Γ ta fa){k:Nat}(hio:Γ[k]? = some .bg) :
  RfN Γ (tCall (spB 2 F) [] E (tCons (tVar k) (tCons ta tNil))) (VW F fa):=fun c Hb H env g σ d g' R e Q q=>by
 obtain⟨p,e1,e⟩:=zo e
 obtain⟨r,e2,e⟩:=zo e
 split at e
 ·rename_i ok
  cases e
  obtain⟨las,es,ea,hsa,ed,hse,hg1,hg2⟩:=ok
  have ed:d=.list es:=ed
  have hg1:d∉yh p.2:=hg1
  have hg2:d∉yh g':=hg2
  obtain⟨b,hb,hbs⟩:=R.bgf k hio
  refine⟨.ref b,hbs,ha c Hb H env g σ p.1 p.2 R e1 _ fun qa xs ds Hb1 H1 G1 R1 eq hp hbn hn hcn rl=>?_⟩
  obtain⟨o,_,_,z2,z3,z4⟩:=R1.bag b hb
  obtain⟨o0,_,_,y2,y3,y4⟩:=R.bag b hb
  have hqb:b≠qa:=fun z=>by rw[←z,y2] at hn;cases hn
  let A:Addr→Prop:=fun a=>∃e∈yh p.2,Rp Hb1 (.ref a) e
  have hcq:wf Hb1 A qa=none:=by unfold wf;rw[hbn]
  have hcb:wf Hb1 A b=none:=by unfold wf;rw[z3]
  have sa:ds.all JS=true:=by rw[eq] at ea;cases ea;exact hsa
  have s0:Same (wf Hb1 A) (upd (wf Hb1 A) qa (.lst xs)):=yE hcq
  have s1:Same (upd (wf Hb1 A) qa (.lst xs)) H1:=fun x u hx=>by
   by_cases z:x=qa
   ·subst z;rw[upd_same] at hx;cases hx;exact hp
   ·rw[upd_ne z] at hx;exact R1.ext _ _ (Js Hb1 A _ _ hx)
  let Ag:Addr→Prop:=fun a=>∃e∈yh p.2,Rp c.Hg (.ref a) e
  have sg:Same (wf c.Hg Ag) (wf Hb1 A):=adE R1.gb fun a ⟨e,he,ra⟩=>⟨e,he,ra.same R1.gb⟩
  refine⟨wf c.Hg Ag,upd (wf Hb1 A) qa (.lst xs),b,o,p.2,[.ref qa],[p.1],d,g',?_,sg.trans s0,s1,z2,?_,?_,?_,rfl,e2,fun v Hb2 H2 o' t1 t2 hh hn2 hb2 hbn2 bag2 rv=>?_⟩
  ·rw[List.append_nil]
  ·rw[upd_ne hqb];exact hcb
  ·exact z4.cut (A:=Ag) fun a e he r=>⟨e,he,r⟩
  ·rw[eq];exact .cons (.lst upd_same (Uh sa rl)) .nil
  ·rw[ed] at rv
   cases rv with
   | @lst a ys _ h1 h2 =>
    have s12:Same Hb1 H2:=fun x u hx=>hh x u (R1.ext _ _ hx) fun z=>by rw[z,z3] at hx;cases hx
    have ha0:H a=none:=by
     cases hm:upd (wf Hb1 A) qa (.lst xs) a with
     | none=>exact G1.d a (hn2 a (by rw[h1];simp) hm)
     | some u =>
      by_cases z:a=qa
      ·subst z;exact hn
      ·rw[upd_ne z] at hm
       have h3:=t1 _ _ (s0 _ _ hm)
       rw[h1] at h3;cases h3
       obtain⟨e',q2,q3⟩:=Ql hm
       have:=Rp.det _ _ _ (q3.same s12) ((Rp.lst h1 h2).same t2)
       subst this
       exact absurd (ed▸q2) hg1
    have hba:Hb1 a=none:=by
     cases z:Hb1 a with
     | none=>rfl
     | some u =>
      have hbna:Hb a=none:=R.ext.free ha0
      exact absurd ha0 (by
       intro _
       by_cases z2:a=qa
       ·subst z2;rw[hbn] at z;cases z
       ·have g1n:=G1.n a (by rw[z];simp) hbna
        -- a stands in the base behind the arguments,but was not in the heap ahead of them
        cases hm:upd (wf Hb1 A) qa (.lst xs) a with
        | none =>
         have:=hn2 a (by rw[h1];simp) hm
         rw[R1.ext _ _ z] at this;cases this
        | some u2 =>
         rw[upd_ne z2] at hm
         have h3:=t1 _ _ (s0 _ _ hm)
         rw[h1] at h3;cases h3
         obtain⟨e',q2,q3⟩:=Ql hm
         have:=Rp.det _ _ _ (q3.same s12) ((Rp.lst h1 h2).same t2)
         subst this
         exact hg1 (ed▸q2))
    let Hb3:Hp:=fun x=>if x=a then none else match Hb1 x with
     | some u=>some u
     | none=>Hb2 x
    have e3:∀x,x≠a→∀u,Hb1 x=some u→Hb3 x=some u:=fun x z u hx=>by
     show(if x=a then none else _)=_
     rw[if_neg z,hx]
    have b3:Same Hb1 Hb3:=fun x u hx=>e3 x (fun z=>by rw[z,hba] at hx;cases hx) u hx
    have i3:∀x u,Hb3 x=some u→x≠a∧(Hb1 x=some u∨(Hb1 x=none∧Hb2 x=some u)):=fun x u hx=>by
     have hx:(if x=a then none else match Hb1 x with
      | some u=>some u
      | none=>Hb2 x)=some u:=hx
     split at hx
     ·cases hx
     ·rename_i z
      refine⟨z,?_⟩
      split at hx
      ·rename_i w hw;cases hx;exact .inl hw
      ·rename_i hw;exact .inr ⟨hw,hx⟩
    have x3:Same Hb3 H2:=fun x u hx=>by
     rcases(i3 x u hx).2 with z | ⟨_,z⟩
     ·exact s12 _ _ z
     ·exact t2 _ _ z
    have n3:∀x,Hb3 x≠none→Hb x=none→H x=none:=fun x hx h0=>by
     obtain⟨u,hu⟩:=Option.ne_none_iff_exists'.mp hx
     rcases(i3 x u hu).2 with z | ⟨z0,z⟩
     ·exact G1.n x (by rw[z];simp) h0
     ·by_cases zq:x=qa
      ·subst zq;exact hn
      ·exact G1.d x (hn2 x (by rw[z];simp) (by rw[upd_ne zq];unfold wf;rw[z0]))
    have h3:∀x u,H x=some u→c.io≠some x→H2 x=some u:=fun x u hx io=>hh x u (G1.h x u hx io) fun z=>io (by rw[z];exact hb)
    have d3:∀x,H2 x=none→H x=none:=fun x hx=>G1.d x (by
     cases k:H1 x with
     | none=>rfl
     | some u =>
      by_cases kb:x=b
      ·subst kb;rw[hb2] at hx;cases hx
      ·rw[hh x u k kb] at hx;cases hx)
    have bag3:V5 c.Hg o' g':=bag2.same (Js _ _)
    have R3:Rel c Γ Hb3 H2 env g' σ:=R.grow (G1.b.trans b3) x3 h3 n3 d3 fun b2 hb3=>by
     rw[hb] at hb3;cases hb3
     refine⟨o',(),trivial,hb2,?_,bag3⟩
     cases hz:Hb3 b with
     | none=>rfl
     | some u =>
      rcases(i3 b u hz).2 with z | ⟨_,z⟩
      ·rw[z3] at z;cases z
      ·rw[hbn2] at z;cases z
    exact q a ys es Hb3 H2 ⟨G1.b.trans b3,h3,n3,d3⟩ R3 ed (t2 _ _ h1) (if_pos rfl) ha0 (R.dom a ha0) (Uh hse h2)
 ·cases e
abbrev PKF:=Env→D→Option (List (Key×D)×D)
def aeV:PKF:=fun _ g=>some ([],g)
def ac5(fk fv:XF)(r:PKF):PKF:=fun env g=>(fk env g).bind fun k=>(vV k.1).bind fun ks=>(fv env k.2).bind fun v=>(r env v.2).bind fun p=>some ((ks,v.1)::p.1,p.2)
def ag7(Γ:List Fl)(trs:List (TE×TE))(f:PKF):Prop:=∀(c:Ctx) (Hb H:Hp) (env:Env) (g:D) (σ:L2.St) (rows:List (Key×D)) (g':D),Rel c Γ Hb H env g σ→f env g=some (rows,g') →
 ∀Q:List (V×V)→Hp→Prop,(∀(kvs:List (Key×V)) Hb' H',Grow c Hb H Hb' H'→Rel c Γ Hb' H' env g' σ→Paired (fun(p:Key×V) (r:Key×D)=>p.1=r.1∧Rp Hb' p.2 r.2) kvs rows→Q (kvs.map fun r=>(kV r.1,r.2)) H')→tPairs trs σ H Q
theorem ahp:ag7 Γ [] aeV:=fun c Hb H env g σ rows g' R e Q q=>by
 cases e
 exact q [] Hb H (.refl ..) R .nil
theorem ag8{trs:List (TE×TE)}{r:PKF}(hk:RfE Γ tk fk)(hv:RfE Γ tv fv)(hr:ag7 Γ trs r):ag7 Γ ((tk,tv)::trs) (ac5 fk fv r):=fun c Hb H env g σ rows g' R e Q q=>by
 obtain⟨k,e1,e⟩:=zo e
 obtain⟨ks,e2,e⟩:=zo e
 obtain⟨v,e3,e⟩:=zo e
 obtain⟨p,e4,e⟩:=zo e
 cases e
 refine hk c Hb H env g σ k.1 k.2 R e1 _ fun x Hb1 H1 G1 R1 r1=>hv c Hb1 H1 env k.2 σ v.1 v.2 R1 e3 _ fun y Hb2 H2 G2 R2 r2=>hr c Hb2 H2 env v.2 σ p.1 p.2 R2 e4 _ fun kvs Hb3 H3 G3 R3 rr=>?_
 rw[wL e2] at r1
 have:=Vs (c:=c) (H:=H1) (.inl r1)
 subst this
 exact q ((ks,y)::kvs) Hb3 H3 ((G1.trans G2).trans G3) R3 (.cons ⟨rfl,r2.same G3.b⟩ rr)
def IR(rows:List (Key×D))(ds:List (D×D)):List (D×D):=rows.foldl (fun acc r=>Vt r.1 r.2 acc) ds
theorem GO{H:Hp}:∀ {kvs:List (Key×V)} {rows:List (Key×D)} {k0:List (Key×V)} {ds:List (D×D)},Paired (fun(p:Key×V) (r:Key×D)=>p.1=r.1∧Rp H p.2 r.2) kvs rows→RpK H k0 ds→RpK H (mergeK k0 kvs) (IR rows ds)
 | _,_,_,_,.nil,h=>h
 | _,_,_,_,.cons (a:=p) (b:=r) hq t,h=>by
  have:=W8 p.1 hq.2 h
  rw[hq.1] at this
  show RpK H (mergeK (putK _ p.1 p.2) _) (IR _ (Vt r.1 r.2 _))
  rw[hq.1]
  exact GO t this
def ac6(f:PKF):XF:=fun env g=>(f env g).bind fun p=>if decide (p.1.length≤15) then some (.dict (IR p.1 []),p.2) else none
theorem ag9{trs:List (TE×TE)}{r:PKF}(h:ag7 Γ trs r):RfE Γ (aep (tDisp trs)) (ac6 r):=fun c Hb H env g σ d g' R e Q q=>by
 obtain⟨p,e1,e⟩:=zo e
 split at e
 ·rename_i hz
  have hz:=of_decide_eq_true hz
  cases e
  intro a ha
  have nw:=Nw.newOwn (o:=.dK []) R.ext ha
  have R0:=nw.rel R
  refine h c Hb _ env g σ p.1 p.2 R0 e1 _ fun kvs Hb1 H1 G1 R1 rr=>?_
  have h1:H1 a=some (.dK []):=G1.h a _ upd_same fun z=>(R.bgs _ z) (R.dom a ha)
  have hb0:Hb a=none:=R.ext.free ha
  have hb1:Hb1 a=none:=by
   cases y:Hb1 a with
   | none=>rfl
   | some o =>
    have:=G1.n a (by rw[y];simp) hb0
    rw[upd_same] at this;cases this
  have len:kvs.length=p.1.length:=Paired.length rr
  refine⟨h1,kvs,rfl,by omega,a,_,rfl,upd_same,True.intro,fun od=>?_⟩
  have off0:=R.offNew ha
  have off1:=R0.offGrow G1 fun j ow=>RfN.old R nw.gr ow ha
  have hca:=R.dom a ha
  have R2:=R1.pokeOff (o:=.frz od (.dK (mergeK [] kvs))) hb1 hca (by rw[h1];simp) off1
  have R3:=R2.adopt upd_same hb1 hca fun j w=>off1 j (w.back (Hb:=Hb1) (H:=H1) R1 (Same.refl _) fun b ho=>⟨fun x e=>by rw[upd_ne (fun q:b=a=>off1 j (by rw[←q];exact ho))];exact e,(ho.live R1).2.1⟩)
  have sm:Same Hb1 (upd Hb1 a (.frz od (.dK (mergeK [] kvs)))):=yE hb1
  have eu:upd (upd H1 a (.dK (mergeK [] kvs))) a (.frz od (.dK (mergeK [] kvs)))=upd H1 a (.frz od (.dK (mergeK [] kvs))):=by
   funext b
   by_cases z:b=a
   ·subst z;rw[upd_same,upd_same]
   ·rw[upd_ne z,upd_ne z,upd_ne z]
  rw[eu]
  refine q (.ref a) _ _ ⟨(nw.gr.trans G1).b.trans sm,fun b o e io=>?_,fun b e z=>?_,fun b e=>?_⟩ R3 (.dK upd_same (RpK.mono sm _ _ (GO rr .nil)))
  ·rw[upd_ne (ne_of_none e ha)];exact(nw.gr.trans G1).h b o e io
  ·by_cases y:b=a
   ·subst y;exact ha
   ·rw[upd_ne y] at e;exact(nw.gr.trans G1).n b e z
  ·by_cases y:b=a
   ·subst y;exact ha
   ·rw[upd_ne y] at e;exact(nw.gr.trans G1).d b e
 ·cases e
theorem ahX(T:String)(h:RfX Γ te f):RfE Γ (tCB (rIsi K) (tCons te (tCons (tC (.ty T)) tNil))) (JQ T f):=fun c Hb H env g σ d g' R e Q q=>by
 obtain⟨p,e1,e⟩:=zo e
 split at e
 ·rename_i ok
  obtain⟨b,e2,e⟩:=zo e
  cases e
  refine h c Hb H env g σ p.1 p.2 R e1 _ fun v Hb1 H1 G1 R1 r1=>⟨v,.ty T,_,_,b,rfl,.ty T,?_,kit_ty e2,q _ Hb1 H1 G1 R1 (.bl b)⟩
  exact aeu (c:=c) (Hb:=H1) (Same.refl _) (.inl (Fb.rp r1 R1.ext)) ok
 ·cases e
def WQ(as:List D)(d:D):Prop:=∀e∈yh d,e∉as
open Classical in
noncomputable def jp(F:List D→D→Option (D×D))(fl:LF):XF:=fun env g=>(fl env g).bind fun p=>(F p.1 p.2).bind fun r=>if WQ p.1 r.1 then some r else none
theorem WR{F:List D→D→Option (D×D)}{fl:LF}{env:Env}{g g1:D}{ds:List D}{r:D×D}(h1:fl env g=some (ds,g1))(h2:F ds g1=some r)(h3:WQ ds r.1):jp F fl env g=some r:=by
 unfold jp
 rw[h1,Option.bind_some,h2,Option.bind_some]
 exact if_pos h3
def Zn(c:Ctx)(Hb H:Hp)(as:List D)(a:Addr):Prop:=Hb a=none∧c.io≠some a∧∃xs es,H a=some (.lst xs)∧RpL Hb xs es∧(.list es)∈as
open Classical in
noncomputable def JW(c:Ctx)(Hb H:Hp)(as:List D):Hp:=fun a=>if Zn c Hb H as a then H a else Hb a
section
variable {c:Ctx} {Hb H:Hp} {as:List D}
theorem JE{a:Addr}{o:HO}(h:Hb a=some o):JW c Hb H as a=some o:=by
 unfold JW
 rw[if_neg (fun z:Zn c Hb H as a=>by rw[z.1] at h;cases h)]
 exact h
theorem Ui{a:Addr}(h:Zn c Hb H as a):JW c Hb H as a=H a:=if_pos h
theorem adF(x:Same Hb H):Same (JW c Hb H as) H:=fun a o e=>by
 unfold JW at e
 split at e
 ·exact e
 ·exact x _ _ e
theorem GP{a:Addr}(h:¬Zn c Hb H as a):JW c Hb H as a=Hb a:=if_neg h
theorem aga(x:Same Hb H){v:V}{d:D}(h:Rb c Hb H v d)(hd:d∈as):Rp (JW c Hb H as) v d:=by
 rcases h with h | ⟨p,xs,es,rfl,rfl,h1,h2,h3⟩
 ·exact h.same fun a o e=>JE e
 ·cases e:Hb p with
  | none=>exact .lst ((Ui ⟨e,h3,xs,es,h1,h2,hd⟩).trans h1) (h2.same fun a o e=>JE e)
  | some o =>
   have:=x _ _ e
   rw[h1] at this
   cases this
   exact .lst (JE e) (h2.same fun a o e=>JE e)
theorem aaT(x:Same Hb H):∀ {vs:List V} {ds:List D},RbL c Hb H vs ds→(∀d∈ds,d∈as)→RpL (JW c Hb H as) vs ds
 | _,_,.nil,_=>.nil
 | _,_,.cons h t,q=>.cons (aga x h (q _ (by simp))) (aaT x t fun d hd=>q d (List.mem_cons_of_mem _ hd))
theorem RbL.length:∀ {vs:List V} {ds:List D},RbL c Hb H vs ds→vs.length=ds.length
 | _,_,.nil=>rfl
 | _,_,.cons _ t=>by simp[RbL.length t]
open Classical in
noncomputable def Xo(c:Ctx)(Hb H:Hp)(as:List D)(Hb2:Hp):Hp:=fun a=>if Zn c Hb H as a then none else Hb2 a
theorem aaU{Hb2:Hp}{a:Addr}{o:HO}(h:Xo c Hb H as Hb2 a=some o):¬Zn c Hb H as a∧Hb2 a=some o:=by
 unfold Xo at h
 split at h
 ·cases h
 ·exact⟨by assumption,h⟩
theorem IS{Hb2:Hp}{a:Addr}(h:¬Zn c Hb H as a):Xo c Hb H as Hb2 a=Hb2 a:=if_neg h
theorem aeW{Hb2:Hp}(t:Same (JW c Hb H as) Hb2){a:Addr}{e:D}(r:Rp Hb2 (.ref a) e)(he:e∉as):¬Zn c Hb H as a:=fun z=>by
 obtain⟨_,_,xs,es,h1,h2,h3⟩:=id z
 have h4:=t _ _ ((Ui z).trans h1)
 have:=Rp.det _ _ _ r (.lst h4 (h2.same fun a o e=>t _ _ (JE e)))
 subst this
 exact he h3
theorem aeX{Hb2:Hp}(t:Same (JW c Hb H as) Hb2):Same (wf Hb2 fun a=>¬Zn c Hb H as a) (Xo c Hb H as Hb2):=fun a o h=>by
 have h2:=Js _ _ _ _ h
 by_cases z:Zn c Hb H as a
 ·obtain⟨_,_,xs,es,h1,_,_⟩:=id z
  have h4:=t _ _ ((Ui z).trans h1)
  rw[h4] at h2;cases h2
  exact absurd z (Ql h)
 ·rw[IS z];exact h2
theorem agb{Hb2:Hp}(t:Same (JW c Hb H as) Hb2){v:V}{d:D}(r:Rp Hb2 v d)(h:WQ as d):Rp (Xo c Hb H as Hb2) v d :=
 (Rp.cut (A:=fun a=>¬Zn c Hb H as a) d v r fun a e he ra=>aeW t ra (h e he)).same (aeX t)
theorem GQ{Hb2:Hp}(t:Same (JW c Hb H as) Hb2):Same Hb (Xo c Hb H as Hb2):=fun a o h=>by
 rw[IS (fun z=>by rw[z.1] at h;cases h)]
 exact t _ _ (JE h)
theorem ahq{Hb2 H2:Hp}(t:Same Hb2 H2):Same (Xo c Hb H as Hb2) H2:=fun a o h=>t _ _ (aaU h).2
theorem ahr{Hb2:Hp}(n:∀a,Hb2 a≠none→JW c Hb H as a=none→H a=none):∀a,Xo c Hb H as Hb2 a≠none→Hb a=none→H a=none:=fun a h h0=>by
 obtain⟨u,hu⟩:=Option.ne_none_iff_exists'.mp h
 obtain⟨h1,h2⟩:=aaU hu
 exact n a (by rw[h2];simp) ((GP h1).trans h0)
end
theorem Uj{n:Nat}{F:List D→D→Option (D×D)}(hn:∀env g p,fl env g=some p→p.1.length+1=n)(ha:aai Γ t fl){k:Nat}(hio:Γ[k]? = some .bg) :
  RfE Γ (tCall (spB n F) [] E (tCons (tVar k) t)) (jp F fl):=fun c Hb H env g σ d g' R e Q q=>by
 obtain⟨p,e1,e⟩:=zo e
 obtain⟨r,e2,e⟩:=zo e
 split at e
 ·rename_i ok
  cases e
  obtain⟨b,hb,hbs⟩:=R.bgf k hio
  refine⟨.ref b,hbs,ha c Hb H env g σ p.1 p.2 R e1 _ fun vs Hb1 H1 G1 R1 r1=>?_⟩
  obtain⟨o,_,_,z2,z3,z4⟩:=R1.bag b hb
  have nb:¬Zn c Hb1 H1 p.1 b:=fun z=>z.2.1 hb
  refine⟨c.Hg,JW c Hb1 H1 p.1,b,o,p.2,vs,p.1,d,g',by rw[List.append_nil],R1.gb.trans (fun a o e=>JE e),adF R1.ext,z2,(GP nb).trans z3,z4,aaT R1.ext r1 fun d h=>h,by rw[r1.length];exact hn _ _ _ e1,e2,fun v Hb2 H2 o' t1 t2 hh hn2 hb2 hbn2 bag2 rv=>?_⟩
  have h3:∀a o,H1 a=some o→c.io≠some a→H2 a=some o:=fun a o y i=>hh a o y fun k=>i (by rw[k];exact hb)
  have d3:∀a,H2 a=none→H1 a=none:=fun a y=>by
   cases k:H1 a with
   | none=>rfl
   | some o =>
    by_cases kb:a=b
    ·subst kb;rw[hb2] at y;cases y
    ·rw[hh a o k kb] at y;cases y
  have n3:=ahr hn2
  refine q v (Xo c Hb1 H1 p.1 Hb2) H2 (G1.trans ⟨GQ t1,h3,n3,d3⟩) (R1.grow (GQ t1) (ahq t2) h3 n3 d3 fun b2 hb3=>?_) (agb t1 rv ok)
  rw[hb] at hb3;cases hb3
  exact⟨o',(),trivial,hb2,by rw[IS nb];exact hbn2,bag2⟩
 ·cases e
end
end KP
namespace KP
open PySem PySem.Spec PyProof.Rows L2
variable [TheW]
theorem Rel.giveAt{c:Ctx}{Γ:List Fl}{Hb H:Hp}{env:Env}{g d:D}{σ:L2.St}{i:Nat}{p:Addr}{xs:List V}{ds:List D}(R:Rel c Γ Hb H env g σ)(hi:Γ[i]? = some .ow)(e:env[i]? = some (some d))(z2:σ[i]? = some (some (.ref p)))(ed:d=.list ds)(y3:H p=some (.lst xs))(y4:Hb p=none)(y6:RpL Hb xs ds):Rel c (Γ.set i .sh) (upd Hb p (.lst xs)) H env g σ∧Same Hb (upd Hb p (.lst xs)):=by
 subst ed
 have sm:Same Hb (upd Hb p (.lst xs)):=yE y4
 refine⟨R.takeUp hi (by simp) e z2 sm (fun a x k=>?_) (fun a k z=>?_) (.lst upd_same (y6.same sm)),sm⟩
 ·by_cases q:a=p
  ·subst q;rw[upd_same] at k;cases k;exact y3
  ·rw[upd_ne q] at k;exact R.ext a x k
 ·by_cases q:a=p
  ·subst q;rfl
  ·rw[upd_ne q] at k;exact absurd z k
section
variable {Γ:List Fl} {te:TE} {f:XF}
open Classical in
noncomputable def Uk(j:Nat)(f:XF):XF:=fun env g=>(xV j env g).bind fun p=>(f env g).bind fun r=>if WQ [p.1] r.1 then some r else none
theorem aeY{j:Nat}{env:Env}{g d0:D}{r:D×D}(h1:env[j]? = some (some d0))(h2:f env g=some r)(h3:WQ [d0] r.1):Uk j f env g=some r:=by
 have e:xV j env g=some (d0,g):=by unfold xV;rw[h1]
 unfold Uk
 rw[e,Option.bind_some,h2,Option.bind_some]
 exact if_pos h3
open Classical in
theorem ahs(j:Nat)(hj:Γ[j]? = some .ow)(h:RfE (Γ.set j .sh) te f):RfE Γ te (Uk j f):=fun c Hb H env g σ d g' R e Q q=>by
 obtain⟨p0,e1,e⟩:=zo e
 obtain⟨r0,e2,e⟩:=zo e
 split at e
 ·rename_i ok
  cases e
  have e1':env[j]? = some (some p0.1):=by
   unfold xV at e1
   split at e1
   ·rename_i dd hd
    cases e1
    exact hd
   ·cases e1
  obtain⟨fl,v,s1,s2,s3⟩:=R.slot j p0.1 e1'
  rw[hj] at s1
  cases s1
  obtain⟨p,xs,ds,rfl,ed,h3,h4,h5,h6⟩:=s3
  rw[ed] at ok
  have iop:c.io≠some p:=fun z=>R.bgs p z h5
  obtain⟨Rg,sb⟩:=R.giveAt hj e1' s2 ed h3 h4 h6
  refine h c (upd Hb p (.lst xs)) H env g σ d g' Rg e2 Q fun v Hb1 H1 G1 R1 r1=>?_
  have t:Same (upd Hb p (.lst xs)) Hb1:=G1.b
  have hp1:Hb1 p=some (.lst xs):=t _ _ upd_same
  have rp1:Rp Hb1 (.ref p) (.list ds):=.lst hp1 (h6.same (sb.trans t))
  -- what does not hold the lent list does not come to p
  have no:∀(a:Addr) (e:D),e∉[PyData.list ds]→Rp Hb1 (.ref a) e→a≠p:=fun a e he ra z=>by
   subst z
   exact he (by rw[Rp.det _ _ _ ra rp1];simp)
  let Hb2:Hp:=fun a=>if a=p then none else Hb1 a
  have hb2:∀ {a:Addr},a≠p→Hb2 a=Hb1 a:=fun z=>if_neg z
  have hb2p:Hb2 p=none:=if_pos rfl
  have cut2:Same (wf Hb1 fun a=>a≠p) Hb2:=fun a o z=>by
   have z2:=Js _ _ _ _ z
   by_cases y:a=p
   ·subst y
    rw[hp1] at z2;cases z2
    exact absurd rfl (Ql z)
   ·rw[hb2 y];exact z2
  have s02:Same Hb Hb2:=fun a o z=>by
   have y:a≠p:=fun y=>by rw[y,h4] at z;cases z
   rw[hb2 y];exact t _ _ (sb _ _ z)
  have x2:Same Hb2 H1:=fun a o z=>by
   by_cases y:a=p
   ·subst y;rw[hb2p] at z;cases z
   ·rw[hb2 y] at z;exact R1.ext _ _ z
  have n2:∀a,Hb2 a≠none→Hb a=none→H a=none:=fun a z z0=>by
   by_cases y:a=p
   ·subst y;exact absurd hb2p z
   ·rw[hb2 y] at z
    exact G1.n a z (by rw[upd_ne y];exact z0)
  refine q v Hb2 H1 ⟨s02,G1.h,n2,G1.d⟩ (R.grow s02 x2 G1.h n2 G1.d fun b hb=>?_) ((Rp.cut _ _ r1 fun a e he ra=>no a e (ok e he) ra).same cut2)
  obtain⟨o,u,tr,b1,b2,b3⟩:=R1.bag b hb
  have y:b≠p:=fun y=>iop (by rw[←y];exact hb)
  exact⟨o,u,tr,b1,by rw[hb2 y];exact b2,b3⟩
 ·cases e
end
end KP
set_option maxHeartbeats 0
namespace KP
open PySem PySem.Spec PyProof.Rows L2
abbrev vA(i:Nat):Stmt:=PySem.Challenge.pw_keptalong_k52_lots_closed_under_ways.main.body.getD i (.Pass ⟨0,0,0,0⟩)
abbrev wO:Stmt:=vA 4
abbrev vT:Stmt:=vA 5
abbrev JF:Stmt:=vA 6
abbrev JG:Stmt:=vA 7
abbrev vL:Stmt:=vA 8
abbrev JH:Stmt:=vA 9
abbrev vB:Stmt:=vA 10
abbrev wP:Stmt:=vA 11
abbrev jM:Stmt:=vA 13
abbrev wQ:Stmt:=vA 14
abbrev Vy:Stmt:=vA 15
abbrev wR:Stmt:=vA 16
abbrev Jt:Stmt:=vA 17
abbrev jY:Stmt:=vA 18
abbrev Qo:Stmt:=vA 19
abbrev wF:Stmt:=vA 20
abbrev jZ:Stmt:=vA 22
abbrev Jb:Stmt:=vA 23
abbrev JI:Stmt:=vA 24
abbrev jN:Stmt:=vA 25
abbrev jO:Stmt:=vA 26
abbrev Jc:Stmt:=vA 27
abbrev jz:Stmt:=vA 28
abbrev yr:Stmt:=vA 30
abbrev yX:Stmt:=vA 31
abbrev vG:Stmt:=vA 29
abbrev j0:Stmt:=vA 32
abbrev wS:Stmt:=vA 33
abbrev wT:Stmt:=vA 34
abbrev vC:Stmt:=vA 35
abbrev vM:Stmt:=vA 36
abbrev wU:Stmt:=vA 37
abbrev vU:Stmt:=vA 38
abbrev wV:Stmt:=vA 39
abbrev vm:Stmt:=vA 40
abbrev ji:Stmt:=vA 41
abbrev wW:Stmt:=vA 42
abbrev wX:Stmt:=vA 43
abbrev vb:Stmt:=vA 45
abbrev wG:Stmt:=vA 44
abbrev wh:Stmt:=vA 46
abbrev wH:Stmt:=vA 47
abbrev vH:Stmt:=vA 48
abbrev jA:Stmt:=vA 49
abbrev GR:Stmt:=vA 50
abbrev R_:PySem.W.OpenRow:=PySem.W.OpenLaw.row PySem.Challenge.rw_keptalong_k52_lots_closed_under_ways
def Xp:He.DefD:=⟨("table_axes",none), "table_axes", "table_axes",defArgs wO,defBody wO,defScope wO,[],[]⟩
def Vz:He.DefD:=⟨("sums_by_name",none), "sums_by_name", "sums_by_name",defArgs vT,defBody vT,defScope vT,[],[]⟩
def Ul:He.DefD:=⟨("need_sum",none), "need_sum", "need_sum",defArgs JF,defBody JF,defScope JF,[],[]⟩
def Um:He.DefD:=⟨("own_axes",none), "own_axes", "own_axes",defArgs JG,defBody JG,defScope JG,[],[]⟩
def Wf:He.DefD:=⟨("summed_axes",none), "summed_axes", "summed_axes",defArgs vL,defBody vL,defScope vL,[],[]⟩
def Uo:He.DefD:=⟨("loops_of",none), "loops_of", "loops_of",defArgs JH,defBody JH,defScope JH,[],[]⟩
def QY:He.DefD:=⟨("meeting_pairs",none), "meeting_pairs", "meeting_pairs",defArgs vB,defBody vB,defScope vB,[],[]⟩
def Xq:He.DefD:=⟨("readers_of",none), "readers_of", "readers_of",defArgs wP,defBody wP,defScope wP,[],[]⟩
def Xr:He.DefD:=⟨("reached_by",none), "reached_by", "reached_by",defArgs jM,defBody jM,defScope jM,[],[]⟩
def Xs:He.DefD:=⟨("closed_lot",none), "closed_lot", "closed_lot",defArgs wQ,defBody wQ,defScope wQ,[],[]⟩
def aaV:He.DefD:=⟨("lot_of",none), "lot_of", "lot_of",defArgs Vy,defBody Vy,defScope Vy,[],[]⟩
def Xt:He.DefD:=⟨("is_read_in",none), "is_read_in", "is_read_in",defArgs wR,defBody wR,defScope wR,[],[]⟩
def GT:He.DefD:=⟨("lacking",none), "lacking", "lacking",defArgs Jt,defBody Jt,defScope Jt,[],[]⟩
def Up:He.DefD:=⟨("stops_in",none), "stops_in", "stops_in",defArgs jY,defBody jY,defScope jY,[],[]⟩
def aaW:He.DefD:=⟨("way_to",none), "way_to", "way_to",defArgs Qo,defBody Qo,defScope Qo,[],[]⟩
def VA:He.DefD:=⟨("ring_of_lots",none), "ring_of_lots", "ring_of_lots",defArgs wF,defBody wF,defScope wF,[],[]⟩
def Uq:He.DefD:=⟨("_law_bag",none), "_law_bag", "_law_bag",defArgs jZ,defBody jZ,defScope jZ,[],[]⟩
def YT:He.DefD:=⟨("_law_take",none), "_law_take", "_law_take",defArgs Jb,defBody Jb,defScope Jb,[],[]⟩
def Ur:He.DefD:=⟨("_law_one",none), "_law_one", "_law_one",defArgs JI,defBody JI,defScope JI,[],[]⟩
def Xu:He.DefD:=⟨("_law_mixed",none), "_law_mixed", "_law_mixed",defArgs jN,defBody jN,defScope jN,[],[]⟩
def Xv:He.DefD:=⟨("_law_alike",none), "_law_alike", "_law_alike",defArgs jO,defBody jO,defScope jO,[],[]⟩
def YU:He.DefD:=⟨("_law_flat",none), "_law_flat", "_law_flat",defArgs Jc,defBody Jc,defScope Jc,[],[]⟩
def YV:He.DefD:=⟨("_law_some",none), "_law_some", "_law_some",defArgs jz,defBody jz,defScope jz,[],[]⟩
def JJ:He.DefD:=⟨("_law_drawn_reads",none), "_law_drawn_reads", "_law_drawn_reads",defArgs yr,defBody yr,defScope yr,[],[]⟩
def Qp:He.DefD:=⟨("_law_drawn_own",none), "_law_drawn_own", "_law_drawn_own",defArgs yX,defBody yX,defScope yX,[],[]⟩
def Xw:He.DefD:=⟨("_law_sheet",none), "_law_sheet", "_law_sheet",defArgs vG,defBody vG,defScope vG,[],[]⟩
def Us:He.DefD:=⟨("_law_own",none), "_law_own", "_law_own",defArgs j0,defBody j0,defScope j0,[],[]⟩
def Xx:He.DefD:=⟨("_law_names",none), "_law_names", "_law_names",defArgs wS,defBody wS,defScope wS,[],[]⟩
def Xy:He.DefD:=⟨("_law_reads",none), "_law_reads", "_law_reads",defArgs wT,defBody wT,defScope wT,[],[]⟩
def QZ:He.DefD:=⟨("_law_all_axes",none), "_law_all_axes", "_law_all_axes",defArgs vC,defBody vC,defScope vC,[],[]⟩
def Wg:He.DefD:=⟨("_law_summed",none), "_law_summed", "_law_summed",defArgs vM,defBody vM,defScope vM,[],[]⟩
def Xz:He.DefD:=⟨("_law_pairs",none), "_law_pairs", "_law_pairs",defArgs wU,defBody wU,defScope wU,[],[]⟩
def VB:He.DefD:=⟨("_law_readers",none), "_law_readers", "_law_readers",defArgs vU,defBody vU,defScope vU,[],[]⟩
def XA:He.DefD:=⟨("_law_below",none), "_law_below", "_law_below",defArgs wV,defBody wV,defScope wV,[],[]⟩
def Wh:He.DefD:=⟨("_law_closed",none), "_law_closed", "_law_closed",defArgs vm,defBody vm,defScope vm,[],[]⟩
def Wi:He.DefD:=⟨("_law_lot_of",none), "_law_lot_of", "_law_lot_of",defArgs ji,defBody ji,defScope ji,[],[]⟩
def XB:He.DefD:=⟨("_law_stops",none), "_law_stops", "_law_stops",defArgs wW,defBody wW,defScope wW,[],[]⟩
def XC:He.DefD:=⟨("_law_leads",none), "_law_leads", "_law_leads",defArgs wX,defBody wX,defScope wX,[],[]⟩
def Q0:He.DefD:=⟨("_law_rich_own",none), "_law_rich_own", "_law_rich_own",defArgs vb,defBody vb,defScope vb,[],[]⟩
def Ut:He.DefD:=⟨("_law_web",none), "_law_web", "_law_web",defArgs wG,defBody wG,defScope wG,[],[]⟩
def Wj:He.DefD:=⟨("_law_is_way",none), "_law_is_way", "_law_is_way",defArgs wh,defBody wh,defScope wh,[],[]⟩
def YW:He.DefD:=⟨("_law_bare",none), "_law_bare", "_law_bare",defArgs wH,defBody wH,defScope wH,[],[]⟩
def JX:He.DefD:=⟨("_law_ring_wrong",none), "_law_ring_wrong", "_law_ring_wrong",defArgs vH,defBody vH,defScope vH,[],[]⟩
def YX:He.DefD:=⟨("_law_lots",none), "_law_lots", "_law_lots",defArgs jA,defBody jA,defScope jA,[],[]⟩
def agI:He.DefD:=⟨("law",none), "law", "law",defArgs GR,defBody GR,defScope GR,[],[]⟩
def fn_:List He.DefD:=[Xp,Vz,Ul,Um,Wf,Uo,QY,Xq,Xr,Xs,aaV,Xt,GT,Up,aaW,VA,Uq,YT,Ur,Xu,Xv,YU,YV,JJ,Qp,Xw,Us,Xx,Xy,QZ,Wg,Xz,VB,XA,Wh,Wi,XB,XC,Q0,Ut,Wj,YW,JX,YX,agI]
def fa_:List He.Fa:=[.glo "table_axes",.glo "sums_by_name",.glo "need_sum",.glo "own_axes",.glo "summed_axes",.glo "loops_of",.glo "meeting_pairs",.glo "readers_of",.glo "reached_by",.glo "closed_lot",.glo "lot_of",.glo "is_read_in",.glo "lacking",.glo "stops_in",.glo "way_to",.glo "ring_of_lots",.glo "_law_bag",.glo "_law_take",.glo "_law_one",.glo "_law_mixed",.glo "_law_alike",.glo "_law_flat",.glo "_law_some",.glo "_law_drawn_reads",.glo "_law_drawn_own",.glo "_law_sheet",.glo "_law_own",.glo "_law_names",.glo "_law_reads",.glo "_law_all_axes",.glo "_law_summed",.glo "_law_pairs",.glo "_law_readers",.glo "_law_below",.glo "_law_closed",.glo "_law_lot_of",.glo "_law_stops",.glo "_law_leads",.glo "_law_rich_own",.glo "_law_web",.glo "_law_is_way",.glo "_law_bare",.glo "_law_ring_wrong",.glo "_law_lots",.glo "law",.free "abs",.free "any",.free "dict",.free "int",.free "isinstance",.free "len",.free "list",.free "max",.free "range",.free "repr",.free "set",.free "sorted",.free "str",.free "tuple"]
abbrev hk_:PySem.W.Hook:=He.hookD 4 fa_ fn_
def ob_(s:PySem.W.SharedT):He.AlD:=He.obsDG 4 fa_ fn_ (HandSHeadRun.getT s)
theorem ob_eq_(s:PySem.W.SharedT):ob_ s=hk_.obs s.abs:=He.obsDG_eq (HandSHeadRun.getT_eq s)
def loose_:List Str:=("KeptError" : Str)::("NoName" : Str)::("table_axes" : Str)::("sums_by_name" : Str)::("need_sum" : Str)::("own_axes" : Str)::("summed_axes" : Str)::("loops_of" : Str)::("meeting_pairs" : Str)::("readers_of" : Str)::("reached_by" : Str)::("closed_lot" : Str)::("lot_of" : Str)::("is_read_in" : Str)::("lacking" : Str)::("stops_in" : Str)::("way_to" : Str)::("ring_of_lots" : Str)::("_law_bag" : Str)::("_law_take" : Str)::("_law_one" : Str)::("_law_mixed" : Str)::("_law_alike" : Str)::("_law_flat" : Str)::("_law_some" : Str)::("_law_drawn_reads" : Str)::("_law_drawn_own" : Str)::("_law_sheet" : Str)::("_law_own" : Str)::("_law_names" : Str)::("_law_reads" : Str)::("_law_all_axes" : Str)::("_law_summed" : Str)::("_law_pairs" : Str)::("_law_readers" : Str)::("_law_below" : Str)::("_law_closed" : Str)::("_law_lot_of" : Str)::("_law_stops" : Str)::("_law_leads" : Str)::("_law_rich_own" : Str)::("_law_web" : Str)::("_law_is_way" : Str)::("_law_bare" : Str)::("_law_ring_wrong" : Str)::("_law_lots" : Str)::[]
abbrev q_:Program:=PySem.W.view R_.prog [50]
theorem ahY(w:World)(os:PySem.OsState):Option.map (fun s:PySem.W.SharedT=>HandSHeadRun.looksF R_.prog (PySem.W.boot_heap w.params) s.abs) (HandSHeadRun.endF (HandSHeadRun.stepQ (HandSHeadRun.denQ HandSHeadRun.tabQ) R_.prog w) 4000 R_.prog w os)=some true:=by
 kernel_rfl
theorem ahZ(w:World)(os:PySem.OsState):Option.map (fun s:PySem.W.SharedT=>HandSHeadRun.seenQ q_ loose_ (PySem.importedModules R_.prog.main.body) (fun s=>PySem.W.xlAt q_ [] s&&PySem.W.recOk R_.records s) s.abs) (HandSHeadRun.endF (HandSHeadRun.stepQ (HandSHeadRun.denQ HandSHeadRun.tabQ) R_.prog w) 4000 R_.prog w os)=some (PySem.W.openGood q_ loose_):=by
 kernel_rfl
theorem ai0(w:World)(os:PySem.OsState):Option.map (fun s:PySem.W.SharedT=>ob_ s) (HandSHeadRun.endF (HandSHeadRun.stepQ (HandSHeadRun.denQ HandSHeadRun.tabQ) R_.prog w) 4000 R_.prog w os)=some (hk_.val w):=by
 kernel_rfl
theorem run_(w:World):HandSHeadRun.RunEq R_ (PySem.W.view R_.prog [50]) hk_ ob_ 4000 loose_ w:=by
 intro os
 have h1:=ahY w os
 have h2:=ahZ w os
 have h3:=ai0 w os
 generalize (HandSHeadRun.endF (HandSHeadRun.stepQ (HandSHeadRun.denQ HandSHeadRun.tabQ) R_.prog w) 4000 R_.prog w os)=e at h1 h2 h3 ⊢
 cases e with
 | none=>cases h1
 | some s =>
  have e1:=Option.some.inj h1
  have e2:=Option.some.inj h2
  have e3:=Option.some.inj h3
  exact congrArg some (Prod.ext e1 (Prod.ext e2 e3))
end KP
set_option maxHeartbeats 1000000
namespace KP
open PySem PySem.Spec PyProof.Rows L2
def Uu:Nat:=1000000
noncomputable section
def aeZ:SF:=(zg (vd (aic (xV 0)) (zh 2) [2] (zg (z9 1 (zV (za (zV (za (xC (.str "loop")) (za (xV 2) (za (xV 1) zb)))) zb))) zv)) (zg (ya (xV 1)) zv))
def af0:List D→Option D:=yZ 3 aeZ
def Zo:SF:=(zg (z9 2 (xLc (zG (xV 0)) (zh 6) vh (zY (za (xV 6) zb)) [6])) (zg (vd (zG (xV 1)) (jS 2 (yf (zh 3) (yf (zh 4) j9))) [5,8,6,3,4,7] (zg (z9 5 (xOp ixD (xLc (zG (xV 2)) (zh 8) (bT (xOp (inD false) (xV 3) (xV 8))) (xV 8) [8]) (xC (.int 0)))) (zg (sIf (bT (xOp (inD true) (xV 4) (xV 5))) (zg (z9 7 (xOp ixD (xLc (zG (xV 2)) (zh 8) (bT (xOp (inD false) (xV 4) (xV 8))) (xV 8) [8]) (xC (.int 0)))) (zg (z9 2 (xLc (zG (xV 2)) (zh 8) (vr (bT (xOp neD (xV 8) (xV 5))) (bT (xOp neD (xV 8) (xV 7)))) (xV 8) [8])) (zg (yI 2 (xLc (zG (xV 0)) (zh 6) (bOr (bT (xOp (inD false) (xV 6) (xV 5))) (bT (xOp (inD false) (xV 6) (xV 7)))) (xV 6) [6])) (aaj [7] zv)))) zv) zv))) (zg (ya (jC yu (za (xV 2) zb))) zv)))
def Zp:List D→Option D:=yZ 9 Zo
def ac7:SF:=(zg (z9 3 (xLc (zG (xOp ixD (xV 0) (xC (.int 1)))) (jS 3 (yf (zh 4) (yf (zh 5) (yf (zh 6) j9)))) (vr (bT (xOp (inD false) (xV 4) (xV 1))) (vr (bT (xOp (inD false) (xV 5) (xV 1))) (bT (xOp neD (xV 6) (xV 2))))) (zV (za (xV 4) (za (xV 5) zb))) [4,5,6])) (zg (ya (zy Zp (za (xV 1) (za (xV 3) zb)))) zv))
def ac8:List D→Option D:=yZ 7 ac7
def adG:SF:=(zg (z9 2 (aid (jT (za (xCB wx (za (xV 1) zb)) zb)) (zh 8) vh (xV 8) (zY zb) [8])) (zg (vd (zG (xOp ixD (xV 0) (xC (.int 1)))) (jS 3 (yf (zh 3) (yf (zh 4) (yf (zh 5) j9)))) [6,8,5,7,3,4,9] (zg (z9 6 (xLc (aap (za (xV 1) zb)) (jS 2 (yf (zh 8) (yf (zh 9) j9))) (bT (xOp (inD false) (xV 3) (xV 9))) (xV 8) [8,9])) (zg (z9 7 (xLc (aap (za (xV 1) zb)) (jS 2 (yf (zh 8) (yf (zh 9) j9))) (bT (xOp (inD false) (xV 4) (xV 9))) (xV 8) [8,9])) (zg (sIf (vr (bT (xOp neD (xV 6) (zY zb))) (vr (bT (xOp neD (xV 7) (zY zb))) (bT (xOp neD (xV 6) (xV 7))))) (zg (adr 2 (xOp ixD (xV 7) (xC (.int 0))) (xOp ixD (xV 6) (xC (.int 0)))) zv) zv) zv)))) (zg (Yn 2 (ya (xV 2))) zv)))
def adH:List D→Option D:=yZ 10 adG
def Uv:SF:=(zg (z9 3 (xLc (aap (za (xV 1) zb)) (jS 2 (yf (zh 6) (yf (zh 7) j9))) (bT (xOp (inD false) (xV 2) (xV 7))) (xV 6) [6,7])) (zg (vd (zG (xV 1)) (zh 4) [5,6,8,4] (zg (z9 5 (adq (zG (xV 3)) (zh 6) vh (zG (xOp vw (xV 0) (xV 6))) (zh 8) vh (xV 8) [6,8] [8])) (zg (z9 3 (xOp va (xV 3) (vS (xLc (zG (xV 5)) (zh 8) (bT (xOp (inD true) (xV 8) (xV 3))) (xV 8) [8])))) zv))) (zg (ya (xV 3)) zv)))
def Uw:List D→Option D:=yZ 9 Uv
def ac9:SF:=(zg (jb 5 6 (zy adH (za (xV 0) (za (xV 1) zb))) (zY zb)) (zg (z9 3 (zy Uw (za (xV 5) (za (xV 1) (za (xV 2) zb))))) (zg (vd (zG (xV 1)) (zh 4) [9,10,7,8,4] (zg (z9 7 (xLc (GJ (xV 5)) (zh 9) (vr (bT (xOp (inD true) (xV 9) (xV 6))) (bT (xCB agZ (za (xLc (zG (xOp vw (xV 5) (xV 9))) (zh 10) vh ((xOp (inD false) (xV 10) (xV 6))) [10]) zb)))) (xV 9) [9])) (zg (z9 8 (xLc (zG (xV 7)) (zh 9) (bT (xOp (inD false) (xV 9) (xV 3))) (xV 9) [9])) (zg (yI 6 (xIf (bT (xOp neD (xV 8) (zY zb))) (xOp ixD (xV 8) (xC (.int 0))) (xOp ixD (xV 7) (xC (.int 0))))) zv)))) (zg (ya (xLc (zG (xV 6)) (zh 9) vh (xOp ixD (xV 1) (xV 9)) [9])) zv))))
def aca:List D→Option D:=yZ 11 ac9
def U8:SF:=(zg (z9 2 (xLc (zG (xOp ixD (xV 0) (xC (.int 1)))) (jS 3 (yf (zh 3) (yf (zh 4) (yf (zh 5) j9)))) (vr (bT (xOp (inD false) (xV 3) (xV 1))) (bT (xOp (inD false) (xV 4) (xV 1)))) (xV 5) [3,4,5])) (zg (ya (xCB yq (za (xLc (zG (xOp ixD (xV 2) (xC (.int 0)))) (zh 6) (bT (xCB agZ (za (xLc (zG (xV 2)) (zh 5) vh ((xOp (inD false) (xV 6) (xV 5))) [5]) zb))) (xV 6) [6]) zb))) zv))
def U9:List D→Option D:=yZ 7 U8
def aht(af2:List D→Option D):SF:=(zg (jb 5 6 (zV zb) (abN (zG (xOp ixD (xV 0) (xC (.int 0)))) (jS 2 (yf (zh 9) (yf (zh 7) j9))) vh (xV 9) (xV 7) [9,7])) (zg (vd (zG (zy aca (za (xV 0) (za (zy ac8 (za (xV 0) (za (xV 1) (za (xV 2) zb)))) (za (xV 3) zb))))) (zh 4) [7,10,8,4] (zg (sIf (bT (xOp eqD (xCB wx (za (xV 4) zb)) (xC (.int 1)))) (zg (jb 7 8 (xOp vw (xV 6) (xOp ixD (xV 4) (xC (.int 0)))) (zV (za (zV (za (xC (.str "add")) (za (xOp ixD (xV 4) (xC (.int 0))) zb))) zb))) zv) (zg (z9 7 (zy U9 (za (xV 0) (za (xV 4) zb)))) (zg (z9 8 (zy af2 (za (xV 0) (za (xV 4) (za (xV 7) (za (xV 3) zb)))))) zv))) (zg (z9 5 (xOp va (xV 5) (zy af0 (za (xLc (zG (xV 7)) (zh 10) (bT (xOp (inD true) (xV 10) (xV 2))) (xV 10) [10]) (za (xV 8) zb))))) zv))) (zg (ya (xV 5)) zv)))
def af1:Nat→(List D→Option D)
 | 0=>fun _=>none
 | n+1=>yZ 11 (aht (af1 n))
def af2:List D→Option D:=af1 12
end
end KP
namespace PL
variable {α:Type} [DecidableEq α]
def Ch(R:α→α→Prop):List α→Prop
 | a::b::l=>R a b∧Ch R (b::l)
 | _=>True
theorem Ch.tail{R:α→α→Prop}:∀ {a:α} {l:List α},Ch R (a::l)→Ch R l
 | _,[],_=>trivial
 | _,_::_,h=>h.2
theorem VX{R:α→α→Prop}:∀ {l m:List α},Ch R (l++m)↔Ch R l∧Ch R m∧∀a∈l.getLast?,∀b∈m.head?,R a b
 | [],m=>by simp[Ch]
 | [a],[]=>by simp[Ch]
 | [a],b::m=>by simp[Ch,and_comm]
 | a::b::l,m=>by
  have h:=VX (R:=R) (l:=b::l) (m:=m)
  simp only[List.cons_append] at h ⊢
  simp only[Ch,h,List.getLast?_cons_cons]
  constructor
  ·rintro⟨h1,h2,h3,h4⟩;exact⟨⟨h1,h2⟩,h3,h4⟩
  ·rintro⟨⟨h1,h2⟩,h3,h4⟩;exact⟨h1,h2,h3,h4⟩
theorem Ch.mono{R S:α→α→Prop}(h:∀a b,R a b→S a b):∀ {l:List α},Ch R l→Ch S l
 | [],_=>trivial
 | [_],_=>trivial
 | a::b::l,⟨h1,h2⟩=>⟨h a b h1,Ch.mono h h2⟩
theorem Ux{R:α→α→Prop}:∀ {l:List α},Ch R l→Ch (fun a b=>R b a) l.reverse
 | [],_=>trivial
 | a::l,h=>by
  rw[List.reverse_cons,VX]
  refine⟨Ux h.tail,trivial,fun x hx b hb=>?_⟩
  simp at hb
  subst hb
  cases l with
  | nil=>simp at hx
  | cons c l =>
   simp at hx
   subst hx
   exact h.1
def lim:Nat:=16000000
def W:Nat→Nat
 | 0=>1
 | k+1=>1+(k+1)*W k
structure Pth(names:List α)(UB:α→List α)(path:List α):Prop where
 nd:path.Nodup
 ne:path≠[]
 sub:∀x∈path,x∈names
 ch:Ch (fun a b=>b∈UB a) path
theorem Pth.len{names:List α}{UB:α→List α}{path:List α}(h:Pth names UB path):path.length≤names.length:=h.nd.length_le_of_subset fun x hx=>h.sub x hx
section
variable {names:List α} {UB:α→List α} (hn:∀x∈names,(UB x).Nodup∧∀y∈UB x,y∈names)
include hn
end
end PL
namespace PL
variable {α:Type} [DecidableEq α]
structure Plan(α:Type) where
 steps:List (α×List α)
 pairs:List (α×α×List α)
def Plan.names(p:Plan α):List α:=p.steps.map (·.1)
def adj(pairs:List (α×α×List α))(x:α):List α:=pairs.flatMap fun q=>(if q.1=x then [q.2.1] else [])++(if q.2.1=x then [q.1] else [])
structure WF(p:Plan α):Prop where
 nd:p.names.Nodup
 ends:∀q∈p.pairs,q.1∈p.names∧q.2.1∈p.names∧q.1≠q.2.1
 uniq:p.pairs.Pairwise fun q r=>¬(q.1=r.1∧q.2.1=r.2.1)∧¬(q.1=r.2.1∧q.2.1=r.1)
 few:p.names.length≤8
 lots:∀q∈p.pairs,q.2.2.Nodup
 sub:∀q∈p.pairs,∀s∈p.steps,(s.1=q.1∨s.1=q.2.1)→∀x∈q.2.2,x∈s.2
 loops:∀s∈p.steps,s.2.Nodup
theorem IT{pairs:List (α×α×List α)}{x y:α}:y∈adj pairs x↔∃l,(x,y,l)∈pairs∨(y,x,l)∈pairs:=by
 unfold adj
 rw[List.mem_flatMap]
 constructor
 ·rintro⟨⟨a,b,l⟩,h1,h2⟩
  rw[List.mem_append] at h2
  dsimp only at h2
  rcases h2 with h2 | h2
  ·split at h2
   ·rename_i e;subst e;simp at h2;subst h2;exact⟨l,.inl h1⟩
   ·cases h2
  ·split at h2
   ·rename_i e;subst e;simp at h2;subst h2;exact⟨l,.inr h1⟩
   ·cases h2
 ·rintro⟨l,h | h⟩
  ·exact⟨_,h,by simp⟩
  ·exact⟨_,h,by simp⟩
theorem XD{pairs:List (α×α×List α)}{x y:α}:y∈adj pairs x↔x∈adj pairs y:=by
 rw[IT,IT]
 exact⟨fun⟨l,h⟩=>⟨l,h.symm⟩,fun⟨l,h⟩=>⟨l,h.symm⟩⟩
section
variable {p:Plan α} (w:WF p)
include w
theorem WF.once{a b:α}{l m:List α}(h1:(a,b,l)∈p.pairs)(h2:(a,b,m)∈p.pairs∨(b,a,m)∈p.pairs):(a,b,m)∈p.pairs∧l=m:=by
 have key:∀ {pairs:List (α×α×List α)},(pairs.Pairwise fun q r=>¬(q.1=r.1∧q.2.1=r.2.1)∧¬(q.1=r.2.1∧q.2.1=r.1))→(a,b,l)∈pairs→((a,b,m)∈pairs∨(b,a,m)∈pairs)→a≠b→(a,b,m)∈pairs∧l=m:=by
  intro pairs u
  induction pairs with
  | nil=>intro h;cases h
  | cons q qs ih =>
   intro h1 h2 hab
   rw[List.pairwise_cons] at u
   rcases List.mem_cons.mp h1 with e | h1
   ·rcases h2 with h2 | h2
    ·rcases List.mem_cons.mp h2 with e2 | h2
     ·have:=e.trans e2.symm
      cases this
      exact⟨by simp[e],rfl⟩
     ·exact absurd ⟨by rw[←e],by rw[←e]⟩ (u.1 _ h2).1
    ·rcases List.mem_cons.mp h2 with e2 | h2
     ·have:=e.trans e2.symm
      cases this
      exact absurd rfl hab
     ·exact absurd ⟨by rw[←e],by rw[←e]⟩ (u.1 _ h2).2
   ·rcases h2 with h2 | h2
    ·rcases List.mem_cons.mp h2 with e2 | h2
     ·exact absurd ⟨by rw[←e2],by rw[←e2]⟩ (u.1 _ h1).1
     ·obtain⟨z1,z2⟩:=ih u.2 h1 (.inl h2) hab
      exact⟨List.mem_cons_of_mem _ z1,z2⟩
    ·rcases List.mem_cons.mp h2 with e2 | h2
     ·exact absurd ⟨by rw[←e2],by rw[←e2]⟩ (u.1 _ h1).2
     ·obtain⟨z1,z2⟩:=ih u.2 h1 (.inr h2) hab
      exact⟨List.mem_cons_of_mem _ z1,z2⟩
 exact key w.uniq h1 h2 (w.ends _ h1).2.2
end
end PL
namespace PL
variable {α:Type} [DecidableEq α]
abbrev Qq(α:Type):=α×α×List α
def lotAt:List (Qq α)→α→α→Option (List α)
 | [],_,_=>none
 | q::qs,a,b=>if q.1=a∧q.2.1=b then some q.2.2 else lotAt qs a b
def link(p:Plan α)(a b:α):List α×Bool:=match lotAt p.pairs a b with
 | some l=>(l,true)
 | none=>((lotAt p.pairs b a).getD [],false)
def jB(p:Plan α):List α→List (List α×Bool)
 | a::b::l=>link p a b::jB p (b::l)
 | _=>[]
def ahu:List (List α×Bool)→List α
 | []=>[]
 | k::ks=>k.1.filter fun x=>(k::ks).all fun j=>decide (x∈j.1)
def acb(s:List α):Nat→List (List α×Bool)→List (Nat×Bool)
 | _,[]=>[]
 | n,k::ks=>if k.1=s then(n,k.2)::acb s (n+1) ks else acb s (n+1) ks
theorem VY:∀ {qs:List (Qq α)} {a b:α} {l:List α},lotAt qs a b=some l→(a,b,l)∈qs
 | q::qs,a,b,l,h=>by
  unfold lotAt at h
  split at h
  ·rename_i e
   obtain⟨e1,e2⟩:=e
   cases h
   subst e1 e2
   simp
  ·exact List.mem_cons_of_mem _ (VY h)
theorem Uy:∀ {qs:List (Qq α)} {a b:α},lotAt qs a b=none→∀l,(a,b,l)∉qs
 | [],_,_,_,_=>by simp
 | q::qs,a,b,h,l=>by
  unfold lotAt at h
  split at h
  ·cases h
  ·rename_i e
   intro z
   rcases List.mem_cons.mp z with z | z
   ·subst z;exact e ⟨rfl,rfl⟩
   ·exact Uy h l z
section
variable {p:Plan α} (w:WF p)
include w
theorem WF.lotAt{a b:α}{l:List α}:lotAt p.pairs a b=some l↔(a,b,l)∈p.pairs:=by
 refine⟨VY,fun h=>?_⟩
 cases e:PL.lotAt p.pairs a b with
 | none=>exact absurd h (Uy e l)
 | some m=>rw[(w.once (VY e) (.inl h)).2]
theorem WF.link{a b:α}(h:b∈adj p.pairs a):∃l,(((a,b,l)∈p.pairs∧PL.link p a b=(l,true))∨((b,a,l)∈p.pairs∧PL.link p a b=(l,false)∧PL.lotAt p.pairs a b=none∧PL.lotAt p.pairs b a=some l)):=by
 unfold PL.link
 obtain⟨l,h | h⟩:=IT.mp h
 ·refine⟨l,.inl ⟨h,?_⟩⟩
  rw[w.lotAt.mpr h]
 ·refine⟨l,.inr ⟨h,?_⟩⟩
  have e:PL.lotAt p.pairs a b=none:=by
   cases e:PL.lotAt p.pairs a b with
   | none=>rfl
   | some m =>
    have h1:=VY e
    have h2:=(w.once h1 (.inr h)).1
    have:=(w.once h1 (.inr h))
    -- (a,b) and (b,a) cannot both stand
    have h3:=(w.once h (.inr h1)).1
    have u:=w.uniq
    exfalso
    have key:∀ {qs:List (Qq α)},(qs.Pairwise fun q r=>¬(q.1=r.1∧q.2.1=r.2.1)∧¬(q.1=r.2.1∧q.2.1=r.1))→(a,b,m)∈qs→(b,a,l)∈qs→a≠b→False:=by
     intro qs u
     induction qs with
     | nil=>intro h;cases h
     | cons q qs ih =>
      intro g1 g2 hab
      rw[List.pairwise_cons] at u
      rcases List.mem_cons.mp g1 with g1 | g1
      ·rcases List.mem_cons.mp g2 with g2 | g2
       ·have:=g1.trans g2.symm
        cases this
        exact hab rfl
       ·exact(u.1 _ g2).2 ⟨by rw[←g1],by rw[←g1]⟩
      ·rcases List.mem_cons.mp g2 with g2 | g2
       ·exact(u.1 _ g1).2 ⟨by rw[←g2],by rw[←g2]⟩
       ·exact ih u.2 g1 g2 hab
    exact key u h1 h (w.ends _ h1).2.2
  rw[e,w.lotAt.mpr h]
  exact⟨rfl,rfl,rfl⟩
end
theorem GU(p:Plan α):∀l:List α,(jB p l).length=l.length - 1
 | []=>rfl
 | [_]=>rfl
 | _::b::l=>by
  show(jB p (b::l)).length+1=_
  rw[GU p (b::l)]
  simp
theorem GV{p:Plan α}(w:WF p):∀ {l:List α},Ch (fun a b=>b∈adj p.pairs a) l→∀k∈jB p l,∃a b,a∈l∧b∈l∧((a,b,k.1)∈p.pairs∨(b,a,k.1)∈p.pairs)
 | [],_,k,hk=>by cases hk
 | [_],_,k,hk=>by cases hk
 | a::b::l,h,k,hk=>by
  rcases List.mem_cons.mp (show k∈link p a b::jB p (b::l) from hk) with e | hk
  ·obtain⟨m,⟨h1,h2⟩ | ⟨h1,h2,_⟩⟩:=w.link h.1
   ·rw[e,h2];exact⟨a,b,by simp,by simp,.inl h1⟩
   ·rw[e,h2];exact⟨a,b,by simp,by simp,.inr h1⟩
  ·obtain⟨x,y,h1,h2,h3⟩:=GV w h.2 k hk
   exact⟨x,y,List.mem_cons_of_mem _ h1,List.mem_cons_of_mem _ h2,h3⟩
end PL
namespace PL
variable {α:Type} [DecidableEq α]
inductive Rch(R:α→α→Prop):α→α→Prop
 | refl (a:α):Rch R a a
 | step {a b c:α}:R a b→Rch R b c→Rch R a c
theorem Rch.trans{R:α→α→Prop}{a b c:α}(h:Rch R a b)(k:Rch R b c):Rch R a c:=by
 induction h with
 | refl=>exact k
 | step h1 _ ih=>exact .step h1 (ih k)
theorem Rch.mono{R S:α→α→Prop}(hRS:∀a b,R a b→S a b){a b:α}(h:Rch R a b):Rch S a b:=by
 induction h with
 | refl=>exact .refl _
 | step h1 _ ih=>exact .step (hRS _ _ h1) ih
theorem Rch.symm{R:α→α→Prop}(hs:∀a b,R a b→R b a){a b:α}(h:Rch R a b):Rch R b a:=by
 induction h with
 | refl=>exact .refl _
 | step h1 _ ih=>exact ih.trans (.step (hs _ _ h1) (.refl _))
abbrev Uz(l:List α)(done:List (α×α))(a b:α):Prop:=a∈l∧b∈l∧((a,b)∈done∨(b,a)∈done)
structure Lots(names:List α)(done:List (α×α))(lots:List (List α)):Prop where
 nd:∀l∈lots,l.Nodup
 dj:lots.Pairwise fun l m=>∀x∈l,x∉m
 ne:∀l∈lots,l≠[]
 mem:∀x,(∃l∈lots,x∈l)↔x∈names
 join:∀q∈done,∃l∈lots,q.1∈l∧q.2∈l
 conn:∀l∈lots,∀x∈l,∀y∈l,Rch (Uz l done) x y
theorem agc{l m:List α}(h:∀x∈l,x∉m):∀x∈m,x∉l:=fun x hx hl=>h x hl hx
theorem Lots.perm{names:List α}{done:List (α×α)}{lots lots':List (List α)}(L:Lots names done lots)(h:lots'.Perm lots):Lots names done lots' where
 nd:=fun l hl=>L.nd l (h.mem_iff.mp hl)
 dj:=L.dj.perm h.symm fun h=>agc h
 ne:=fun l hl=>L.ne l (h.mem_iff.mp hl)
 mem:=fun x=>by rw[←L.mem x];exact⟨fun⟨l,h1,h2⟩=>⟨l,h.mem_iff.mp h1,h2⟩,fun⟨l,h1,h2⟩=>⟨l,h.mem_iff.mpr h1,h2⟩⟩
 join:=fun q hq=>let ⟨l,h1,h2⟩:=L.join q hq;⟨l,h.mem_iff.mpr h1,h2⟩
 conn:=fun l hl=>L.conn l (h.mem_iff.mp hl)
theorem Lots.start{names:List α}(nd:names.Nodup):Lots names [] (names.map fun x=>[x]) where
 nd:=fun l hl=>by obtain⟨x,_,rfl⟩:=List.mem_map.mp hl;simp
 dj:=by
  rw[List.pairwise_map]
  exact nd.imp fun h x hx=>by simp at hx ⊢;subst hx;exact h
 ne:=fun l hl=>by obtain⟨x,_,rfl⟩:=List.mem_map.mp hl;simp
 mem:=fun x=>by
  constructor
  ·rintro⟨l,h1,h2⟩
   obtain⟨y,h3,rfl⟩:=List.mem_map.mp h1
   simp at h2;subst h2;exact h3
  ·intro h;exact⟨[x],List.mem_map.mpr ⟨x,h,rfl⟩,by simp⟩
 join:=fun q hq=>by cases hq
 conn:=fun l hl x hx y hy=>by
  obtain⟨z,_,rfl⟩:=List.mem_map.mp hl
  simp at hx hy
  subst hx hy
  exact .refl _
theorem GW{lots:List (List α)}(dj:lots.Pairwise fun l m=>∀x∈l,x∉m){x:α}{l:List α}(hl:l∈lots)(hx:x∈l):lots.filter (fun m=>decide (x∈m))=[l]:=by
 induction lots with
 | nil=>cases hl
 | cons m lots ih =>
  rw[List.pairwise_cons] at dj
  rcases List.mem_cons.mp hl with e | hl
  ·subst e
   rw[List.filter_cons_of_pos (by simpa using hx)]
   congr 1
   rw[List.filter_eq_nil_iff]
   intro k hk
   simpa using dj.1 k hk x hx
  ·rw[List.filter_cons_of_neg (by simpa using fun h=>dj.1 l hl x h hx)]
   exact ih dj.2 hl
theorem agJ{lots:List (List α)}(dj:lots.Pairwise fun l m=>∀x∈l,x∉m){x:α}{l m:List α}(hl:l∈lots)(hm:m∈lots)(h1:x∈l)(h2:x∈m):l=m:=by
 have e1:=GW dj hl h1
 have e2:=GW dj hm h2
 rw[e1] at e2
 simpa using e2
section
variable {names:List α} {done:List (α×α)} {lots:List (List α)}
theorem Lots.same{a b:α}(L:Lots names done lots){l:List α}(hl:l∈lots)(ha:a∈l)(hb:b∈l):Lots names (done++[(a,b)]) lots where
 nd:=L.nd
 dj:=L.dj
 ne:=L.ne
 mem:=L.mem
 join:=fun q hq=>by
  rcases List.mem_append.mp hq with h | h
  ·exact L.join q h
  ·simp at h;subst h;exact⟨l,hl,ha,hb⟩
 conn:=fun l hl x hx y hy=>(L.conn l hl x hx y hy).mono fun c d ⟨h1,h2,h3⟩=>⟨h1,h2,h3.imp (fun h=>List.mem_append_left _ h) fun h=>List.mem_append_left _ h⟩
theorem Lots.merge{a b:α}(nd:names.Nodup)(L:Lots names done lots){f s:List α}(hf:f∈lots)(hs:s∈lots)(ha:a∈f)(hb:b∈s) :
  Lots names (done++[(a,b)]) ((lots.filter fun l=>!decide (l=f)&&!decide (l=s))++[names.filter fun x=>decide (x∈f)||decide (x∈s)]) where
 nd:=fun l hl=>by
  rcases List.mem_append.mp hl with h | h
  ·exact L.nd l (List.mem_filter.mp h).1
  ·simp at h;subst h;exact nd.sublist List.filter_sublist
 dj:=by
  rw[List.pairwise_append]
  refine⟨L.dj.filter _,by simp,fun l hl m hm x hx hxm=>?_⟩
  simp only[List.mem_filter,Bool.and_eq_true,Bool.not_eq_true',decide_eq_false_iff_not] at hl
  simp at hm
  subst hm
  simp only[List.mem_filter,Bool.or_eq_true,decide_eq_true_eq] at hxm
  rcases hxm.2 with h | h
  ·exact hl.2.1 (agJ L.dj hl.1 hf hx h)
  ·exact hl.2.2 (agJ L.dj hl.1 hs hx h)
 ne:=fun l hl=>by
  rcases List.mem_append.mp hl with h | h
  ·exact L.ne l (List.mem_filter.mp h).1
  ·simp at h
   subst h
   intro e
   have:a∈names.filter fun x=>decide (x∈f)||decide (x∈s):=by
    rw[List.mem_filter]
    exact⟨(L.mem a).mp ⟨f,hf,ha⟩,by simp[ha]⟩
   rw[e] at this
   cases this
 mem:=fun x=>by
  constructor
  ·rintro⟨l,h1,h2⟩
   rcases List.mem_append.mp h1 with h | h
   ·exact(L.mem x).mp ⟨l,(List.mem_filter.mp h).1,h2⟩
   ·simp at h;subst h;exact(List.mem_filter.mp h2).1
  ·intro h
   obtain⟨l,h1,h2⟩:=(L.mem x).mpr h
   by_cases e:l=f∨l=s
   ·refine⟨_,List.mem_append_right _ (List.mem_singleton.mpr rfl),?_⟩
    rw[List.mem_filter]
    rcases e with e | e <;> subst e <;> simp[h,h2]
   ·refine⟨l,List.mem_append_left _ ?_,h2⟩
    rw[List.mem_filter]
    simp[h1,not_or.mp e]
 join:=fun q hq=>by
  have inM:∀x,(x∈f∨x∈s)→x∈names.filter fun x=>decide (x∈f)||decide (x∈s):=fun x hx=>by
   rw[List.mem_filter]
   exact⟨(L.mem x).mp (hx.elim (fun h=>⟨f,hf,h⟩) fun h=>⟨s,hs,h⟩),by simpa using hx⟩
  rcases List.mem_append.mp hq with h | h
  ·obtain⟨l,h1,h2,h3⟩:=L.join q h
   by_cases e:l=f∨l=s
   ·refine⟨_,List.mem_append_right _ (List.mem_singleton.mpr rfl),inM _ ?_,inM _ ?_⟩
    ·rcases e with e | e
     ·exact .inl (e▸h2)
     ·exact .inr (e▸h2)
    ·rcases e with e | e
     ·exact .inl (e▸h3)
     ·exact .inr (e▸h3)
   ·refine⟨l,List.mem_append_left _ ?_,h2,h3⟩
    rw[List.mem_filter]
    simp[h1,not_or.mp e]
  ·simp at h
   subst h
   exact⟨_,List.mem_append_right _ (List.mem_singleton.mpr rfl),inM _ (.inl ha),inM _ (.inr hb)⟩
 conn:=fun l hl x hx y hy=>by
  have up:∀ {l:List α} {m:List α},(∀z∈l,z∈m)→∀c d,Uz l done c d→Uz m (done++[(a,b)]) c d:=fun h c d ⟨h1,h2,h3⟩=>⟨h c h1,h d h2,h3.imp (fun h=>List.mem_append_left _ h) fun h=>List.mem_append_left _ h⟩
  rcases List.mem_append.mp hl with h | h
  ·exact(L.conn l (List.mem_filter.mp h).1 x hx y hy).mono (up fun z hz=>hz)
  ·simp at h
   subst h
   have inM:∀x,(x∈f∨x∈s)→x∈names.filter fun x=>decide (x∈f)||decide (x∈s):=fun x hx=>by
    rw[List.mem_filter]
    exact⟨(L.mem x).mp (hx.elim (fun h=>⟨f,hf,h⟩) fun h=>⟨s,hs,h⟩),by simpa using hx⟩
   have uf:=up (l:=f) fun z hz=>inM z (.inl hz)
   have us:=up (l:=s) fun z hz=>inM z (.inr hz)
   have ab:Rch (Uz (names.filter fun x=>decide (x∈f)||decide (x∈s)) (done++[(a,b)])) a b:=.step ⟨inM a (.inl ha),inM b (.inr hb),.inl (by simp)⟩ (.refl _)
   have ba:Rch (Uz (names.filter fun x=>decide (x∈f)||decide (x∈s)) (done++[(a,b)])) b a:=.step ⟨inM b (.inr hb),inM a (.inl ha),.inr (by simp)⟩ (.refl _)
   simp only[List.mem_filter,Bool.or_eq_true,decide_eq_true_eq] at hx hy
   rcases hx.2 with h1 | h1
   ·rcases hy.2 with h2 | h2
    ·exact(L.conn f hf x h1 y h2).mono uf
    ·exact((L.conn f hf x h1 a ha).mono uf).trans (ab.trans ((L.conn s hs b hb y h2).mono us))
   ·rcases hy.2 with h2 | h2
    ·exact((L.conn s hs x h1 b hb).mono us).trans (ba.trans ((L.conn f hf a ha y h2).mono uf))
    ·exact(L.conn s hs x h1 y h2).mono us
theorem Lots.few(nd:names.Nodup)(L:Lots names done lots):lots.length≤names.length:=by
 have key:∀(lots:List (List α)) (S:List α),S.Nodup→lots.Pairwise (fun l m=>∀x∈l,x∉m)→(∀l∈lots,l≠[])→(∀l∈lots,∀x∈l,x∈S)→lots.length≤S.length:=by
  intro lots
  induction lots with
  | nil=>intros;simp
  | cons l lots ih =>
   intro S nd dj ne sub
   rw[List.pairwise_cons] at dj
   obtain⟨x,hx⟩:=List.exists_mem_of_ne_nil l (ne l (by simp))
   have hxS:=sub l (by simp) x hx
   have:=ih (S.erase x) (nd.erase x) dj.2 (fun m hm=>ne m (by simp[hm])) fun m hm y hy=>by
    have hyS:=sub m (by simp[hm]) y hy
    rw[List.Nodup.mem_erase_iff nd]
    exact⟨fun e=>dj.1 m hm x hx (e▸hy),hyS⟩
   rw[List.length_erase_of_mem hxS] at this
   have:=List.length_pos_of_mem hxS
   simp
   omega
 exact key lots names nd L.dj L.ne fun l hl x hx=>(L.mem x).mp ⟨l,hl,hx⟩
end
end PL
namespace PL
variable {α:Type} [DecidableEq α]
inductive Knot(α:Type) where
 | add (x:α)
 | loop (a:α) (ks:List (Knot α))
def af3:List α→List (Knot α)→List (Knot α)
 | [],ks=>ks
 | a::as,ks=>[.loop a (af3 as ks)]
def JK(p:Plan α)(S:List α):List (List α):=(p.pairs.filter fun q=>decide (q.1∈S)&&decide (q.2.1∈S)).map (·.2.2)
def prs(p:Plan α)(S over:List α):List (α×α):=(p.pairs.filter fun q=>decide (q.1∈S)&&(decide (q.2.1∈S)&&!decide (q.2.2=over))).map fun q=>(q.1,q.2.1)
def adI:List (List α)→List α
 | []=>[]
 | r::rs=>r.filter fun x=>(r::rs).all fun m=>decide (x∈m)
end PL
namespace PL
variable {α:Type} [DecidableEq α]
theorem QI(p:Plan α):∀(l m:List α) {a b:α},l.getLast? = some a→m.head? = some b→jB p (l++m)=jB p l++link p a b::jB p m
 | [],_,_,_,h,_=>by cases h
 | [x],m,a,b,h,k=>by
  simp at h
  subst h
  cases m with
  | nil=>cases k
  | cons y m=>simp at k;subst k;rfl
 | x::y::l,m,a,b,h,k=>by
  have:=QI p (y::l) m (a:=a) (b:=b) (by rw[List.getLast?_cons_cons] at h;exact h) k
  show link p x y::jB p (y::l++m)=_
  rw[this]
  rfl
def af4(k:List α×Bool):List α×Bool:=(k.1,!k.2)
section
variable {p:Plan α} (w:WF p)
include w
theorem adJ{a b:α}(h:b∈adj p.pairs a):link p b a=af4 (link p a b):=by
 obtain⟨l,⟨h1,h2⟩ | ⟨h1,h2,h3,h4⟩⟩:=w.link h
 ·obtain⟨m,⟨k1,k2⟩ | ⟨k1,k2,k3,k4⟩⟩:=w.link (XD.mp h)
  ·-- both ways: not so
   have e:=(w.lotAt (a:=b) (b:=a)).mpr k1
   have e1:=(w.lotAt (a:=a) (b:=b)).mpr h1
   exfalso
   have z:=(w.once h1 (.inr k1)).1
   obtain⟨m2,⟨j1,j2⟩ | ⟨j1,j2,j3,j4⟩⟩:=w.link h
   ·-- use: a link tells either only
    have key:∀ {qs:List (Qq α)},(qs.Pairwise fun q r=>¬(q.1=r.1∧q.2.1=r.2.1)∧¬(q.1=r.2.1∧q.2.1=r.1))→(a,b,l)∈qs→(b,a,m)∈qs→a≠b→False:=by
     intro qs u
     induction qs with
     | nil=>intro h;cases h
     | cons q qs ih =>
      intro g1 g2 hab
      rw[List.pairwise_cons] at u
      rcases List.mem_cons.mp g1 with g1 | g1
      ·rcases List.mem_cons.mp g2 with g2 | g2
       ·have:=g1.trans g2.symm
        cases this
        exact hab rfl
       ·exact(u.1 _ g2).2 ⟨by rw[←g1],by rw[←g1]⟩
      ·rcases List.mem_cons.mp g2 with g2 | g2
       ·exact(u.1 _ g1).2 ⟨by rw[←g2],by rw[←g2]⟩
       ·exact ih u.2 g1 g2 hab
    exact key w.uniq h1 k1 (w.ends _ h1).2.2
   ·rw[e1] at j3;cases j3
  ·rw[k2,h2]
   have:=(w.once h1 (.inl k1)).2
   subst this
   rfl
 ·obtain⟨m,⟨k1,k2⟩ | ⟨k1,k2,k3,k4⟩⟩:=w.link (XD.mp h)
  ·rw[k2,h2]
   have:=(w.once h1 (.inl k1)).2
   subst this
   rfl
  ·rw[h4] at k3;cases k3
theorem Wk:∀ {q:List α},Ch (fun a b=>b∈adj p.pairs a) q→jB p q.reverse=((jB p q).map af4).reverse
 | [],_=>rfl
 | [_],_=>rfl
 | a::b::q,h=>by
  have ih:=Wk (q:=b::q) h.2
  rw[List.reverse_cons,QI p (b::q).reverse [a] (a:=b) (b:=a) (by simp) rfl,ih,adJ w h.1]
  show _=((af4 (link p a b))::(jB p (b::q)).map af4).reverse
  rw[List.reverse_cons]
  rfl
end
def Lst(ks:List (List α×Bool))(k:List α×Bool):Prop:=k∈ks∧∀j∈ks,∀x∈k.1,x∈j.1
theorem Lst.perm{ks ks':List (List α×Bool)}(h:ks.Perm ks'){k:List α×Bool}:Lst ks k↔Lst ks' k:=by
 unfold Lst
 rw[h.mem_iff]
 exact and_congr_right fun _=>⟨fun z j hj=>z j (h.mem_iff.mpr hj),fun z j hj=>z j (h.mem_iff.mp hj)⟩
structure Cyc(p:Plan α)(c:List α):Prop where
 nd:c.Nodup
 len:3≤c.length
 ch:Ch (fun a b=>b∈adj p.pairs a) (c++c.take 1)
def J8(p:Plan α)(c:List α):List (List α×Bool):=jB p (c++c.take 1)
theorem Cyc.rot{p:Plan α}{x:α}{t:List α}(h:Cyc p (x::t)):Cyc p (t++[x])∧(J8 p (t++[x])).Perm (J8 p (x::t)):=by
 have hl:=h.len
 cases t with
 | nil=>simp at hl
 | cons y t =>
  have hch:=h.ch
  have e1:(x::y::t)++(x::y::t).take 1=x::(y::t++[x]):=rfl
  have e2:(y::t++[x])++(y::t++[x]).take 1=(y::t++[x])++[y]:=rfl
  rw[e1] at hch
  refine⟨⟨?_,?_,?_⟩,?_⟩
  ·have:=h.nd
   rw[List.nodup_cons] at this
   rw[List.nodup_append]
   exact⟨this.2,by simp,fun a ha b hb=>by simp at hb;subst hb;exact fun e=>this.1 (e▸ha)⟩
  ·simp at hl ⊢;omega
  ·rw[e2,VX]
   refine⟨hch.2,trivial,fun a ha b hb=>?_⟩
   have elast:(y::t++[x]).getLast? = some x:=List.getLast?_concat ..
   rw[elast] at ha
   simp at ha hb
   subst ha hb
   exact hch.1
  ·unfold J8
   rw[e1,e2,QI p (y::t++[x]) [y] (a:=x) (b:=y) (List.getLast?_concat ..) rfl]
   show(jB p (y::t++[x])++[link p x y]).Perm (link p x y::jB p (y::t++[x]))
   exact List.perm_append_singleton _ _
theorem Cyc.turned{p:Plan α}(w:WF p){x:α}{t:List α}(h:Cyc p (x::t)):Cyc p (x::t.reverse)∧J8 p (x::t.reverse)=((J8 p (x::t)).map af4).reverse:=by
 have e:(x::t.reverse)++(x::t.reverse).take 1=((x::t)++(x::t).take 1).reverse:=by simp
 refine⟨⟨?_,by have:=h.len;simpa using this,?_⟩,?_⟩
 ·have:=h.nd
  rw[List.nodup_cons] at this ⊢
  exact⟨by simpa using this.1,(List.reverse_perm t).nodup_iff.mpr this.2⟩
 ·rw[e]
  exact Ch.mono (fun a b h=>XD.mp h) (Ux h.ch)
 ·unfold J8
  rw[e,Wk w h.ch]
theorem Cyc.from{p:Plan α}:∀(u:List α) {v:List α} {m:α},Cyc p (u++m::v)→Cyc p (m::v++u)∧(J8 p (m::v++u)).Perm (J8 p (u++m::v))
 | [],v,m,h=>by rw[List.append_nil];exact⟨h,.refl _⟩
 | x::u,v,m,h=>by
  obtain⟨h1,h2⟩:=h.rot
  have e:(u++m::v)++[x]=u++m::(v++[x]):=by simp
  have h1':Cyc p (u++m::(v++[x])):=e▸h1
  obtain⟨h3,h4⟩:=Cyc.from u h1'
  have e2:m::(v++[x])++u=m::v++(x::u):=by simp
  rw[e2] at h3 h4
  rw[←e] at h4
  exact⟨h3,h4.trans h2⟩
end PL
namespace PL
variable {α:Type} [DecidableEq α]
structure Canon(Cn:List α→Prop):Prop where
 ext:∀l m,Cn l→Cn m→(∀x,x∈l↔x∈m)→l=m
 nd:∀l,Cn l→l.Nodup
 flt:∀(l:List α) (f:α→Bool),Cn l→Cn (l.filter f)
structure Fine(p:Plan α)(Cn:List α→Prop):Prop where
 w:WF p
 c:Canon Cn
 cn:∀q∈p.pairs,Cn q.2.2
 nb:∀q,q.Nodup→Ch (fun a b=>b∈adj p.pairs a) q→2≤q.length→∃k,Lst (jB p q) k
 nr:∀c,Cyc p c→∀b:Bool,(∃k,Lst (J8 p c) k)→∃k,Lst (J8 p c) k∧k.2≠b
structure Good(p:Plan α)(Cn:List α→Prop)(S over:List α):Prop where
 nd:S.Nodup
 sub:∀x∈S,x∈p.names
 cn:Cn over
 low:∀q∈p.pairs,q.1∈S→q.2.1∈S→∀x∈over,x∈q.2.2
theorem mem_prs{p:Plan α}{S over:List α}{a b:α}:(a,b)∈prs p S over↔∃m,(a,b,m)∈p.pairs∧a∈S∧b∈S∧m≠over:=by
 unfold prs
 simp only[List.mem_map,List.mem_filter,Bool.and_eq_true,decide_eq_true_eq,Bool.not_eq_true',decide_eq_false_iff_not]
 constructor
 ·rintro⟨⟨x,y,m⟩,⟨h1,h2,h3,h4⟩,e⟩
  cases e
  exact⟨m,h1,h2,h3,h4⟩
 ·rintro⟨m,h1,h2,h3,h4⟩
  exact⟨(a,b,m),⟨h1,h2,h3,h4⟩,rfl⟩
section
variable {p:Plan α} {Cn:List α→Prop} (F:Fine p Cn) {S over:List α} (G:Good p Cn S over) {parts:List (List α)} (L:Lots S (prs p S over) parts)
include F
include G L
end
end PL
namespace PL
variable {α:Type} [DecidableEq α]
section
variable {p:Plan α} {Cn:List α→Prop} (F:Fine p Cn) {S over:List α} (G:Good p Cn S over) {parts:List (List α)} (L:Lots S (prs p S over) parts)
include F G L
end
abbrev acd(pairs:List (Qq α))(ord:List (List α)):Prop:=ord.Pairwise fun A B=>∀q∈pairs,¬(q.1∈B∧q.2.1∈A)
def acY(l over:List α):List α:=l.filter fun x=>!decide (x∈over)
inductive LaidP(p:Plan α):List α→List (List α)→List (Knot α)→Prop
 | nil (over:List α):LaidP p over [] []
 | one {over ax:List α} {x:α} {ord:List (List α)} {ks:List (Knot α)}:(x,ax)∈p.steps→LaidP p over ord ks→LaidP p over ([x]::ord) (af3 (acY ax over) [.add x]++ks)
 | many {over T:List α} {ord ord':List (List α)} {inner ks:List (Knot α)}:2≤T.length→Lots T (prs p T (adI (JK p T))) ord'→acd p.pairs ord'→LaidP p (adI (JK p T)) ord' inner→LaidP p over ord ks →
   LaidP p over (T::ord) (af3 (acY (adI (JK p T)) over) inner++ks)
end PL
namespace PL
variable {α:Type} [DecidableEq α]
abbrev Row(α:Type):=α×List Nat×List α
mutual
def Yr(n:Nat):Knot α→List (Row α)
 | .add x=>[(x,[n],[])]
 | .loop a is=>(jj 0 is).map fun r=>(r.1,n::r.2.1,a::r.2.2)
def jj(n:Nat):List (Knot α)→List (Row α)
 | []=>[]
 | k::ks=>Yr n k++jj (n+1) ks
end
def cp:List Nat→List Nat→Nat
 | a::l,b::m=>if a=b then cp l m+1 else 0
 | _,_=>0
def ai1(r s:Row α):List α:=r.2.2.take (cp r.2.1.dropLast s.2.1.dropLast)
inductive KnOk(A N:List α):List α→List (Knot α)→Prop
 | nil (ov:List α):KnOk A N ov []
 | add {ov:List α} {x:α} {ks:List (Knot α)}:x∈N→KnOk A N ov ks→KnOk A N ov (.add x::ks)
 | loop {ov:List α} {a:α} {is ks:List (Knot α)}:a∈A→a∉ov→is≠[]→KnOk A N (ov++[a]) is→KnOk A N ov ks→KnOk A N ov (.loop a is::ks)
theorem GX(n:Nat)(a:α)(is:List (Knot α)):Yr n (.loop a is)=(jj 0 is).map fun r=>(r.1,n::r.2.1,a::r.2.2):=by rw[Yr]
theorem aaX(n:Nat)(x:α):Yr n (.add x:Knot α)=[(x,[n],[])]:=by rw[Yr]
theorem VZ(n:Nat)(k:Knot α)(ks:List (Knot α)):jj n (k::ks)=Yr n k++jj (n+1) ks:=by rw[jj]
theorem aaY(n:Nat):jj n ([]:List (Knot α))=[]:=by rw[jj]
structure Hyp(p:Plan α)(Cn:List α→Prop)(over:List α)(ord:List (List α)):Prop where
 nd:∀T∈ord,T.Nodup
 ne:∀T∈ord,T≠[]
 dj:ord.Pairwise fun A B=>∀x∈A,x∉B
 many:∀T∈ord,2≤T.length→Good p Cn T (adI (JK p T))∧JK p T≠[]∧over.length<(adI (JK p T)).length∧∀x∈over,x∈adI (JK p T)
 back:acd p.pairs ord
 cross:∀q∈p.pairs,∀A∈ord,∀B∈ord,q.1∈A→q.2.1∈B→A≠B→q.2.2=over
 low:∀T∈ord,∀x∈T,∀ax,(x,ax)∈p.steps→∀y∈over,y∈ax
 sub:∀T∈ord,∀x∈T,x∈p.names
 ndo:over.Nodup
 pin:∀T∈ord,2≤T.length→∀x∈T,∃l,∃b∈T,(x,b,l)∈p.pairs∨(b,x,l)∈p.pairs
theorem Hyp.tail{p:Plan α}{Cn:List α→Prop}{over:List α}{T:List α}{ord:List (List α)}(h:Hyp p Cn over (T::ord)):Hyp p Cn over ord where
 nd:=fun A hA=>h.nd A (List.mem_cons_of_mem _ hA)
 ne:=fun A hA=>h.ne A (List.mem_cons_of_mem _ hA)
 dj:=(List.pairwise_cons.mp h.dj).2
 many:=fun A hA=>h.many A (List.mem_cons_of_mem _ hA)
 back:=(List.pairwise_cons.mp h.back).2
 cross:=fun q hq A hA B hB=>h.cross q hq A (List.mem_cons_of_mem _ hA) B (List.mem_cons_of_mem _ hB)
 low:=fun A hA=>h.low A (List.mem_cons_of_mem _ hA)
 sub:=fun A hA=>h.sub A (List.mem_cons_of_mem _ hA)
 ndo:=h.ndo
 pin:=fun A hA=>h.pin A (List.mem_cons_of_mem _ hA)
structure Res(p:Plan α)(over:List α)(ord:List (List α))(n:Nat)(rs:List (Row α)):Prop where
 nm:(rs.map (·.1)).Nodup
 mem:∀x,x∈rs.map (·.1)↔∃T∈ord,x∈T
 ax:∀r∈rs,r.2.2.Nodup∧∀ax,(r.1,ax)∈p.steps→∀x,x∈r.2.2↔x∈ax∧x∉over
 pl:∀r∈rs,∃h t,r.2.1=h::t∧n≤h∧t.length=r.2.2.length
 pr:∀q∈p.pairs,(∃A∈ord,q.1∈A)→(∃B∈ord,q.2.1∈B)→∃(i j:Nat) (r s:Row α),i<j∧rs[i]? = some r∧rs[j]? = some s∧r.1=q.1∧s.1=q.2.1∧∀x,x∈ai1 r s↔x∈q.2.2∧x∉over
end PL
namespace PL
variable {α:Type} [DecidableEq α]
theorem KnOk.append{A N ov:List α}{k1 k2:List (Knot α)}(h1:KnOk A N ov k1)(h2:KnOk A N ov k2):KnOk A N ov (k1++k2):=by
 induction h1 with
 | nil=>exact h2
 | add h _ ih=>exact .add h (ih h2)
 | loop a b c d _ _ ih=>exact .loop a b c d (ih h2)
end PL
namespace PL
variable {α:Type} [DecidableEq α]
def Arw(p:Plan α)(a b:α):Prop:=∃l,(a,b,l)∈p.pairs
def ahv(p:Plan α)(l:List α):Prop:=∀q∈p.pairs,q.2.2=l
structure DirR(p:Plan α)(q:List α):Prop where
 nd:q.Nodup
 len:3≤q.length
 ch:Ch (Arw p) (q++q.take 1)
section
variable {p:Plan α} (w:WF p) {l:List α} (al:ahv p l)
include w al
end
end PL
namespace PL
variable {α:Type} [DecidableEq α]
end PL
namespace PL
variable {α:Type} [DecidableEq α]
inductive Drw:List α→List (α×List α)→List (Knot α)→Prop
 | nil {ov:List α}:Drw ov [] []
 | add {ov:List α} {s:α×List α} {ss:List (α×List α)} {ks:List (Knot α)}:(∀x∈s.2,x∈ov)→Drw ov ss ks→Drw ov (s::ss) (.add s.1::ks)
 | loop {ov:List α} {a:α} {part rest:List (α×List α)} {is ks:List (Knot α)}:a∉ov→part≠[]→(∀s∈part,a∈s.2)→Drw (ov++[a]) part is→Drw ov rest ks→Drw ov (part++rest) (.loop a is::ks)
theorem Drw.append{ov:List α}{s1 s2:List (α×List α)}{k1 k2:List (Knot α)}(h1:Drw ov s1 k1)(h2:Drw ov s2 k2):Drw ov (s1++s2) (k1++k2):=by
 induction h1 with
 | nil=>exact h2
 | add a _ ih=>exact .add a (ih h2)
 | loop a b c d _ _ ih=>rw[List.append_assoc];exact .loop a b c d (ih h2)
theorem Drw.ne{ov:List α}{ss:List (α×List α)}{ks:List (Knot α)}(h:Drw ov ss ks)(hs:ss≠[]):ks≠[]:=by
 cases h with
 | nil=>exact absurd rfl hs
 | add=>simp
 | loop=>simp
theorem Drw.kn{A N:List α}{ov:List α}{ss:List (α×List α)}{ks:List (Knot α)}(h:Drw ov ss ks):(∀s∈ss,s.1∈N∧∀x∈s.2,x∈A)→KnOk A N ov ks:=by
 induction h with
 | nil=>intro _;exact .nil _
 | add a _ ih=>intro H;exact .add (H _ (by simp)).1 (ih fun s hs=>H s (by simp[hs]))
 | @loop ov a part rest is ks a1 b c d _ ih1 ih2 =>
  intro H
  obtain⟨s,hs⟩:=List.exists_mem_of_ne_nil _ b
  exact .loop ((H s (by simp[hs])).2 a (c s hs)) a1 (d.ne b) (ih1 fun s hs=>H s (by simp[hs])) (ih2 fun s hs=>H s (by simp[hs]))
theorem Drw.names{ov:List α}{ss:List (α×List α)}{ks:List (Knot α)}(h:Drw ov ss ks):∀n,(jj n ks).map (·.1)=ss.map (·.1):=by
 induction h with
 | nil=>intro n;rw[aaY];rfl
 | add a _ ih=>intro n;rw[VZ,aaX,List.map_append,ih];rfl
 | loop a1 b c d _ ih1 ih2 =>
  intro n
  rw[VZ,GX,List.map_append,List.map_append,List.map_map,ih2,←ih1 0]
  rfl
theorem Drw.row{ov:List α}{ss:List (α×List α)}{ks:List (Knot α)}(h:Drw ov ss ks):∀n,∀r∈jj n ks,∃s∈ss,s.1=r.1∧r.2.2.Nodup∧(∀x,x∈r.2.2↔x∈s.2∧x∉ov)∧∃h t,r.2.1=h::t∧n≤h∧t.length=r.2.2.length:=by
 induction h with
 | nil=>intro n r hr;rw[aaY] at hr;cases hr
 | @add ov s ss ks a _ ih =>
  intro n r hr
  rw[VZ,aaX] at hr
  rcases List.mem_append.mp hr with hr | hr
  ·simp at hr
   subst hr
   exact⟨s,by simp,rfl,.nil,fun x=>⟨fun h=>(by cases h),fun h=>absurd (a x h.1) h.2⟩,n,[],rfl,Nat.le_refl _,rfl⟩
  ·obtain⟨s',hs',e1,e2,e3,h,t,e4,e5,e6⟩:=ih (n+1) r hr
   exact⟨s',by simp[hs'],e1,e2,e3,h,t,e4,by omega,e6⟩
 | @loop ov a part rest is ks a1 b c d _ ih1 ih2 =>
  intro n r hr
  rw[VZ,GX] at hr
  rcases List.mem_append.mp hr with hr | hr
  ·obtain⟨r0,h0,rfl⟩:=List.mem_map.mp hr
   obtain⟨s',hs',e1,e2,e3,h,t,e4,e5,e6⟩:=ih1 0 r0 h0
   refine⟨s',by simp[hs'],e1,?_,fun x=>?_,n,r0.2.1,rfl,Nat.le_refl _,by rw[e4];simp[e6]⟩
   ·refine List.nodup_cons.mpr ⟨fun h=>?_,e2⟩
    exact((e3 a).mp h).2 (by simp)
   ·rw[List.mem_cons,e3]
    constructor
    ·rintro(h | h)
     ·subst h;exact⟨c s' hs',a1⟩
     ·exact⟨h.1,fun h2=>h.2 (by simp[h2])⟩
    ·rintro⟨h1,h2⟩
     by_cases e:x=a
     ·exact .inl e
     ·exact .inr ⟨h1,by simp[h2,e]⟩
  ·obtain⟨s',hs',e1,e2,e3,h,t,e4,e5,e6⟩:=ih2 (n+1) r hr
   exact⟨s',by simp[hs'],e1,e2,e3,h,t,e4,by omega,e6⟩
end PL
namespace KP
open PySem PySem.Spec PyProof.Rows L2 PL
abbrev vX:=PL.Plan Str
def yw(s:Str×List Str):D:=.tuple [.str s.1,tS s.2]
structure Okp(p:vX):Prop where
 w:WF p
 names:∀x∈p.names,okS x=true
 axes:∀s∈p.steps,∀x∈s.2,okS x=true
 fewp:p.pairs.length≤100
 fewa:∀s∈p.steps,s.2.length≤8
def leS(a b:Str):Bool:=Vf (.str a) (.str b)
def srt(l:List Str):List Str:=l.mergeSort leS
theorem Jd(l:List Str):(srt l).Perm l:=List.mergeSort_perm _ _
theorem UA(l:List Str):wq (l.map .str)=(srt l).map .str:=by
 unfold wq srt
 exact(List.map_mergeSort (r:=leS) (s:=Vf) (f:=PyData.str) (l:=l) fun a _ b _=>rfl).symm
theorem all_map{α:Type}(l:List α)(f:α→D)(q:D→Bool)(h:∀x∈l,q (f x)=true):(l.map f).all q=true:=by
 rw[List.all_eq_true]
 intro d hd
 obtain⟨x,hx,rfl⟩:=List.mem_map.mp hd
 exact h x hx
theorem XE{α:Type}(l:List α)(f:α→D)(h1:∀x∈l,∀y∈l,PySem.W.alike (f x) (f y)=true)(h2:(∀x∈l,ah1 (f x)=true)∨(∀x∈l,afQ (f x)=true))(h3:∀x∈l,(f x).depth≤64):Ja (l.map f)=true:=by
 unfold Ja abH
 simp only[Bool.and_eq_true,Bool.or_eq_true]
 refine⟨⟨all_map l f _ fun x hx=>all_map l f _ fun y hy=>h1 x hx y hy,?_⟩,all_map l f _ fun x hx=>by simpa using h3 x hx⟩
 rcases h2 with h2 | h2
 ·exact .inl (all_map l f _ h2)
 ·exact .inr (all_map l f _ h2)
theorem VC{n:Nat}(h:n<16000000):sz n=true:=decide_eq_true h
theorem vi{l:List Str}(h:l.length<16000000):yu [.list (l.map .str)]=some ((srt l).map .str)∧yu [.tuple (l.map .str)]=some ((srt l).map .str):=by
 have e:Ja (l.map .str)=true:=XE l _ (fun x _ y _=>by simp[PySem.W.alike]) (.inr fun x _=>by simp[afQ]) fun x _=>by simp[PyData.depth]
 constructor
 all_goals
  simp only[yu,y9,Option.bind_some,e,Vx,List.length_map,VC h,Bool.and_self,if_true,UA]
section
variable {α:Type} {h:GF} {t:BF} {f fk fv:XF} {env:Env} {g:D}
theorem af5(pt:PF)(hpt:pt=ptN∨pt=ptK)(enc:α→D)(key:α→Str)(val:α→D):∀(xs:List α) (acc:List (Str×D)),((acc.map (·.1))++xs.map key).Nodup→(∀x∈xs,∃env1,h (enc x) env=some env1∧fk env1 g=some (.str (key x),g)∧fv env1 g=some (val x,g)) →
  dcF h vh fk fv pt (xs.map enc) env g (acc.map fun q=>(.str q.1,q.2))=some ((acc++xs.map fun x=>(key x,val x)).map (fun q=>(.str q.1,q.2)),g)
 | [],acc,_,_=>by simp[dcF]
 | x::xs,acc,nd,H=>by
  obtain⟨env1,h1,h2,h3⟩:=H x (by simp)
  have ih:=af5 pt hpt enc key val xs (acc++[(key x,val x)]) (by simpa using nd) fun y hy=>H y (List.mem_cons_of_mem _ hy)
  rw[List.map_cons]
  have no:(acc.map fun q:Str×D=>((.str q.1,q.2):D×D)).any (fun p=>decide (vV p.1=some (.inr (key x))))=false:=by
   rw[List.any_map,List.any_eq_false]
   intro q hq
   simp only[Function.comp,vV,decide_eq_true_eq,Option.some.injEq,Sum.inr.injEq]
   intro e
   rw[List.nodup_append] at nd
   exact nd.2.2 q.1 (List.mem_map_of_mem hq) (key x) (by simp) e
  have ep:pt (.str (key x)) (val x) (acc.map fun q=>(.str q.1,q.2))=some ((acc++[(key x,val x)]).map fun q=>(.str q.1,q.2)):=by
   rcases hpt with e | e <;> subst e
   ·show(if _ then none else some _)=_
    rw[no,if_neg (by simp)]
    simp[kD]
   ·show some (Vt _ _ _)=_
    unfold Vt
    rw[no,if_neg (by simp)]
    simp[kD]
  unfold dcF
  simp only[h1,h2,h3,ep,ih,vh,Option.bind_some,if_true]
  simp
end
def UB(p:vX)(x:Str):List Str:=srt (adj p.pairs x)
theorem aaZ{p:vX}{x y:Str}:y∈UB p x↔y∈adj p.pairs x:=(Jd _).mem_iff
structure Gd(n:Nat)(d:D):Prop where
 a:vf d=true
 b:PyData.canLay0 d=true
 c:d.depth≤n
theorem ab0{n:Nat}:∀ {ds:List D},(∀d∈ds,Gd n d)→vq ds=true∧PyData.canLayAll0 ds=true∧PyData.depthAll ds≤n
 | [],_=>⟨rfl,by simp[PyData.canLayAll0],by simp[PyData.depthAll]⟩
 | d::ds,h=>by
  obtain⟨h1,h2,h3⟩:=h d (by simp)
  obtain⟨i1,i2,i3⟩:=ab0 fun e he=>h e (List.mem_cons_of_mem _ he)
  refine⟨by simp[vq,h1,i1],by simp[PyData.canLayAll0,h2,i2],?_⟩
  rw[PyData.depthAll]
  omega
theorem Gd.list{n:Nat}{ds:List D}(h:∀d∈ds,Gd n d):Gd (n+1) (.list ds) :=
 let ⟨h1,h2,h3⟩:=ab0 h;⟨by simpa[vf] using h1,by simpa[PyData.canLay0] using h2,by rw[PyData.depth];omega⟩
theorem Gd.tuple{n:Nat}{ds:List D}(h:∀d∈ds,Gd n d):Gd (n+1) (.tuple ds) :=
 let ⟨h1,h2,h3⟩:=ab0 h;⟨by simpa[vf] using h1,by simpa[PyData.canLay0] using h2,by rw[PyData.depth];omega⟩
theorem Gd.str{n:Nat}{x:Str}(h:okS x=true):Gd n (.str x):=⟨rfl,by rw[PyData.canLay0];exact h,by simp[PyData.depth]⟩
theorem Gd.int{n:Nat}{i:Int}:Gd n (.int i):=⟨rfl,by simp[PyData.canLay0],by simp[PyData.depth]⟩
theorem Gd.bool{n:Nat}{i:Bool}:Gd n (.bool i):=⟨rfl,by simp[PyData.canLay0],by simp[PyData.depth]⟩
theorem Gd.dOk{n:Nat}{d:D}(h:Gd n d)(hn:n≤64:=by omega):dOk d=true:=by
 have:=h.c
 simp[KP.dOk,SeqAt.shaped,h.a,h.b]
 omega
theorem Gd.mono{n m:Nat}{d:D}(h:Gd n d)(hm:n≤m):Gd m d:=⟨h.a,h.b,Nat.le_trans h.c hm⟩
theorem IU{n:Nat}{l:List Str}(h:∀x∈l,okS x=true):∀d∈l.map PyData.str,Gd n d:=fun d hd=>by
 obtain⟨x,hx,rfl⟩:=List.mem_map.mp hd
 exact .str (h x hx)
theorem Gd.lS{l:List Str}(h:∀x∈l,okS x=true):Gd 1 (lS l):=.list (IU h)
theorem Gd.tS{l:List Str}(h:∀x∈l,okS x=true):Gd 1 (tS l):=.tuple (IU h)
section
variable {n m:Nat} {a b:D}
theorem UC(h1:Gd n a)(h2:Gd m b)(hn:n≤64:=by omega)(hm:m≤64:=by omega):eqD a b=some (.bool (PyData.eqv a b)):=by
 unfold eqD;rw[h1.dOk hn,h2.dOk hm];rfl
theorem IV(h1:Gd n a)(h2:Gd m b)(hn:n≤64:=by omega)(hm:m≤64:=by omega):neD a b=some (.bool (!PyData.eqv a b)):=by
 unfold neD;rw[h1.dOk hn,h2.dOk hm];rfl
theorem acZ(ds:List D):PyData.eqv (.list ds) (.list [])=ds.isEmpty:=by cases ds <;> simp[PyData.eqv,PyData.eqvAll]
theorem af6:Gd 1 (.list []):=.list (by simp)
theorem JY{ds:List D}(h1:Gd n (.list ds))(hn:n≤64:=by omega):neD (.list ds) (.list [])=some (.bool (!ds.isEmpty)):=by rw[IV h1 af6 hn,acZ]
theorem IW{ds:List D}(h1:Gd n (.list ds))(hn:n≤64:=by omega):eqD (.list ds) (.list [])=some (.bool ds.isEmpty):=by rw[UC h1 af6 hn,acZ]
theorem XG(x y:Str):PyData.eqv (.str x) (.str y)=decide (x=y):=by
 rw[PyData.eqv]
 rfl
theorem af7(l k:List Str):PyData.eqv (tS l) (tS k)=decide (l=k):=by
 show PyData.eqv (.tuple _) (.tuple _)=_
 rw[PyData.eqv];exact Uc l k
theorem af8(x:Str)(l:List Str):((l.map PyData.str).any fun z=>PyData.eqv z (.str x))=decide (x∈l):=by
 rw[List.any_map]
 induction l with
 | nil=>simp
 | cons y l ih =>
  rw[List.any_cons,ih]
  show(PyData.eqv (.str y) (.str x)||_)=_
  rw[XG]
  by_cases e:y=x
  ·subst e;simp
  ·simp[e,Ne.symm e]
theorem af9{neg:Bool}{d:D}{ds:List D}(h1:Gd n d)(h2:∀x∈ds,Gd m x)(hn:n≤64:=by omega):inL neg d ds=some (.bool (if neg then !(ds.any fun z=>PyData.eqv z d) else ds.any fun z=>PyData.eqv z d)):=by
 obtain⟨a1,a2,_⟩:=ab0 h2
 unfold inL
 rw[h1.dOk hn,a1,a2]
 rfl
theorem ym{neg:Bool}{x:Str}{l:List Str}(hx:okS x=true)(hl:∀y∈l,okS y=true):inD neg (.str x) (lS l)=some (.bool (if neg then !decide (x∈l) else decide (x∈l)))∧inD neg (.str x) (tS l)=some (.bool (if neg then !decide (x∈l) else decide (x∈l))):=by
 have e:inL neg (.str x) (l.map .str)=_:=af9 (n:=0) (m:=0) (.str hx) (IU hl)
 rw[af8] at e
 exact⟨e,e⟩
end
def leL(a b:List Str):Bool:=Vf (lS a) (lS b)
theorem GY:∀ {l m:List Str},PySem.W.keyToksAll (l.map .str)=PySem.W.keyToksAll (m.map .str)→l=m
 | [],[],_=>rfl
 | [],y::m,h=>by rw[List.map_cons,PySem.W.toks_all_cons,List.map_nil,PySem.W.keyToksAll] at h;simp at h
 | x::l,[],h=>by rw[List.map_cons,PySem.W.toks_all_cons,List.map_nil,PySem.W.keyToksAll] at h;simp at h
 | x::l,y::m,h=>by
  rw[List.map_cons,List.map_cons,PySem.W.toks_all_cons,PySem.W.toks_all_cons,PySem.W.keyToks,PySem.W.keyToks] at h
  simp only[List.cons_append,List.nil_append,List.cons.injEq,true_and] at h
  rw[PySem.W.str_of_cps (Sum.inr.inj h.1),GY h.2]
theorem afa{a b:List Str}(h1:leL a b=true)(h2:leL b a=true):a=b:=by
 have z1:(!PyProof.Rows.lexLt PyProof.Rows.itemOrd (PySem.W.keyToks (lS b)) (PySem.W.keyToks (lS a)))=true:=h1
 have z2:(!PyProof.Rows.lexLt PyProof.Rows.itemOrd (PySem.W.keyToks (lS a)) (PySem.W.keyToks (lS b)))=true:=h2
 rw[Bool.not_eq_true'] at z1 z2
 have e:=PyProof.Rows.lex_total _ _ z2 z1
 unfold lS at e
 rw[PySem.W.keyToks,PySem.W.keyToks] at e
 exact GY e
structure Asc(r:List (List Str)):Prop where
 nd:r.Nodup
 pw:r.Pairwise fun a b=>leL a b=true
theorem Asc.eq{r m:List (List Str)}(h:Asc r)(k:Asc m)(e:∀x,x∈r↔x∈m):r=m :=
 ((List.perm_ext_iff_of_nodup h.nd k.nd).mpr e).eq_of_pairwise (fun _ _ _ _ h1 h2=>afa h1 h2) h.pw k.pw
section
variable {p:vX} (o:Okp p)
include o
end
theorem afb{α:Type}(ds:List α)(k:Nat):Jm ds none (some (k:Int))=ds.take k:=by
 unfold Jm
 rw[HT.sIx_nat,HT.sIx_none,List.drop_zero,Nat.sub_zero]
 by_cases h:k≤ds.length
 ·rw[Nat.min_eq_left h]
 ·rw[Nat.min_eq_right (by omega),List.take_of_length_le (Nat.le_refl _),List.take_of_length_le (by omega)]
def dT(qs:List (Qq Str)):List (D×D):=qs.map fun q=>(.tuple [.str q.1,.str q.2.1],tS q.2.2)
section
variable {h:GF} {t:BF} {f fk fv:XF} {env:Env} {g:D}
end
def abD(q:Str×Str):D:=.tuple [.str q.1,.str q.2]
section
variable {p:vX} (o:Okp p)
include o
end
structure OkL(ks:List (List Str×Bool)):Prop where
 ok:∀k∈ks,∀x∈k.1,okS x=true
 few:ks.length≤1000
 fewa:∀k∈ks,k.1.length≤1000
theorem UD:∀bs:List Bool,Vn (bs.map .bool)=some bs
 | []=>rfl
 | b::bs=>by rw[List.map_cons,Vn,UD bs];rfl
section
variable {p:vX} (o:Okp p)
include o
theorem okl{path:List Str}(hc:Ch (fun a b=>b∈adj p.pairs a) path)(hl:path.length≤1000):OkL (jB p path):=by
 have key:∀k∈jB p path,∃s∈p.steps,k.1.Nodup∧∀x∈k.1,x∈s.2:=fun k hk=>by
  obtain⟨a,b,_,_,h⟩:=GV o.w hc k hk
  rcases h with h | h
  ·obtain⟨s,hs,e⟩:=List.mem_map.mp (o.w.ends _ h).1
   exact⟨s,hs,o.w.lots _ h,fun x hx=>o.w.sub _ h s hs (.inl e) x hx⟩
  ·obtain⟨s,hs,e⟩:=List.mem_map.mp (o.w.ends _ h).1
   exact⟨s,hs,o.w.lots _ h,fun x hx=>o.w.sub _ h s hs (.inl e) x hx⟩
 refine⟨fun k hk x hx=>?_,by rw[GU];omega,fun k hk=>?_⟩
 ·obtain⟨s,hs,_,h⟩:=key k hk
  exact o.axes s hs x (h x hx)
 ·obtain⟨s,hs,nd,h⟩:=key k hk
  have:=nd.length_le_of_subset (l₂:=s.2) fun x hx=>h x hx
  have:=o.fewa s hs
  omega
end
def ltS(a b:Str):Bool:=decide (a.cps.toList<b.cps.toList)
theorem ad0(a:Str):ltS a a=false:=by
 have:=List.lt_irrefl a.cps.toList
 simpa[ltS] using this
theorem GZ{a b c:Str}(h1:ltS a b=true)(h2:ltS b c=true):ltS a c=true:=by
 simp only[ltS,decide_eq_true_eq] at *
 exact List.lt_trans h1 h2
theorem IX{a b:Str}(h1:ltS a b=false)(h2:ltS b a=false):a=b:=by
 simp only[ltS,decide_eq_false_iff_not] at *
 exact PySem.W.str_of_cps (List.le_antisymm h2 h1)
theorem G4{a b:Str}(h1:ltS a b=true):ltS b a=false:=by
 cases h:ltS b a with
 | false=>rfl
 | true=>have:=GZ h1 h;rw[ad0] at this;cases this
theorem WS:∀l:List Str,YH (l.map .str)=some (l.map .inr)
 | []=>rfl
 | x::l=>by rw[List.map_cons,YH,WS l];rfl
theorem ab1(l:List Str):jF (l.map .inr)=true:=by
 unfold jF
 rw[List.all_map,List.all_eq_true]
 intro x _
 simp
def ad1(p:vX)(q:List Str):List (Nat×Bool):=acb (ahu (jB p q)) 0 (jB p q)
structure BadP(p:vX)(a b:Str)(q:List Str):Prop where
 pth:Pth p.names (UB p) q
 hd:q.head? = some a
 lt:q.getLast? = some b
 bad:ad1 p q=[]
section
variable {p:vX} (o:Okp p)
include o
end
structure Ring(p:vX)(a b:Str)(q:List Str):Prop where
 pth:Pth p.names (UB p) q
 hd:q.head? = some a
 lt:q.getLast? = some b
 cl:b∈UB p a
 ab:ltS a b=true
 len:2<q.length
 mn:∀x∈q,ltS x a=false
 sec:∀x,q[1]? = some x→ltS x b=true
section
variable {p:vX} (o:Okp p)
include o
def ace(p:vX)(q:List Str):List Bool:=(ad1 p (q++q.take 1)).map (·.2)
def ai2(p:vX)(q:List Str):Prop:=∃a b ring,Ring p a b ring∧ace p ring≠[]∧((ace p ring).all id=true∧q=ring∨(ace p ring).any id=false∧q=ring.take 1++(ring.drop 1).reverse)
omit o in
theorem Ring.closed{a b:Str}{q:List Str}(h:Ring p a b q):∃t,q=a::t∧Ch (fun a b=>b∈adj p.pairs a) (a::t++[a]):=by
 have h1:=h.hd
 cases q with
 | nil=>cases h1
 | cons y t =>
  simp at h1
  subst h1
  refine⟨t,rfl,?_⟩
  rw[VX]
  refine⟨Ch.mono (fun _ _=>aaZ.mp) h.pth.ch,trivial,fun x hx z hz=>?_⟩
  rw[h.lt] at hx
  simp at hx hz
  subst hx hz
  exact XD.mp (aaZ.mp h.cl)
end
theorem adK(n:Nat):J4 0 n=(List.range n).map fun i=>(.int (i:Nat):D):=by
 unfold J4
 refine List.map_congr_left fun i _=>?_
 simp
def nL(l:List Nat):D:=.list (l.map fun i=>.int (i:Nat))
theorem Gd.nL(l:List Nat):Gd 1 (nL l):=.list fun d hd=>by
 obtain⟨x,_,rfl⟩:=List.mem_map.mp hd
 exact .int
section
variable {p:vX} (o:Okp p)
include o
end
section
variable {p:vX} (o:Okp p)
include o
end
abbrev ab2:=Knot Str
mutual
def agK:ab2→D
 | .add x=>.tuple [.str "add",.str x]
 | .loop a ks=>.tuple [.str "loop",.str a,.tuple (afc ks)]
def afc:List ab2→List D
 | []=>[]
 | k::ks=>agK k::afc ks
end
def ai3(ks:List ab2):D:=.tuple (ks.map agK)
end KP
namespace KP
open PySem PySem.Spec PyProof.Rows L2 PL
theorem QJ(a b:Int):eqD (.int a) (.int b)=some (.bool (decide (a=b))):=by
 rw[UC (Gd.int (n:=0)) (Gd.int (n:=0)),PyData.eqv]
 rfl
section
variable {p:vX} (o:Okp p) {Cn:List Str→Prop} (F:Fine p Cn) (ne:("" : Str)∉p.names)
include o F ne
end
end KP
set_option maxHeartbeats 1000000
namespace KP
open PySem PySem.Spec PyProof.Rows L2
noncomputable section
def adL:SF:=(zg (ya ((Qe (JQ "str" (xV 0)) (Qe ((ahd leD leD (xC (.int 1)) (xCB afX (za (xV 0) zb)) (xC (.int 6)))) (xCB agZ (za (xLc (aie (xV 0)) (zh 1) vh ((xOp ahc (xV 1) (xC (.str "abcdefghijklmnopqrstuvwxyz")))) [1]) zb)))))) zv)
def adM:List D→Option D:=yZ 2 adL
def Zq(Q2:List D→Option D):SF:=(zg (jb 2 3 (xIf (bT (xOp neD (xV 1) (zV zb))) (xOp ixD (xOp ixD (xV 1) (xUn U6 (xC (.int 1)))) (xC (.int 1))) (zV zb)) (zY zb)) (zg (vd (aap (za (xV 0) zb)) (jS 2 (yf (zh 4) (yf (zh 5) j9))) [4,5,6] (zg (z9 6 (zV (jc (xV 2) (za (xV 4) zb)))) (zg (sIf (bT (xOp eqD (xOp ixD (xV 5) (xC (.int 0))) (xC (.str "loop")))) (zg (Jn 3 (zy Q2 (za (xOp ixD (xV 5) (xC (.int 2))) (za (zV (jc (xV 1) (za (zV (za (xOp ixD (xV 5) (xC (.int 1))) (za (xV 6) zb))) zb))) zb)))) zv) (zg (yI 3 (zV (za (xV 5) (za (xV 6) (za (xV 1) zb))))) zv)) zv))) (zg (ya (xV 3)) zv)))
def Q1:Nat→(List D→Option D)
 | 0=>fun _=>none
 | n+1=>yZ 7 (Zq (Q1 n))
def Q2:List D→Option D:=Q1 12
def G8(Ys:List D→Option D):SF:=(zg (sIf (bOr (v8 (bT (JQ "tuple" (xV 0)))) (bOr (bT (xOp ltD (xCB wx (za (xV 0) zb)) (xC (.int 2)))) (v8 (bT (zy adM (za (xOp ixD (xV 0) (xC (.int 1))) zb)))))) (zg (ya (xC .none)) zv) zv) (zg (sIf (bT (xOp eqD (xOp ixD (xV 0) (xC (.int 0))) (xC (.str "add")))) (zg (ya (xIf (bT (xOp eqD (xCB wx (za (xV 0) zb)) (xC (.int 2)))) (zY (za (zV (za (xOp ixD (xV 0) (xC (.int 1))) (za (xV 1) zb))) zb)) (xC .none))) zv) zv) (zg (sIf (bOr (bT (xOp neD (xOp ixD (xV 0) (xC (.int 0))) (xC (.str "loop")))) (bOr (bT (xOp neD (xCB wx (za (xV 0) zb)) (xC (.int 3)))) (bOr (bT (xOp (inD false) (xOp ixD (xV 0) (xC (.int 1))) (xV 1))) (bT (xOp eqD (xOp ixD (xV 0) (xC (.int 2))) (zV zb)))))) (zg (ya (xC .none)) zv) zv) (zg (ya (zy Ys (za (xOp ixD (xV 0) (xC (.int 2))) (za (zV (jc (xV 1) (za (xOp ixD (xV 0) (xC (.int 1))) zb))) zb)))) zv))))
def adN(Ia:List D→Option D):SF:=(zg (sIf (v8 (bT (JQ "tuple" (xV 0)))) (zg (ya (xC .none)) zv) zv) (zg (z9 2 (zY zb)) (zg (vd (zG (xV 0)) (zh 3) [3,4] (zg (z9 4 (zy Ia (za (xV 3) (za (xV 1) zb)))) (zg (sIf (bT (xOp abU (xV 4) (xC .none))) (zg (ya (xC .none)) zv) zv) (zg (Jn 2 (xV 4)) zv)))) (zg (ya (xV 2)) zv))))
def G9:Nat→(List D→Option D)
 | 0=>fun _=>none
 | n+1=>yZ 5 (adN (yZ 2 (G8 (G9 n))))
def Ys:List D→Option D:=G9 12
def Ia:List D→Option D:=yZ 2 (G8 Ys)
def YY:SF:=(zg (sIf (bT (xOp eqD (y8 (xC (.int 0))) (xC (.int 0)))) (zg (z9 4 (xOp ixD (xOp va (xSl (y8 (xC (.int 3))) (wv (y8 (xC (.int 2)))) pNo) (zY (za (xC (.int 0)) zb))) (xC (.int 0)))) (zg (Xh 2 (xC (.int 1))) (zg (jn 0 (xOp J6 (xV 4) (xCB J5 (za ((xOp geD (xV 4) (xOp ads (xC (.int 10)) (xC (.int 18))))) zb)))) (zg (z9 5 (xOp va (xOp va (xOp J6 (y8 (xC (.int 1))) (xC (.int 48271))) (xOp Vl (xCB J5 (za (xV 4) zb)) (xC (.int 2147483647)))) (xOp J6 (xC (.int 7919)) (y8 (xC (.int 2)))))) (zg (jn 1 (xOp Vl (xCB J5 (za (xV 5) zb)) (xC (.int 2147483647)))) (aaj [4,5] zv)))))) zv) (zg (sIf (bT (xOp gtD (y8 (xC (.int 0))) (xC (.int 0)))) (zg (z9 6 (xOp Vl (xCB J5 (za (y8 (xC (.int 0))) zb)) (xV 1))) (zg (jn 0 (xOp Z5 (xCB J5 (za (y8 (xC (.int 0))) zb)) (xV 1))) (zg (ya (xV 6)) zv))) zv) (zg (z9 2 (xOp Vl (xCB J5 (za (xOp J6 (xOp va (y8 (xC (.int 1))) (xC (.int 1))) (xC (.int 39373))) zb)) (xC (.int 1000000007)))) (zg (z9 3 (xOp Vl (xCB J5 (za (xOp J6 (xOp Vl (xCB J5 (za (xOp J6 (xV 2) (xV 2)) zb)) (xC (.int 998244353))) (xC (.int 30011))) zb)) (xC (.int 998244353)))) (zg (ya (xOp Vl (xCB J5 (za (xOp Z5 (xV 3) (xC (.int 7))) zb)) (xV 1))) zv)))))
def zm:List D→D→Option (D×D):=Vi 7 YY
def acf:SF:=(zg (ya (xOp ixD (xV 1) (zw zm (za (xCB wx (za (xV 1) zb)) zb)))) zv)
def zO:List D→D→Option (D×D):=Vi 2 acf
def XH:SF:=(zg (z9 2 (zY zb)) (zg (vd (zG (xV 1)) (zh 3) [3] (zg (Xc 2 (zw zm (za (xOp va (xCB wx (za (xV 2) zb)) (xC (.int 1))) zb)) (xV 3)) zv)) (zg (ya (xV 2)) zv)))
def zC:List D→D→Option (D×D):=Vi 4 XH
def IY:SF:=(zg (ya ((Qe ((xOp eqD (xV 0) (xV 1))) ((xOp eqD (xCB YF (za (xV 0) zb)) (xCB YF (za (xV 1) zb))))))) zv)
def zQ:List D→Option D:=yZ 2 IY
def YZ:SF:=(zg (z9 3 (xLc (zG (zw zC (za (xV 1) zb))) (zh 4) (bT (xOp eqD (zw zm (za (xC (.int 2)) zb)) (xC (.int 0)))) (xV 4) [4])) (zg (ya (xCB yq (za (jC yu (za (xSl (xV 3) pNo (wv (xV 2))) zb)) zb))) zv))
def yx:List D→D→Option (D×D):=Vi 5 YZ
def ab3(Y1:List D→Option D):SF:=(zg (z9 1 (zY zb)) (zg (vd (aap (za (xV 0) zb)) (jS 2 (yf (zh 2) (yf (zh 3) j9))) [2,7,3,5,6,4] (zg (sIf (bT (xOp eqD (xOp ixD (xV 3) (xC (.int 0))) (xC (.str "loop")))) (zg (vd (zG (zy Y1 (za (xOp ixD (xV 3) (xC (.int 2))) zb))) (jS 4 (yf (zh 4) (yf (zh 5) (yf (zh 6) (yf (zh 7) j9))))) [7,5,6,4] (zg (yI 1 (zV (za (xV 4) (za (xV 5) (za (xOp va (zV (za (xV 2) zb)) (xV 6)) (za (xOp va (zV (za (xOp ixD (xV 3) (xC (.int 1))) zb)) (xV 7)) zb)))))) zv)) zv) (zg (yI 1 (zV (za (xOp ixD (xV 3) (xC (.int 0))) (za (xOp ixD (xV 3) (xC (.int 1))) (za (zV (za (xV 2) zb)) (za (zV zb) zb)))))) zv)) zv)) (zg (ya (xV 1)) zv)))
def Y0:Nat→(List D→Option D)
 | 0=>fun _=>none
 | n+1=>yZ 8 (ab3 (Y0 n))
def Y1:List D→Option D:=Y0 12
def Zr(Q4:List D→Option D):SF:=(zg (sIf (v8 (bT (JQ "tuple" (xV 0)))) (zg (ya (xC (.bool false))) zv) zv) (zg (vd (zG (xV 0)) (zh 4) [4] (zg (sIf (bOr (v8 (bT (JQ "tuple" (xV 4)))) (bOr (bT (xOp ltD (xCB wx (za (xV 4) zb)) (xC (.int 2)))) (bOr (v8 (bT (JQ "str" (xOp ixD (xV 4) (xC (.int 0)))))) (v8 (bT (JQ "str" (xOp ixD (xV 4) (xC (.int 1))))))))) (zg (ya (xC (.bool false))) zv) zv) (zg (sIf (bT (xOp eqD (xOp ixD (xV 4) (xC (.int 0))) (xC (.str "loop")))) (zg (sIf (bOr (bT (xOp neD (xCB wx (za (xV 4) zb)) (xC (.int 3)))) (bOr (bT (xOp (inD true) (xOp ixD (xV 4) (xC (.int 1))) (xV 1))) (bOr (bT (xOp (inD false) (xOp ixD (xV 4) (xC (.int 1))) (xV 3))) (bT (xOp eqD (xOp ixD (xV 4) (xC (.int 2))) (zV zb)))))) (zg (ya (xC (.bool false))) zv) zv) (zg (sIf (v8 (bT (zy Q4 (za (xOp ixD (xV 4) (xC (.int 2))) (za (xV 1) (za (xV 2) (za (xOp va (xV 3) (zV (za (xOp ixD (xV 4) (xC (.int 1))) zb))) zb))))))) (zg (ya (xC (.bool false))) zv) zv) zv)) (zg (sIf (bOr (bT (xOp neD (xCB wx (za (xV 4) zb)) (xC (.int 2)))) (bT (xOp (inD true) (xV 4) (xV 2)))) (zg (ya (xC (.bool false))) zv) zv) zv)) zv))) (zg (ya (xC (.bool true))) zv)))
def Q3:Nat→(List D→Option D)
 | 0=>fun _=>none
 | n+1=>yZ 5 (Zr (Q3 n))
def Q4:List D→Option D:=Q3 12
def IZ(XJ:List D→D→Option (D×D)):SF:=(zg (jb 4 5 (zY zb) (jC VR (za (xV 1) zb))) (zg (vd (jT (za (xCB wx (za (xV 1) zb)) zb)) (zh 3) [8,6,9,7,3] (zg (sIf (bT (xOp eqD (xV 5) (zY zb))) (zg (ahG) zv) zv) (zg (z9 6 (xLc (zG (xOp ixD (xOp ixD (xV 5) (xC (.int 0))) (xC (.int 1)))) (zh 8) (bT (xOp (inD true) (xV 8) (xV 2))) (xV 8) [8])) (zg (sIf (bT (xOp eqD (xV 6) (zY zb))) (zg (abT 4 5 "add") zv) (zg (jb 8 9 (zw zO (za (xV 6) zb)) (xSl (xV 5) pNo (wv (xC (.int 1))))) (zg (vd (zG (xSl (xV 5) (wv (xC (.int 1))) pNo)) (zh 7) [7] (zg (sIf (bOr (bT (xOp (inD true) (xV 8) (xOp ixD (xV 7) (xC (.int 1))))) (bT (xOp eqD (zw zm (za (xC (.int 6)) zb)) (xC (.int 0))))) (zg (ahG) zv) zv) (zg (z9 9 (xOp va (xV 9) (zY (za (xV 7) zb)))) zv))) (zg (z9 5 (aib (xV 5) (wv (xCB wx (za (xV 9) zb))) pNo)) (zg (yI 4 (zV (za (xC (.str "loop")) (za (xV 8) (za (zw XJ (za (xV 9) (za (xOp va (xV 2) (zV (za (xV 8) zb))) zb))) zb))))) (aaj [8,9] zv)))))) zv)))) (zg (ya (xCB yq (za (xV 4) zb))) zv)))
def XI:Nat→(List D→D→Option (D×D))
 | 0=>fun _ _=>none
 | n+1=>Vi 10 (IZ (XI n))
def XJ:List D→D→Option (D×D):=XI 12
def XL:SF:=(zg (z9 1 (abN (zG (xOp ixD (xV 0) (xC (.int 0)))) (jS 2 (yf (zh 2) (yf (zh 3) j9))) vh (xV 2) (xV 3) [2,3])) (zg (vd (zG (xOp ixD (xV 0) (xC (.int 1)))) (jS 3 (yf (zh 2) (yf (zh 3) (yf (zh 4) j9)))) [3,2,4] (zg (QG 1 (xV 2) (xV 3)) zv)) (zg (Xi 1 (ya (xV 1))) zv)))
def yU:List D→Option D:=yZ 5 XL
def VD:SF:=(zg (ya (abN (zG (xOp ixD (xV 0) (xC (.int 1)))) (jS 3 (yf (zh 1) (yf (zh 2) (yf (zh 3) j9)))) vh (xV 1) (xV 3) [1,2,3])) zv)
def yt:List D→Option D:=yZ 4 VD
def WT:SF:=(zg (sIf (bOr (v8 (bT (JQ "str" (xV 1)))) (bT (xOp (Zk true) (xV 1) (zy yt (za (xV 0) zb))))) (zg (abV) zv) zv) zv)
def JL:List D→Option D:=yZ 2 WT
def acg:SF:=(zg (sIf (bOr (v8 (bT (JQ "str" (xV 1)))) (bT (xOp (Zk true) (xV 1) (zy yU (za (xV 0) zb))))) (zg (abV) zv) zv) (zg (ya (xOp vw (zy yU (za (xV 0) zb)) (xV 1))) zv))
def jw:List D→Option D:=yZ 2 acg
def Wl:SF:=(zg (aaG (zy JL (za (xV 0) (za (xV 1) zb)))) (zg (z9 2 (zy yU (za (xV 0) zb))) (zg (z9 3 (IP (adq (zG (xOp vw (zy yt (za (xV 0) zb)) (xV 1))) (zh 4) vh (zG (xOp vw (xV 2) (xV 4))) (zh 5) vh (xV 5) [4,5] [5]))) (zg (ya (xCB yq (za (xLc (zG (vS (xV 3))) (zh 5) (bT (xOp (inD true) (xV 5) (xOp vw (xV 2) (xV 1)))) (xV 5) [5]) zb))) zv))))
def y7:List D→Option D:=yZ 6 Wl
def UE:SF:=(zg (z9 3 (zy y7 (za (xV 0) (za (xV 2) zb)))) (zg (ya (xCB yq (za (vS (zY (jc (zy jw (za (xV 0) (za (xV 2) zb))) (jc (xV 3) (jc (acQ (xV 1) (xV 2) (zV zb)) zb))))) zb))) zv))
def j5:List D→Option D:=yZ 4 UE
def Q5:SF:=(zg (z9 1 (zy yt (za (xV 0) zb))) (zg (ya (jC yu (za (adq (Ue (xV 1)) (jS 2 (yf (zh 3) (yf (zh 4) j9))) vh (zG (xV 4)) (zh 2) (bT (xOp (Zk false) (xV 2) (xV 1))) (zV (za (xV 2) (za (xV 3) zb))) [3,4,2] [2]) zb))) zv))
def wg:List D→Option D:=yZ 5 Q5
def XN:SF:=(zg (aaG (zy jw (za (xV 0) (za (xV 1) zb)))) (zg (ya (jC yu (za (xLc (zG (xOp ixD (xV 0) (xC (.int 1)))) (jS 3 (yf (zh 2) (yf (zh 3) (yf (zh 4) j9)))) (bT (xOp (inD false) (xV 1) (xV 4))) (xV 2) [2,3,4]) zb))) zv))
def yJ:List D→Option D:=yZ 5 XN
def QK(fuel:Nat):SF:=(zg (JC [2,3] (za xE0 (za (jC VR (za (xV 1) zb)) zb))) (zg (abF fuel (bT (xOp neD (xV 3) (zY zb))) [4] (zg (acR (aaM (xV 0) (J7 3) (zY zb)) (zh 4) [4] (zg (sIf (bT (Xm true 2 (xV 4))) (zg (QG 2 (xV 4) (xC (.bool true))) (zg (yI 3 (xV 4)) zv)) zv) zv)) zv)) (zg (Xi 2 (ya (xV 2))) zv)))
def wY:List D→Option D:=yZ 5 (QK Uu)
def XO:SF:=(zg (JC [3,4] (za xE0 (za xE0 zb))) (zg (vd (zG (zy wg (za (xV 0) zb))) (jS 2 (yf (zh 5) (yf (zh 6) j9))) [5,6] (zg (JD 3 (xV 5) (xV 6)) (zg (JD 4 (xV 6) (xV 5)) zv))) (zg (Yn 3 (Yn 4 (jb 7 8 (zy wY (za (xV 3) (za (xV 1) zb))) (zy wY (za (xV 4) (za (xV 1) zb)))))) (zg (z9 2 (xLc (GJ (xV 7)) (zh 9) (bT (xOp (Zk false) (xV 9) (xV 8))) (xV 9) [9])) (zg (ya (xCB yq (za (vS (zY (jc (xV 1) (jc (xV 2) zb)))) zb))) zv)))))
def yd:List D→Option D:=yZ 10 XO
def ab4:SF:=(zg (ya (zy yd (za (xV 0) (za (zV (za (xV 1) (jc (zy yJ (za (xV 0) (za (xV 1) zb))) zb))) zb)))) zv)
def Je:List D→Option D:=yZ 2 ab4
def XQ:SF:=(zg (ya (xCB ah0 (za (xLc (zG (zy yJ (za (xV 0) (za (xV 2) zb)))) (zh 3) vh ((xOp (inD false) (xV 3) (xV 1))) [3]) zb))) zv)
def wc:List D→Option D:=yZ 4 XQ
def Ib:SF:=(zg (ya (xLc (zG (xV 1)) (zh 3) (bT (xOp (inD true) (xV 2) (zy j5 (za (xV 0) (za (xE0) (za (xV 3) zb)))))) (xV 3) [3])) zv)
def Ju:List D→Option D:=yZ 4 Ib
def UF:SF:=(zg (z9 4 (xLc (zG (xV 1)) (zh 5) (vr (bT (xOp (inD false) (xV 2) (zy y7 (za (xV 0) (za (xV 5) zb))))) (bT (zy wc (za (xV 0) (za (xV 1) (za (xV 5) zb)))))) (xV 5) [5])) (zg (ya (xCB yq (za (jC yu (za (zY (jc (xV 4) (jc (xIf (bT (xV 3)) (zY zb) (zy Ju (za (xV 0) (za (xV 1) (za (xV 2) zb))))) zb))) zb)) zb))) zv))
def wI:List D→Option D:=yZ 6 UF
def VE(fuel:Nat):SF:=(zg (JC [3,4] (za (xLc (zG (xV 1)) (zh 8) vh (zY (za (xV 8) zb)) [8]) (za xE0 zb))) (zg (abF fuel (bT (xOp neD (xV 3) (zY zb))) [5,7,6] (zg (z9 5 (zY zb)) (zg (vd (zG (xV 3)) (zh 6) [7,6] (zg (vd (zG (zy yJ (za (xV 0) (za (xOp ixD (xV 6) (xUn U6 (xC (.int 1)))) zb)))) (zh 7) [7] (zg (sIf (bT (xOp (inD false) (xV 7) (xV 2))) (zg (ya (zY (jc (xV 6) (za (xV 7) zb)))) zv) zv) (zg (sIf (bT (Xm true 4 (xV 7))) (zg (QG 4 (xV 7) (xC (.bool true))) (zg (yI 5 (zY (jc (xV 6) (za (xV 7) zb)))) zv)) zv) zv))) zv)) (zg (z9 3 (xV 5)) zv)))) (zg (ya (xC .none)) zv)))
def Qr:List D→Option D:=yZ 9 (VE Uu)
def UG:SF:=(zg (jb 3 4 (zy Qr (za (xV 0) (za (xV 1) (za (xV 2) zb)))) (zy Qr (za (xV 0) (za (xV 2) (za (xV 1) zb))))) (zg (ya (xIf (bOr (bT (xOp abU (xV 3) (xC .none))) (bT (xOp abU (xV 4) (xC .none)))) (xC .none) (zV (za (xV 3) (za (xV 4) zb))))) zv))
def yF:List D→Option D:=yZ 5 UG
def ab5:SF:=(zg (z9 1 (zY zb)) (zg (vd (zG (xV 0)) (zh 2) [2] (zg (Jn 1 (xV 2)) zv)) (zg (ya (xV 1)) zv)))
def yl:List D→Option D:=yZ 3 ab5
def WU:SF:=(zg (jb 8 9 (xLc (zG (xV 1)) (zh 10) vh (xOp ixD (xV 10) (xC (.int 0))) [10]) (zw zO (za (zY (za (xC (.int 2)) (za (xC (.int 1)) (za (xC (.int 2)) (za (xC (.int 3)) (za (xC (.int 4)) zb)))))) zb))) (zg (z9 4 (xLc (zG (xV 2)) (zh 10) vh (xOp ixD (xV 10) (xC (.int 0))) [10])) (zg (z9 5 (xIf (bT (xOp gtD (zw zm (za (xC (.int 4)) zb)) (xC (.int 0)))) (xSl (xV 4) (wv (xUn U6 (xC (.int 1)))) pNo) (zY zb))) (zg (z9 6 (xLc (zG (zw zC (za (xOp va (xV 8) (xV 4)) zb))) (zh 11) (bT (xOp (inD true) (xV 11) (xV 5))) (xV 11) [11])) (zg (z9 7 (xOp va (xV 5) (xSl (xV 6) pNo (wv (xCB Xg (za (xC (.int 0)) (za (xOp Ix (xV 9) (xCB wx (za (xV 5) zb))) zb))))))) (zg (sIf (bOr (bT (xOp gtD (xOp va (xV 3) (xCB wx (za (xLc (zG (xV 7)) (zh 11) (bT (xOp (inD false) (xV 11) (xV 4))) (xV 11) [11]) zb))) (xC (.int 9)))) (bT (xOp eqD (xV 7) (zY zb)))) (zg (z9 7 (xSl (xV 8) pNo (wv (xV 9)))) zv) zv) (zg (ya (xCB yq (za (jC yu (za (xV 7) zb)) zb))) zv)))))))
def yy:List D→D→Option (D×D):=Vi 12 WU
def Qs:SF:=(zg (z9 4 (vS (zy yl (za (xLc (zG (xOp va (xV 1) (xV 2))) (zh 7) (bT (xOp (inD false) (xOp ixD (xV 7) (xC (.int 0))) (xV 3))) (xOp ixD (xV 7) (xC (.int 1))) [7]) zb)))) (zg (z9 5 (zw zm (za (xC (.int 6)) zb))) (zg (sIf (bT (xOp eqD (xV 5) (xC (.int 0)))) (zg (ya (xCB yq (za (xV 4) zb))) zv) zv) (zg (ya (xCB yq (za (xLc (zG (xV 4)) (zh 6) (vr (bT (xOp gtD (xV 5) (xC (.int 1)))) (bT (xOp gtD (zw zm (za (xC (.int 3)) zb)) (xC (.int 0))))) (xV 6) [6]) zb))) zv))))
def yN:List D→D→Option (D×D):=Vi 8 Qs
def XR:SF:=(zg (z9 3 (xSl (zw zC (za (zY (za (xC (.str "i")) (za (xC (.str "j")) (za (xC (.str "k")) (za (xC (.str "ab")) (za (xC (.str "zzzzzz")) (za (xC (.str "b")) (za (xC (.str "aaaaaa")) zb)))))))) zb)) pNo (wv (xCB Xg (za (xC (.int 1)) (za (xOp Ix (xV 2) (zw zO (za (zY (za (xC (.int 0)) (za (xC (.int 1)) (za (xC (.int 0)) (za (xC (.int 2)) zb))))) zb))) zb)))))) (zg (z9 4 (VW zC (zY (za (xC (.str "t")) (za (xC (.str "u")) (za (xC (.str "v")) (za (xC (.str "x")) (za (xC (.str "y")) (za (xC (.str "p")) (za (xC (.str "q")) (za (xC (.str "r")) (za (xC (.str "s")) (za (xC (.str "end")) (za (xC (.str "add")) (za (xC (.str "abcdef")) zb))))))))))))))) (zg (acF 8 9 10 (zY zb) (zY zb) (xC (.int 0))) (zg (vd (jT (za (xOp va (xC (.int 1)) (zw zm (za (xC (.int 4)) zb))) zb)) (zh 5) [5] (zg (jL 8 (J7 4) (za (xIf (bT (xOp gtD (xV 5) (xC (.int 0)))) (zw yx (za (xV 3) (za (xC (.int 3)) zb))) (xCB yq (za (jC yu (za (xSl (xV 3) pNo (wv (xC (.int 3)))) zb)) zb))) zb)) zv)) (zg (vd (jT (za (xOp va (xC (.int 1)) (zw zm (za (xV 1) zb))) zb)) (zh 5) [5,11,12] (zg (z9 11 (jp yy (za (xV 8) (za (xV 9) (za (xV 10) zb))))) (zg (aaA 10 (Uk 9 (xCB wx (za (xLc (zG (xV 9)) (zh 12) (bT (xOp (inD false) (xOp ixD (xV 12) (xC (.int 0))) (xV 11))) (xV 12) [12]) zb)))) (zg (jL 9 (J7 4) (za (jp yN (za (xV 8) (za (xV 9) (za (xV 11) zb)))) (za (xV 11) zb))) zv)))) (zg (z9 6 (zy yl (za (xLc (zG (xV 9)) (zh 12) vh (xOp ixD (xV 12) (xC (.int 2))) [12]) zb))) (zg (z9 7 (xLc (zG (xV 9)) (zh 12) (bOr (bT (xOp (inD true) (xOp ixD (xV 12) (xC (.int 0))) (xV 6))) (bT (xOp eqD (zw zm (za (xC (.int 5)) zb)) (xC (.int 0))))) (xOp ixD (xV 12) (xC (.int 0))) [12])) (zg (ya (zV (za (xCB yq (za (zw zC (za (xV 8) zb)) zb)) (za (xCB yq (za (xV 9) zb)) (za (xCB yq (za (jC yu (za (xV 7) zb)) zb)) zb))))) zv))))))))
def vj:List D→D→Option (D×D):=Vi 13 XR
def UH:SF:=(zg (ya (xCB QE (za (xLc (zG (xOp va (xOp ixD (xV 0) (xC (.int 0))) (xOp ixD (xV 0) (xC (.int 1))))) (zh 1) vh (zV (za (xOp ixD (xV 1) (xC (.int 0))) (za (xOp ixD (xV 1) (xC (.int 1))) zb))) [1]) zb))) zv)
def jx:List D→Option D:=yZ 2 UH
def XS:SF:=(zg (ya (xLc (zG (xOp ixD (xV 0) (xC (.int 1)))) (zh 1) vh (xOp ixD (xV 1) (xC (.int 0))) [1])) zv)
def ye:List D→Option D:=yZ 2 XS
def XT:SF:=(zg (ya (xCB QE (za (xLc (zG (xOp ixD (xV 0) (xC (.int 1)))) (zh 1) vh (zV (za (xOp ixD (xV 1) (xC (.int 0))) (za (xOp ixD (xV 1) (xC (.int 2))) zb))) [1]) zb))) zv)
def wd:List D→Option D:=yZ 2 XT
def Q6:SF:=(zg (ya (xCB yq (za (vS (zy yl (za (xLc (zG (xOp ixD (xV 0) (xC (.int 0)))) (zh 1) vh (xOp ixD (xV 1) (xC (.int 1))) [1]) zb))) zb))) zv)
def yV:List D→Option D:=yZ 2 Q6
def Wm:SF:=(zg (jb 2 3 (zy jx (za (xV 0) zb)) (xOp vw (zy wd (za (xV 0) zb)) (xV 1))) (zg (ya (xCB yq (za (vS (xLc (zG (zy yl (za (xLc (zG (xV 3)) (zh 5) vh (xOp vw (xV 2) (xV 5)) [5]) zb))) (zh 4) (bT (xOp (inD true) (xV 4) (xOp vw (xV 2) (xV 1)))) (xV 4) [4])) zb))) zv))
def wj:List D→Option D:=yZ 6 Wm
def I0:SF:=(zg (jb 1 2 (zy ye (za (xV 0) zb)) (zY zb)) (zg (vd (zG (xOp ixD (xV 0) (xC (.int 1)))) (jS 3 (yf (zh 3) (yf (zh 4) (yf (zh 5) j9)))) [4,3,6,5] (zg (Jn 2 (xLc (zG (xV 5)) (zh 6) (bT (xOp (inD false) (xV 6) (xV 1))) (zV (za (xV 6) (za (xV 3) zb))) [6])) zv)) (zg (ya (jC yu (za (xV 2) zb))) zv)))
def vI:List D→Option D:=yZ 7 I0
def VF:SF:=(zg (ya (jC yu (za (xLc (zG (xOp ixD (xV 0) (xC (.int 1)))) (zh 2) (bT (xOp (inD false) (xV 1) (xOp ixD (xV 2) (xC (.int 2))))) (xOp ixD (xV 2) (xC (.int 0))) [2]) zb))) zv)
def yG:List D→Option D:=yZ 3 VF
def I4:SF:=(zg (jb 3 4 (zY zb) (zy wd (za (xV 0) zb))) (zg (vd (zG (zy ye (za (xV 0) zb))) (zh 2) [2,5] (zg (sIf (bT (xOp neD (xLc (zG (xOp vw (xV 4) (xV 2))) (zh 5) (bOr (bT (xOp eqD (xV 5) (xV 1))) (bT (xOp (inD false) (xV 5) (xV 3)))) (xV 5) [5]) (zY zb))) (zg (yI 3 (xV 2)) zv) zv) zv)) (zg (ya (xV 3)) zv)))
def yK:List D→Option D:=yZ 6 I4
def Ga:SF:=(zg (jb 3 4 (xCB QE (za (xLc (zG (zy ye (za (xV 0) zb))) (zh 2) vh (zV (za (xV 2) (za (zy yK (za (xV 0) (za (xV 2) zb))) zb))) [2]) zb)) (zY zb)) (zg (vd (zG (zy ye (za (xV 0) zb))) (zh 2) [5,6,2,7] (zg (z9 5 (xLc (zG (xV 1)) (zh 7) (bT (xOp (inD false) (xV 2) (xOp vw (xV 3) (xV 7)))) (xV 7) [7])) (zg (z9 6 (xLc (zG (xV 1)) (zh 7) (bT (xOp (inD false) (xV 7) (xOp vw (xV 3) (xV 2)))) (xV 7) [7])) (zg (sIf (bOr (bT (xOp (inD false) (xV 2) (xV 1))) (vr (bT (xOp neD (xV 5) (zY zb))) (bT (xOp neD (xV 6) (zY zb))))) (zg (yI 4 (xV 2)) zv) zv) zv)))) (zg (ya (xCB yq (za (jC yu (za (xV 4) zb)) zb))) zv)))
def z6:List D→Option D:=yZ 8 Ga
def Wn:SF:=(zg (ya (zy z6 (za (xV 0) (za (xOp va (zY (za (xV 1) zb)) (zy yG (za (xV 0) (za (xV 1) zb)))) zb)))) zv)
def yH:List D→Option D:=yZ 2 Wn
def I5:SF:=(zg (jb 5 6 (zY zb) (zy jx (za (xV 0) zb))) (zg (vd (zG (xV 1)) (zh 4) [8,4,9,7] (zg (z9 7 (zy wj (za (xV 0) (za (xV 4) zb)))) (zg (z9 8 ((xOp neD (xLc (zG (zy yG (za (xV 0) (za (xV 4) zb)))) (zh 9) (bT (xOp (inD false) (xV 9) (xV 1))) (xV 9) [9]) (zY zb)))) (zg (sIf (bOr (vr (bT (xOp (inD false) (xV 2) (xV 7))) (bT (xV 8))) (vr (v8 (bT (xV 3))) (vr (bT (xOp (inD true) (xV 2) (xOp vw (xV 6) (xV 4)))) (bT (xOp (inD true) (xV 2) (xV 7)))))) (zg (yI 5 (xV 4)) zv) zv) zv)))) (zg (ya (xCB yq (za (jC yu (za (xV 5) zb)) zb))) zv)))
def vJ:List D→Option D:=yZ 10 I5
def XV:SF:=(zg (ya ((xOp neD (xLc (zG (xV 1)) (zh 3) (bT (xOp neD (xLc (zG (zy yK (za (xV 0) (za (xV 3) zb)))) (zh 4) (bT (xOp (inD false) (xV 4) (xV 2))) (xV 4) [4]) (zY zb))) (xV 3) [3]) (zY zb)))) zv)
def yL:List D→Option D:=yZ 5 XV
def Q7:SF:=(zg (z9 5 (vS (zy yl (za (xLc (zG (xOp va (xV 1) (xV 2))) (zh 7) (bT (xOp (inD false) (xOp ixD (xV 7) (xC (.int 0))) (xV 3))) (xOp ixD (xV 7) (xC (.int 1))) [7]) zb)))) (zg (ya (xCB yq (za (xLc (zG (xV 5)) (zh 6) (bT (xOp gtD (zw zm (za (xV 4) zb)) (xC (.int 0)))) (xV 6) [6]) zb))) zv))
def vc:List D→D→Option (D×D):=Vi 8 Q7
def UI:SF:=(zg (z9 4 (xSl (zw zC (za (zY (za (xC (.str "i")) (za (xC (.str "j")) (za (xC (.str "k")) (za (xC (.str "ab")) (za (xC (.str "zzzzzz")) (za (xC (.str "b")) (za (xC (.str "aaaaaa")) zb)))))))) zb)) pNo (wv (xV 2)))) (zg (z9 5 (VW zC (zY (za (xC (.str "t")) (za (xC (.str "u")) (za (xC (.str "v")) (za (xC (.str "x")) (za (xC (.str "y")) (za (xC (.str "p")) (za (xC (.str "q")) (za (xC (.str "r")) (za (xC (.str "s")) (za (xC (.str "end")) (za (xC (.str "add")) (za (xC (.str "abcdef")) zb))))))))))))))) (zg (JC [10,11,12] (za (zY zb) (za (zY zb) (za (zw zO (za (zY (za (xC (.int 1)) (za (xC (.int 2)) (za (xC (.int 5)) zb)))) zb)) zb)))) (zg (vd (jT (za (xOp va (xC (.int 1)) (zw zm (za (xC (.int 6)) zb))) zb)) (zh 6) [6] (zg (jL 10 (J7 5) (za (xIf (bT (xOp eqD (xV 6) (xC (.int 0)))) (xCB yq (za (jC yu (za (xSl (xV 4) pNo (wv (xOp va (xC (.int 1)) (zw zm (za (xV 12) zb))))) zb)) zb)) (zw yx (za (xV 4) (za (xC (.int 2)) zb)))) zb)) zv)) (zg (vd (zG (xV 1)) (zh 7) [6,13,7] (zg (z9 13 (xLc (zG (xV 7)) (zh 6) vh (xOp ixD (xOp ixD (xV 11) (xV 6)) (xC (.int 0))) [6])) (zg (sIf (bOr (bT (xOp eqD (xV 13) (zY zb))) (bT (xOp gtD (zw zm (za (xC (.int 3)) zb)) (xC (.int 0))))) (zg (yI 13 (xOp ixD (zw zO (za (xV 10) zb)) (xC (.int 0)))) zv) zv) (zg (jL 11 (J7 5) (za (jp vc (za (xV 10) (za (xV 11) (za (xV 13) (za (xV 3) zb))))) (za (xCB yq (za (jC yu (za (xV 13) zb)) zb)) zb))) zv)))) (zg (z9 8 (zy yl (za (xLc (zG (xV 11)) (zh 7) vh (xOp ixD (xV 7) (xC (.int 2))) [7]) zb))) (zg (z9 9 (xLc (zG (xV 11)) (zh 7) (bOr (bT (xOp (inD true) (xOp ixD (xV 7) (xC (.int 0))) (xV 8))) (bT (xOp eqD (zw zm (za (xC (.int 12)) zb)) (xC (.int 0))))) (xOp ixD (xV 7) (xC (.int 0))) [7])) (zg (ya (zV (za (xCB yq (za (zw zC (za (xV 10) zb)) zb)) (za (xCB yq (za (xV 11) zb)) (za (xCB yq (za (jC yu (za (xV 9) zb)) zb)) zb))))) zv))))))))
def we:List D→D→Option (D×D):=Vi 14 UI
def Wo:SF:=(zg (sIf (bOr (v8 (bT (JQ "list" (xV 1)))) (bOr (bT (xOp ltD (xCB wx (za (xV 1) zb)) (xC (.int 2)))) (bOr (bT (xOp (inD true) (xOp ixD (xV 1) (xC (.int 0))) (xV 2))) (bT (xOp (inD true) (xOp ixD (xV 1) (xUn U6 (xC (.int 1)))) (xV 3)))))) (zg (ya (xC (.bool false))) zv) zv) (zg (ya ((xOp eqD (xLc (aaH (za (xC (.int 1)) (za (xCB wx (za (xV 1) zb)) zb))) (zh 4) (bT (xOp (inD true) (zV (za (xOp ixD (xV 1) (xOp Ix (xV 4) (xC (.int 1)))) (za (xOp ixD (xV 1) (xV 4)) zb))) (zy vI (za (xV 0) zb)))) (xV 4) [4]) (zY zb)))) zv))
def vn:List D→Option D:=yZ 5 Wo
def Y2:SF:=(zg (z9 1 (xCB yq (za (xLc (zG (xSl (zw zC (za (zY (za (xC (.str "a")) (za (xC (.str "b")) (za (xC (.str "x")) zb)))) zb)) pNo (wv (zw zm (za (xC (.int 3)) zb))))) (zh 3) vh (zV (za (xV 3) (za (zV (za (xC (.str "i")) zb)) zb))) [3]) zb))) (zg (z9 2 (xCB QE (za (xLc (zG (xV 1)) (jS 2 (yf (zh 3) (yf (zh 4) j9))) vh (zV (za (xV 3) (za (Yq (QH (zV (za (xC (.int 0)) zb)) (xC (.int 5)) (QH (zV (za (xC (.int 1)) zb)) (xC (.int 7)) acV))) zb))) [3,4]) zb))) (zg (ya (zV (za (zV (za (xV 1) (za (zV zb) (za (zV zb) zb)))) (za (xIf (bT (xOp neD (xV 1) (zV zb))) (ac6 (ac5 (xC (.str "i")) (xC (.int 2)) aeV)) (xE0)) (za (xV 2) zb))))) zv)))
def vY:List D→D→Option (D×D):=Vi 5 Y2
def JZ:SF:=(zg (JC [4,5] (za (Ua yF (za (xV 0) (za (xV 1) (za (xV 2) zb)))) (za ((Qe (zy yL (za (xV 0) (za (xV 1) (za (xV 2) zb)))) (zy yL (za (xV 0) (za (xV 2) (za (xV 1) zb)))))) zb))) (zg (sIf (bOr (bT (QX (xOp abU (xV 4) (xC .none)))) (v8 (bT (xV 5)))) (zg (ya ((afN ((QX (xOp agF (xV 4) (xC .none)))) (xV 5)))) zv) zv) (zg (sIf (bOr (v8 (bT (JQ "tuple" (xV 4)))) (bT (xOp neD (QX (xCB wx (za (xV 4) zb))) (xC (.int 2))))) (zg (ya (xC (.bool true))) zv) zv) (zg (sIf (bOr (v8 (bT (QX (zy vn (za (xV 0) (za (xOp ixD (xV 4) (xC (.int 0))) (za (xV 1) (za (xV 2) zb)))))))) (v8 (bT (QX (zy vn (za (xV 0) (za (xOp ixD (xV 4) (xC (.int 1))) (za (xV 2) (za (xV 1) zb))))))))) (zg (ya (xC (.bool true))) zv) zv) (zg (z9 3 (QX (xCB YF (za (xV 4) zb)))) (zg (IL 4 [0] (xF (xC (.str "")))) (zg (Xn 4 [1]) (zg (ya ((xOp neD (xCB YF (za (zy yF (za (xV 0) (za (xV 1) (za (xV 2) zb)))) zb)) (xV 3)))) zv))))))))
def yv:List D→Option D:=yZ 6 JZ
def Y3:SF:=(zg (jb 3 4 (zy ye (za (xV 1) zb)) (zY zb)) (zg (vd (zG (xSl (zw zC (za (xV 3) zb)) pNo (wv (xC (.int 3))))) (zh 2) [2] (zg (yI 4 (zy yH (za (xV 1) (za (xV 2) zb)))) zv)) (zg (ya (xOp va (xV 4) (xLc (jT (za (xC (.int 3)) zb)) (zh 5) vh (zw yx (za (xV 3) (za (xC (.int 6)) zb))) [5]))) zv)))
def vZ:List D→D→Option (D×D):=Vi 6 Y3
def B_law:SF:=adt 1 ((zg (sIf (vr (bT (xOp eqD (zw zm (za (xC (.int 6)) zb)) (xC (.int 0)))) (v8 (bT (zy zQ (za (zy yd (za (xOp ixD (zw vY zb) (xC (.int 0))) (za (zV zb) zb))) (za (zV zb) zb)))))) (zg (ya (xC (.bool false))) zv) zv) (zg (z9 2 (zY (za (zV (za (zV zb) (za (zV (za (xC (.int 0)) zb)) (za (zV zb) (za (zV (za (xC (.int 2)) zb)) (za (zV (za (xC (.int 0)) (za (xC (.int 3)) zb))) (za (zV (za (xC (.int 1)) (za (xC (.int 2)) zb))) zb))))))) (za (zV (za (zV zb) (za (zV (za (xC (.int 0)) zb)) (za (zV (za (xC (.int 0)) (za (xC (.int 1)) zb))) (za (zV (za (xC (.int 1)) (za (xC (.int 2)) zb))) (za (zV (za (xC (.int 0)) zb)) zb)))))) (za (zV (za (zV zb) (za (zV zb) (za (zV (za (xC (.int 0)) (za (xC (.int 1)) zb))) (za (zV (za (xC (.int 0)) zb)) (za (zV (za (xC (.int 1)) (za (xC (.int 3)) zb))) zb)))))) zb))))) (zg (vd (jT (za (xC (.int 2)) zb)) (zh 3) [10,8,7,6,11,5,12,13,4,9,3] (zg (z9 4 (xIf (bT (xOp eqD (zw zm (za (xC (.int 2)) zb)) (xC (.int 0)))) (zw vj (za (xC (.int 6)) (za (xC (.int 5)) zb))) (zw we (za (zw zO (za (xV 2) zb)) (za (xC (.int 4)) (za (xC (.int 4)) zb)))))) (zg (vd (zG (zy ye (za (xV 4) zb))) (zh 5) [5] (zg (sIf (v8 (bT (zy zQ (za (zy Je (za (xV 4) (za (xV 5) zb))) (za (zy yH (za (xV 4) (za (xV 5) zb))) zb))))) (zg (ya (xC (.bool false))) zv) zv) zv)) (zg (z9 6 (zw vZ (za (xV 4) zb))) (zg (vd (zG (xV 6)) (zh 7) [10,7,11,9] (zg (z9 9 (zy yd (za (xV 4) (za (xV 7) zb)))) (zg (sIf (bOr (v8 (bT (zy zQ (za (xV 9) (za (zy z6 (za (xV 4) (za (xV 7) zb))) zb))))) (v8 (bT (zy zQ (za (zy yd (za (xV 4) (za (xV 9) zb))) (za (xV 9) zb)))))) (zg (ya (xC (.bool false))) zv) zv) (zg (vd (zG (xSl (zw zC (za (zy yV (za (xV 4) zb)) zb)) pNo (wv (xC (.int 2))))) (zh 10) [10,11] (zg (vd (zG (zV (za (xC (.bool true)) (za (xC (.bool false)) zb)))) (zh 11) [11] (zg (sIf (v8 (bT (zy zQ (za (zy wI (za (xV 4) (za (xV 7) (za (xV 10) (za (xV 11) zb))))) (za (zy vJ (za (xV 4) (za (xV 7) (za (xV 10) (za (xV 11) zb))))) zb))))) (zg (ya (xC (.bool false))) zv) zv) zv)) zv)) zv)))) (zg (vd (jT (za (xC (.int 6)) zb)) (zh 8) [8,5,12,13] (zg (jb 12 13 (zy z6 (za (xV 4) (za (zw zO (za (xV 6) zb)) zb))) (zy z6 (za (xV 4) (za (zw zO (za (xV 6) zb)) zb)))) (zg (sIf (vr (bT (xOp neD (xV 12) (zV zb))) (vr (bT (xOp neD (xV 13) (zV zb))) (vr (bT (xOp eqD (xLc (zG (xV 12)) (zh 5) (bT (xOp (inD false) (xV 5) (xV 13))) (xV 5) [5]) (zY zb))) (bT (zy yv (za (xV 4) (za (xV 12) (za (xV 13) zb)))))))) (zg (ya (xC (.bool false))) zv) zv) zv))) zv)))))) (zg (ya (xC (.bool true))) zv)))))
end
end KP
namespace KP
open PySem PySem.Spec PyProof.Rows L2 PL
theorem ai4{n:Nat}(h:n≤10000000):sz n=true:=VC (by omega)
theorem adO{f:XF}{env:Env}{g g1:D}{ds:List D}(h:f env g=some (.tuple ds,g1)):JQ "tuple" f env g=some (.bool true,g1):=by
 unfold JQ
 rw[h,Option.bind_some]
 show(if YM (.tuple ds) then _ else none)=_
 rw[if_pos (show YM _=true from rfl)]
 have:kitB (tyD (.tuple ds)) "tuple" = some true:=by
  show kitB "tuple" "tuple" = some true
  decide +kernel
 rw[this]
 rfl
theorem afd{f:XF}{env:Env}{g g1:D}{ds:List D}(h:f env g=some (.list ds,g1)):JQ "list" f env g=some (.bool true,g1):=by
 unfold JQ
 rw[h,Option.bind_some]
 show(if YM (.list ds) then _ else none)=_
 rw[if_pos (show YM _=true from rfl)]
 have:kitB (tyD (.list ds)) "list" = some true:=by
  show kitB "list" "list" = some true
  decide +kernel
 rw[this]
 rfl
theorem agd(a b:Int):ltD (.int a) (.int b)=some (.bool (decide (a<b))):=rfl
theorem Yt(a b:Str):leS a b=!ltS b a:=by
 show(!PySem.W.dataLt (.str b) (.str a))=_
 rw[PySem.W.dataLt_str]
 rfl
theorem adP(a b c:Str)(h1:leS a b=true)(h2:leS b c=true):leS a c=true:=by
 rw[Yt,Bool.not_eq_true'] at *
 cases h:ltS c a with
 | false=>rfl
 | true =>
  exfalso
  by_cases e:ltS a b=true
  ·have:=GZ h e
   rw[h2] at this;cases this
  ·have e1:=IX (by simpa using e) h1
   subst e1
   rw[h2] at h;cases h
theorem adQ(a b:Str):(leS a b||leS b a)=true:=by
 rw[Yt,Yt]
 cases h:ltS b a with
 | false=>rfl
 | true=>rw[G4 h];rfl
theorem afe{a b:Str}(h1:leS a b=true)(h2:leS b a=true):a=b:=by
 rw[Yt,Bool.not_eq_true'] at *
 exact IX h2 h1
theorem aff(l:List Str):(srt l).Pairwise fun a b=>leS a b=true:=List.pairwise_mergeSort adP adQ l
def CnS(l:List Str):Prop:=l.Pairwise fun a b=>ltS a b=true
theorem CnS.nd{l:List Str}(h:CnS l):l.Nodup:=List.Pairwise.imp (fun h e=>by rw[e,ad0] at h;cases h) h
theorem CnS.le{l:List Str}(h:CnS l):l.Pairwise fun a b=>leS a b=true:=h.imp fun h=>by rw[Yt,G4 h];rfl
theorem afg{l m:List Str}(nd:l.Nodup)(h:CnS m)(e:∀x,x∈l↔x∈m):srt l=m:=by
 have p:(srt l).Perm m:=(Jd l).trans ((List.perm_ext_iff_of_nodup nd h.nd).mpr e)
 exact p.eq_of_pairwise (fun a b _ _ h1 h2=>afe h1 h2) (aff l) h.le
theorem Yu{l:List Str}(nd:l.Nodup):CnS (srt l):=by
 have nd2:(srt l).Nodup:=(Jd l).nodup_iff.mpr nd
 refine((aff l).and nd2).imp fun {a b} ⟨h1,h2⟩=>?_
 cases h:ltS a b with
 | true=>rfl
 | false =>
  rw[Yt,Bool.not_eq_true'] at h1
  exact absurd (IX h h1) h2
theorem afh(l:List Str):∃A:List Str,ddK (l.map .inr)=A.map .inr∧A.Nodup∧∀x,x∈A↔x∈l:=by
 have key:∀ks:List Key,(∀k∈ks,∃x,k=.inr x)→∃A:List Str,ks=A.map .inr:=by
  intro ks
  induction ks with
  | nil=>intro _;exact⟨[],rfl⟩
  | cons k ks ih =>
   intro h
   obtain⟨x,rfl⟩:=h k (by simp)
   obtain⟨A,rfl⟩:=ih fun k hk=>h k (by simp[hk])
   exact⟨x::A,rfl⟩
 obtain⟨A,e⟩:=key (ddK (l.map .inr)) fun k hk=>by
  obtain⟨x,_,rfl⟩:=List.mem_map.mp (wM.mp hk)
  exact⟨x,rfl⟩
 refine⟨A,e,?_,fun x=>?_⟩
 ·have:=jW (l.map .inr)
  rw[e] at this
  exact(List.pairwise_map.mp this).imp fun h e=>h (by rw[e])
 ·have:=wM (k:=(.inr x:Key)) (l:=l.map .inr)
  rw[e] at this
  simpa using this
structure Srt(p:vX):Prop where
 steps:∀s∈p.steps,CnS s.2
 pairs:∀q∈p.pairs,CnS q.2.2
def ai5(p:vX):Prop:=∃U:List Str,U.length≤10∧∀s∈p.steps,∀x∈s.2,x∈U
section
variable {p:vX} (o:Okp p) (so:Srt p) (fa:ai5 p)
include o so fa
end
section
variable {p:vX} (o:Okp p) (so:Srt p)
include o so
inductive Paper(p:vX):D→Prop
 | path {q:List Str} {a b:Str} {i:Nat}:p.names[i]? = some a→b∈p.names.drop (i+1)→BadP p a b q→Paper p (.tuple [.str "path",lS q])
 | ring {q:List Str}:(∀q a i b,p.names[i]? = some a→b∈p.names.drop (i+1)→¬BadP p a b q)→ai2 p q→Paper p (.tuple [.str "ring",lS q])
 | tree {ks:List ab2} {ord:List (List Str)}:Fine p CnS→Lots p.names (prs p p.names []) ord→acd p.pairs ord→LaidP p [] ord ks→(∀q,¬ai2 p q)→Paper p (.tuple [.str "tree",ai3 ks])
end
theorem age{fa fb:XF}{env:Env}{g g1:D}(h1:fa env g=some (.bool true,g1)):Qe fa fb env g=fb env g1:=by
 unfold Qe
 rw[h1]
 rfl
section
variable {p:vX} (o:Okp p)
include o
end
def vN(a m k:Int)(cs:List Int):D:=.list [.int a,.int m,.int k,.list (cs.map .int)]
def Bag(g:D):Prop:=∃a m k cs,g=vN a m k cs∧cs.length≤63
theorem ad2{a m k:Int}{cs:List Int}{env:Env}:y8 (xC (.int 0)) env (vN a m k cs)=some (.int a,vN a m k cs):=rfl
theorem ad3{a m k:Int}{cs:List Int}{env:Env}:y8 (xC (.int 1)) env (vN a m k cs)=some (.int m,vN a m k cs):=rfl
theorem agf{a m k:Int}{cs:List Int}{env:Env}:y8 (xC (.int 2)) env (vN a m k cs)=some (.int k,vN a m k cs):=rfl
theorem agg{α β:Type}(f:α→β)(l:List α)(lo hi:Option Int):Jm (l.map f) lo hi=(Jm l lo hi).map f:=by
 unfold Jm
 rw[List.length_map,←List.map_drop,←List.map_take]
theorem agh{α:Type}(l:List α)(lo hi:Option Int):(Jm l lo hi).length≤l.length:=by
 unfold Jm
 rw[List.length_take,List.length_drop]
 omega
theorem QL{i j:Int}(h:0<j):Vl (.int i) (.int j)=some (.int (i % j)):=if_pos h
theorem I6{i j:Int}(h1 : -(2^64)<j)(h2:j<2^64):J6 (.int i) (.int j)=some (.int (i*j)):=by
 unfold J6
 dsimp only
 rw[if_pos]
 simp only[Bool.or_eq_true,Bool.and_eq_true,decide_eq_true_eq]
 exact .inr ⟨h1,h2⟩
theorem afi{i j:Int}(h1 : -(2^64)<i)(h2:i<2^64):J6 (.int i) (.int j)=some (.int (i*j)):=by
 unfold J6
 dsimp only
 rw[if_pos]
 simp only[Bool.or_eq_true,Bool.and_eq_true,decide_eq_true_eq]
 exact .inl ⟨h1,h2⟩
theorem ab6{i j:Int}(h1:0<j)(h2:j<1073741824):Z5 (.int i) (.int j)=some (.int (i / j)):=by
 unfold Z5
 dsimp only
 rw[if_pos]
 simp[h1,h2]
theorem adR{many a m k:Int}{cs:List Int}(hc:cs.length≤63):∃a2 m2 k2:Int,sIf (bT (xOp eqD (y8 (xC (.int 0))) (xC (.int 0)))) (zg (z9 4 (xOp ixD (xOp va (xSl (y8 (xC (.int 3))) (wv (y8 (xC (.int 2)))) pNo) (zY (za (xC (.int 0)) zb))) (xC (.int 0)))) (zg (Xh 2 (xC (.int 1))) (zg (jn 0 (xOp J6 (xV 4) (xCB J5 (za ((xOp geD (xV 4) (xOp ads (xC (.int 10)) (xC (.int 18))))) zb)))) (zg (z9 5 (xOp va (xOp va (xOp J6 (y8 (xC (.int 1))) (xC (.int 48271))) (xOp Vl (xCB J5 (za (xV 4) zb)) (xC (.int 2147483647)))) (xOp J6 (xC (.int 7919)) (y8 (xC (.int 2)))))) (zg (jn 1 (xOp Vl (xCB J5 (za (xV 5) zb)) (xC (.int 2147483647)))) (aaj [4,5] zv)))))) zv
  [none,some (.int many),none,none,none,none,none] (vN a m k cs)=some (.nx [none,some (.int many),none,none,none,none,none] (vN a2 m2 k2 cs)):=by
 have c:bT (xOp eqD (y8 (xC (.int 0))) (xC (.int 0))) [none,some (.int many),none,none,none,none,none] (vN a m k cs)=some (decide (a=0),vN a m k cs):=zP (zu rfl rfl (QJ _ _))
 by_cases h:a=0
 ·rw[decide_eq_true h] at c
  -- the cell
  obtain⟨cell,rest,hcell⟩:∃c r,Jm cs (some k) none++[0]=c::r:=by
   cases e:Jm cs (some k) none++[0] with
   | nil=>simp at e
   | cons c r=>exact⟨c,r,rfl⟩
  have s1:xOp ixD (xOp va (xSl (y8 (xC (.int 3))) (wv (y8 (xC (.int 2)))) pNo) (zY (za (xC (.int 0)) zb))) (xC (.int 0)) [none,some (.int many),none,none,none,none,none] (vN a m k cs)=some (.int cell,vN a m k cs):=by
   refine zu (a:=.list ((Jm cs (some k) none++[0]).map .int)) (b:=.int 0) (g1:=vN a m k cs) (zu (a:=.list ((Jm cs (some k) none).map .int)) (b:=.list [.int 0]) (g1:=vN a m k cs) ?_ rfl ?_) rfl ?_
   ·show some (PyData.list (Jm (cs.map PyData.int) (some k) none),vN a m k cs)=_
    rw[agg]
   ·show(if sz (((Jm cs (some k) none).map PyData.int).length+1) then some (PyData.list ((Jm cs (some k) none).map .int++[.int 0])) else none)=_
    rw[if_pos (ai4 (by rw[List.length_map];have:=agh cs (some k) none;omega)),List.map_append]
    rfl
   ·rw[hcell];exact ahT _ _
  have s2:Xh 2 (xC (.int 1)) [none,some (.int many),none,none,some (.int cell),none,none] (vN a m k cs)=some (.nx [none,some (.int many),none,none,some (.int cell),none,none] (vN a m (k+1) cs)):=rfl
  have s3:∃a2,jn 0 (xOp J6 (xV 4) (xCB J5 (za ((xOp geD (xV 4) (xOp ads (xC (.int 10)) (xC (.int 18))))) zb))) [none,some (.int many),none,none,some (.int cell),none,none] (vN a m (k+1) cs)=some (.nx [none,some (.int many),none,none,some (.int cell),none,none] (vN a2 m (k+1) cs)):=by
   have e1:xOp geD (xV 4) (xOp ads (xC (.int 10)) (xC (.int 18))) [none,some (.int many),none,none,some (.int cell),none,none] (vN a m (k+1) cs)=some (.bool (decide ((10:Int)^((18:Int).toNat)≤cell)),vN a m (k+1) cs):=zu rfl (zu rfl rfl rfl) rfl
   refine⟨cell*(if decide ((10:Int)^((18:Int).toNat)≤cell) then 1 else 0),?_⟩
   unfold jn
   rw[zu (d:=.int (cell*(if decide ((10:Int)^((18:Int).toNat)≤cell) then 1 else 0))) (g2:=vN a m (k+1) cs) rfl (yg (zd e1 rfl) rfl) (I6 (by split <;> decide) (by split <;> decide))]
   rfl
  obtain⟨a2,s3⟩:=s3
  have s4:∃mx,xOp va (xOp va (xOp J6 (y8 (xC (.int 1))) (xC (.int 48271))) (xOp Vl (xCB J5 (za (xV 4) zb)) (xC (.int 2147483647)))) (xOp J6 (xC (.int 7919)) (y8 (xC (.int 2)))) [none,some (.int many),none,none,some (.int cell),none,none] (vN a2 m (k+1) cs)=some (.int mx,vN a2 m (k+1) cs) :=
   ⟨_,zu (zu (zu ad3 rfl (I6 (by decide) (by decide))) (zu (yg (zd rfl rfl) rfl) rfl (QL (by decide))) rfl) (zu rfl agf (afi (by decide) (by decide))) rfl⟩
  obtain⟨mx,s4⟩:=s4
  have s5:jn 1 (xOp Vl (xCB J5 (za (xV 5) zb)) (xC (.int 2147483647))) [none,some (.int many),none,none,some (.int cell),some (.int mx),none] (vN a2 m (k+1) cs)=some (.nx [none,some (.int many),none,none,some (.int cell),some (.int mx),none] (vN a2 (mx % 2147483647) (k+1) cs)):=by
   unfold jn
   rw[zu (d:=.int (mx % 2147483647)) (g2:=vN a2 m (k+1) cs) (yg (zd rfl rfl) rfl) rfl (QL (by decide))]
   rfl
  exact⟨a2,mx % 2147483647,k+1,(Qn c).trans ((zk (zU s1)).trans ((zk s2).trans ((zk s3).trans ((zk (zU s4)).trans ((zk s5).trans rfl)))))⟩
 ·rw[decide_eq_false h] at c
  exact⟨a,m,k,(wB c).trans rfl⟩
theorem vP{many:Int}{g:D}(h0:0<many)(h1:many<1073741824)(hb:Bag g):∃(r:Int) (g':D),zm [.int many] g=some (.int r,g')∧0≤r∧r<many∧Bag g':=by
 obtain⟨a,m,k,cs,rfl,hc⟩:=hb
 obtain⟨a2,m2,k2,half⟩:=adR (many:=many) (a:=a) (m:=m) (k:=k) hc
 have start:∀d g',YY [none,some (.int many),none,none,none,none,none] (vN a m k cs)=some (.rt d g')→zm [.int many] (vN a m k cs)=some (d,g'):=fun d g' h=>jK h
 have c:bT (xOp gtD (y8 (xC (.int 0))) (xC (.int 0))) [none,some (.int many),none,none,none,none,none] (vN a2 m2 k2 cs)=some (decide (0<a2),vN a2 m2 k2 cs):=zP (zu rfl rfl rfl)
 by_cases h:0<a2
 ·rw[decide_eq_true h] at c
  refine⟨a2 % many,vN (a2 / many) m2 k2 cs,start _ _ ((zk half).trans ((zL ((Qn c).trans ((zk (zU (zu (yg (zd ad2 rfl) rfl) rfl (QL h0)))).trans ((zk (e:=[none,some (.int many),none,none,none,none,some (.int (a2 % many))]) (g1:=vN (a2 / many) m2 k2 cs) ?_).trans ((zL rfl).trans rfl))))).trans rfl)),Int.emod_nonneg _ (by omega),Int.emod_lt_of_pos _ h0,⟨_,_,_,_,rfl,hc⟩⟩
  show jn 0 (xOp Z5 (xCB J5 (za (y8 (xC (.int 0))) zb)) (xV 1)) [none,some (.int many),none,none,none,none,some (.int (a2 % many))] (vN a2 m2 k2 cs)=_
  unfold jn
  rw[zu (d:=.int (a2 / many)) (g2:=vN a2 m2 k2 cs) (yg (zd ad2 rfl) rfl) rfl (ab6 h0 h1)]
  rfl
 ·rw[decide_eq_false h] at c
  obtain⟨e0,he0⟩:∃e0,e0=(m2+1)*39373 % 1000000007:=⟨_,rfl⟩
  have b0:0≤e0:=by rw[he0];exact Int.emod_nonneg _ (by decide)
  have b1:e0<1000000007:=by rw[he0];exact Int.emod_lt_of_pos _ (by decide)
  have s1:xOp Vl (xCB J5 (za (xOp J6 (xOp va (y8 (xC (.int 1))) (xC (.int 1))) (xC (.int 39373))) zb)) (xC (.int 1000000007)) [none,some (.int many),none,none,none,none,none] (vN a2 m2 k2 cs)=some (.int e0,vN a2 m2 k2 cs):=by
   rw[he0]
   exact zu (yg (zd (zu (zu ad3 rfl rfl) rfl (I6 (by decide) (by decide))) rfl) rfl) rfl (QL (by decide))
  have s2:xOp Vl (xCB J5 (za (xOp J6 (xOp Vl (xCB J5 (za (xOp J6 (xV 2) (xV 2)) zb)) (xC (.int 998244353))) (xC (.int 30011))) zb)) (xC (.int 998244353)) [none,some (.int many),some (.int e0),none,none,none,none] (vN a2 m2 k2 cs)=some (.int (e0*e0 % 998244353*30011 % 998244353),vN a2 m2 k2 cs) :=
   zu (yg (zd (zu (zu (yg (zd (zu rfl rfl (afi (by omega) (by omega))) rfl) rfl) rfl (QL (by decide))) rfl (I6 (by decide) (by decide))) rfl) rfl) rfl (QL (by decide))
  exact⟨_,vN a2 m2 k2 cs,start _ _ ((zk half).trans ((zk ((wB c).trans rfl)).trans ((zk (zU s1)).trans ((zk (zU s2)).trans ((zL (zZ (zu (yg (zd (zu rfl rfl (ab6 (by decide) (by decide))) rfl) rfl) rfl (QL h0)))).trans rfl))))),Int.emod_nonneg _ (by omega),Int.emod_lt_of_pos _ h0,⟨_,_,_,_,rfl,hc⟩⟩
theorem jP{α:Type}(enc:α→D){d:D}{xs:List α}{g:D}(hd:y9 d=some (xs.map enc))(h1:xs.length≤1000000)(hb:Bag g):∃(ys:List α) (g':D),zC [d] g=some (.list (ys.map enc),g')∧ys.Perm xs∧Bag g':=by
 have loop:=yM (h:=zh 3) (wp:=[3]) (body:=zg (Xc 2 (zw zm (za (xOp va (xCB wx (za (xV 2) zb)) (xC (.int 1))) zb)) (xV 3)) zv) enc
  (fun zs env g=>Bag g∧∃(done ys:List α),done++zs=xs∧env=[none,some d,some (.list (ys.map enc)),none]∧ys.Perm done)
  (fun x zs env g ⟨hg,done,ys,hdn,he,hp⟩=>by
   subst he
   have hyl:ys.length<1000000:=by
    have:=hp.length_eq
    have:=congrArg List.length hdn
    rw[List.length_append,List.length_cons] at this
    omega
   obtain⟨r,g',e1,e2,e3,e4⟩:=vP (many:=(ys.length:Int)+1) (g:=g) (by omega) (by omega) hg
   have s1:zw zm (za (xOp va (xCB wx (za (xV 2) zb)) (xC (.int 1))) zb) [none,some d,some (.list (ys.map enc)),some (enc x)] g=some (.int r,g'):=by
    refine zM (zd (zu (a:=.int ((ys.map enc).length:Nat)) (yg (zd rfl rfl) rfl) rfl rfl) rfl) ?_
    rw[List.length_map];exact e1
   have s2:Xc 2 (zw zm (za (xOp va (xCB wx (za (xV 2) zb)) (xC (.int 1))) zb)) (xV 3) [none,some d,some (.list (ys.map enc)),some (enc x)] g=some (.nx [none,some d,some (.list ((ys.take r.toNat++[x]++ys.drop r.toNat).map enc)),some (enc x)] g'):=by
    unfold Xc
    rw[vo (d:=.list (ys.map enc)) rfl,Option.bind_some,s1,Option.bind_some,vo (d:=enc x) rfl,Option.bind_some]
    show(if sz (ys.map enc).length&&decide (0≤r∧r<2^63) then some (SR.nx [none,some d,some (.list ((ys.map enc).take r.toNat++[enc x]++(ys.map enc).drop r.toNat)),some (enc x)] g') else none)=_
    rw[if_pos (by rw[Bool.and_eq_true];exact⟨ai4 (by rw[List.length_map];omega),by simp;omega⟩)]
    simp
   refine⟨_,_,g',rfl,(zk s2).trans rfl,e4,done++[x],_,by simpa using hdn,rfl,?_⟩
   have:(ys.take r.toNat++[x]++ys.drop r.toNat).Perm (ys++[x]):=by
    have e:ys++[x]=ys.take r.toNat++(ys.drop r.toNat++[x]):=by rw[←List.append_assoc,List.take_append_drop]
    rw[e,List.append_assoc]
    exact List.Perm.append_left _ List.perm_append_comm
   exact this.trans (hp.append_right [x]))
  xs [none,some d,some (.list []),none] g ⟨hb,[],[],rfl,rfl,.refl _⟩
 obtain⟨e,g',l1,hg,done,ys,hdn,rfl,hp⟩:=loop
 rw[List.append_nil] at hdn
 subst hdn
 refine⟨ys,g',jK ?_,hp,hg⟩
 show XH [none,some d,none,none] g=_
 exact(zk (zU (z8 rfl (by simp)))).trans ((zk (yT (zI rfl hd) l1)).trans ((zL rfl).trans rfl))
def ddp:List Str→List Str
 | []=>[]
 | x::l=>if x∈l then ddp l else x::ddp l
theorem ZD{x:Str}:∀ {l:List Str},x∈ddp l↔x∈l
 | []=>Iff.rfl
 | y::l=>by
  unfold ddp
  split
  ·rename_i h
   rw[ZD,List.mem_cons]
   exact⟨.inr,fun z=>z.elim (fun e=>by rw[e];exact h) id⟩
  ·rw[List.mem_cons,List.mem_cons,ZD]
theorem ach:∀(l:List Str),(ddp l).Nodup
 | []=>List.nodup_nil
 | y::l=>by
  unfold ddp
  split
  ·exact ach l
  ·rename_i h
   exact List.nodup_cons.mpr ⟨fun z=>h (ZD.mp z),ach l⟩
def cnl(l:List Str):List Str:=srt (ddp l)
theorem wt{x:Str}{l:List Str}:x∈srt l↔x∈l:=(Jd l).mem_iff
theorem wZ{x:Str}{l:List Str}:x∈cnl l↔x∈l:=wt.trans ZD
theorem J9(l:List Str):CnS (cnl l):=Yu (ach l)
theorem QM{l:List Str}(nd:l.Nodup):CnS (srt l):=Yu nd
theorem CnS.srt{l:List Str}(h:CnS l):srt l=l:=afg h.nd h fun _=>Iff.rfl
theorem CnS.ext{l m:List Str}(h:CnS l)(k:CnS m)(e:∀x,x∈l↔x∈m):l=m:=by
 rw[←h.srt]
 exact afg h.nd k e
theorem CnS.filter{l:List Str}(h:CnS l)(p:Str→Bool):CnS (l.filter p):=List.Pairwise.filter _ h
theorem aci{l:List Str}(nd:l.Nodup):srt l=cnl l:=(QM nd).ext (J9 l) fun x=>wt.trans wZ.symm
theorem adS{l m:List Str}(e:∀x,x∈l↔x∈m):cnl l=cnl m:=(J9 l).ext (J9 m) fun x=>by rw[wZ,wZ,e]
theorem Y4{l:List Str}(hl:l.length≤1000):Qk (.list (l.map .str))=some ((cnl l).map .str):=by
 obtain⟨A,h1,h2,h3⟩:=afh l
 unfold Qk
 show(some (l.map PyData.str)).bind _=_
 rw[Option.bind_some,WS,Option.bind_some,ab1,List.length_map,if_pos (by simpa using hl),h1,List.map_map]
 show some (wq (A.map PyData.str))=_
 rw[UA,aci h2,adS h3]
theorem I7{l:List Str}(hl:l.length≤1000):Qk (.tuple (l.map .str))=some ((cnl l).map .str):=Y4 hl
theorem w9{f:XF}{env:Env}{g g1 d:D}{l:List Str}(h:f env g=some (d,g1))(hd:d=lS l∨d=tS l)(hl:l.length≤1000):vS f env g=some (lS (cnl l),g1):=by
 unfold vS
 rw[h,Option.bind_some]
 rcases hd with rfl | rfl
 ·show((Qk (.list (l.map .str))).bind _)=_
  rw[Y4 hl];rfl
 ·show((Qk (.tuple (l.map .str))).bind _)=_
  rw[I7 hl];rfl
theorem ad4:∀(l:List Str),(ddp l).length≤l.length
 | []=>Nat.le_refl _
 | y::l=>by
  have:=ad4 l
  unfold ddp
  split
  ·rw[List.length_cons];omega
  ·rw[List.length_cons,List.length_cons];omega
theorem ZE(l:List Str):(cnl l).length≤l.length:=by
 have:=ad4 l
 rw[cnl,(Jd _).length_eq];exact this
theorem ZF(l:List Str):(srt l).length=l.length:=(Jd l).length_eq
def yz{β:Type}(k:Str):List (Str×β)→Option β
 | []=>none
 | (j,v)::r=>if j=k then some v else yz k r
def alD{β:Type}(enc:β→D)(l:List (Str×β)):List (D×D):=l.map fun q=>(.str q.1,enc q.2)
section
variable {β:Type} {enc:β→D}
theorem XW{k:Str}{v:β}:∀ {l:List (Str×β)},(l.map (·.1)).Nodup→(k,v)∈l→yz k l=some v
 | (j,w)::r,nd,h=>by
  unfold yz
  rw[List.map_cons,List.nodup_cons] at nd
  rcases List.mem_cons.mp h with e | e
  ·cases e;exact if_pos rfl
  ·rw[if_neg fun z=>nd.1 (by rw[z];exact List.mem_map_of_mem (f:=(·.1)) e)]
   exact XW nd.2 e
theorem XX{k:Str}{v:β}:∀ {l:List (Str×β)},yz k l=some v→(k,v)∈l
 | (j,w)::r,h=>by
  unfold yz at h
  split at h
  ·rename_i e;cases h;rw[e];simp
  ·exact List.mem_cons_of_mem _ (XX h)
theorem Yv{k:Str}:∀ {l:List (Str×β)},k∉l.map (·.1)→yz k l=none
 | [],_=>rfl
 | (j,w)::r,h=>by
  unfold yz
  rw[List.map_cons,List.mem_cons] at h
  rw[if_neg fun e=>h (.inl e.symm)]
  exact Yv fun z=>h (.inr z)
theorem Qt{k:Str}:∀ {l:List (Str×β)},k∈l.map (·.1)→∃v,yz k l=some v
 | (j,w)::r,h=>by
  unfold yz
  by_cases e:j=k
  ·exact⟨w,if_pos e⟩
  ·rw[if_neg e]
   exact Qt ((List.mem_cons.mp h).resolve_left fun z=>e z.symm)
theorem Y5{k:Str}:∀ {l m:List (Str×β)},yz k (l++m)=(yz k l).or (yz k m)
 | [],m=>by simp[yz]
 | (j,w)::r,m=>by
  show(if j=k then some w else yz k (r++m))=(if j=k then some w else yz k r).or (yz k m)
  split
  ·rfl
  ·exact Y5
theorem jQ(k:Str):∀l:List (Str×β),yY (.inr k) (alD enc l)=(yz k l).map enc
 | []=>rfl
 | (j,v)::r=>by
  show(if vV (.str j)=some (.inr k) then some (enc v) else yY (.inr k) (alD enc r))=_
  unfold yz
  by_cases e:j=k
  ·rw[if_pos (by rw[e];rfl),if_pos e];rfl
  ·rw[if_neg (fun c=>e (by simpa[vV] using c)),if_neg e]
   exact jQ k r
theorem acj(l:List (Str×β)):isT (alD enc l)=false:=by
 unfold isT alD
 rw[List.any_map,List.any_eq_false]
 intro q _
 simp
theorem XY(l:List (Str×β))(k:Str):JU (.dict (alD enc l)) (.str k)=some ((yz k l).map enc):=by
 show(if isT (alD enc l) then _ else(vV (.str k)).bind fun k=>some (yY k (alD enc l)))=_
 rw[acj,if_neg (by simp)]
 show some (yY (.inr k) (alD enc l))=_
 rw[jQ]
theorem wJ{l:List (Str×β)}{k:Str}{v:β}(h:yz k l=some v):vw (.dict (alD enc l)) (.str k)=some (enc v):=by
 show(JU (.dict (alD enc l)) (.str k)).bind id=_
 rw[XY,h];rfl
theorem ZG{neg:Bool}{l:List (Str×β)}{k:Str}:Zk neg (.str k) (.dict (alD enc l))=some (.bool (if neg then !decide (k∈l.map (·.1)) else decide (k∈l.map (·.1)))):=by
 unfold Zk
 rw[XY,Option.bind_some]
 by_cases h:k∈l.map (·.1)
 ·obtain⟨v,hv⟩:=Qt h
  rw[hv];simp[h]
 ·rw[Yv h];simp[h]
theorem ahw{l:List (Str×β)}{k:Str}(h:k∉l.map (·.1)):(alD enc l).any (fun p=>decide (vV p.1=some (.inr k)))=false:=by
 unfold alD
 rw[List.any_map,List.any_eq_false]
 intro q hq
 simp only[Function.comp,vV,decide_eq_true_eq,Option.some.injEq,Sum.inr.injEq]
 intro e
 exact h (e▸List.mem_map_of_mem hq)
theorem ad5{l:List (Str×β)}{k:Str}{v:β}(h:k∉l.map (·.1)):Vt (.inr k) (enc v) (alD enc l)=alD enc (l++[(k,v)]):=by
 unfold Vt
 rw[ahw h,if_neg (by simp)]
 simp[alD,kD]
theorem ad6(l:List (Str×β)):(alD enc l).length=l.length:=by simp[alD]
def J0(enc:β→D)(q:Str×β):D:=.tuple [.str q.1,enc q.2]
theorem Ic:∀l:List (Str×β),WL (l.map (J0 enc))=some (l.map fun s=>(.inr s.1,enc s.2))
 | []=>rfl
 | s::ss=>by
  rw[List.map_cons]
  show((vV (.str s.1)).bind fun kk=>(WL (ss.map (J0 enc))).bind fun rs=>some ((kk,enc s.2)::rs))=_
  rw[Ic ss]
  rfl
theorem ab7:∀(ss acc:List (Str×β)),((acc++ss).map (·.1)).Nodup→Yk (alD enc acc) (ss.map fun s=>(.inr s.1,enc s.2))=alD enc (acc++ss)
 | [],acc,_=>by simp[Yk]
 | s::ss,acc,nd=>by
  have ih:=ab7 ss (acc++[s]) (by simpa using nd)
  have no:s.1∉acc.map (·.1):=fun z=>by
   rw[List.map_append,List.nodup_append] at nd
   exact nd.2.2 s.1 z s.1 (by simp) rfl
  show Yk (Vt (.inr s.1) (enc s.2) (alD enc acc)) (ss.map fun s=>(.inr s.1,enc s.2))=_
  rw[ad5 no,ih]
  simp
theorem V0{l:List (Str×β)}(nd:(l.map (·.1)).Nodup)(hl:l.length<16000000):QE [.list (l.map (J0 enc))]=some (.dict (alD enc l)):=by
 show((WL (l.map (J0 enc))).bind _)=_
 rw[Ic,Option.bind_some,if_pos (VC (by rw[List.length_map];exact hl))]
 have:=ab7 (enc:=enc) l [] (by simpa using nd)
 rw[show([]:List (D×D))=alD enc ([]:List (Str×β)) from rfl,this]
 rfl
theorem adT(l:List (Str×β)):ZV (.dict (alD enc l))=some ((l.map (·.1)).map .str):=by
 show(if isT (alD enc l) then none else some ((alD enc l).map (·.1)))=_
 rw[acj,if_neg (by simp)]
 simp[alD,Function.comp_def]
theorem adU(l:List (Str×β)):IQ (.dict (alD enc l))=some (l.map (J0 enc)):=by
 show(if isT (alD enc l) then none else some ((alD enc l).map fun p=>PyData.tuple [p.1,p.2]))=_
 rw[acj,if_neg (by simp)]
 simp[alD,Function.comp_def,J0]
end
section
variable {α β:Type} {fi fi1:IF} {hg h1g:GF} {tt t1:BF} {ff fk fv f:XF} {vs vs1:List Nat} {env:Env} {g g1 g2 d:D}
theorem QN(enc:α→D)(p:α→Bool)(q:α→D){xs:List α}(h1:fi env g=some (xs.map enc,g1))(H:∀x∈xs,∃env1,hg (enc x) (zJ env vs)=some env1∧tt env1 g1=some (p x,g1)∧(p x=true→ff env1 g1=some (q x,g1)))(hs:xs.length<16000000):xLc fi hg tt ff vs env g=some (.list ((xs.filter p).map q),g1) :=
 Yp h1 (Zz enc p q xs H) (by rw[List.length_map];exact Nat.lt_of_le_of_lt (List.length_filter_le _ _) hs)
theorem ja(enc:α→D)(q:α→D){xs:List α}(h1:fi env g=some (xs.map enc,g1))(H:∀x∈xs,∃env1,hg (enc x) (zJ env vs)=some env1∧ff env1 g1=some (q x,g1))(hs:xs.length<16000000):xLc fi hg vh ff vs env g=some (.list (xs.map q),g1) :=
 Yp h1 (ag0 enc q xs H) (by rw[List.length_map];exact hs)
theorem vK(p:Str→Bool){xs:List Str}(h1:fi env g=some (xs.map .str,g1))(H:∀x∈xs,∃env1,hg (.str x) (zJ env vs)=some env1∧tt env1 g1=some (p x,g1)∧(p x=true→ff env1 g1=some (.str x,g1)))(hs:xs.length<16000000):xLc fi hg tt ff vs env g=some (lS (xs.filter p),g1) :=
 QN .str p .str h1 H hs
theorem ad7(enc:α→D)(key:α→Str)(val:α→β)(encv:β→D){xs:List α}(h1:fi env g=some (xs.map enc,g1))(nd:(xs.map key).Nodup)(H:∀x∈xs,∃env1,hg (enc x) (zJ env vs)=some env1∧fk env1 g1=some (.str (key x),g1)∧fv env1 g1=some (encv (val x),g1))(hl:xs.length<16000000):abN fi hg vh fk fv vs env g=some (.dict (alD encv (xs.map fun x=>(key x,val x))),g1):=by
 unfold abN
 rw[h1,Option.bind_some,if_pos (VC (by rw[List.length_map];exact hl))]
 have:=af5 (h:=hg) (fk:=fk) (fv:=fv) (env:=zJ env vs) (g:=g1) ptK (.inr rfl) enc key (fun x=>encv (val x)) xs [] (by simpa using nd) H
 rw[show([]:List (D×D))=([]:List (Str×D)).map fun q=>(.str q.1,q.2) from rfl,this]
 simp[alD,Function.comp_def]
theorem WV{i:Nat}{enc:β→D}{l:List (Str×β)}{k:Str}{v:β}(h0:env[i]? = some (some (.dict (alD enc l))))(h1:fv env g=some (enc v,g1))(h2:fk env g1=some (.str k,g2))(hk:k∉l.map (·.1))(hl:l.length<16000000):QG i fk fv env g=some (.nx (env.set i (some (.dict (alD enc (l++[(k,v)]))))) g2):=by
 unfold QG
 rw[vo h0,Option.bind_some]
 show((fv env g).bind _)=_
 rw[h1,Option.bind_some]
 show((fk env g1).bind _)=_
 rw[h2,Option.bind_some]
 show(if sz (alD enc l).length then some (SR.nx (env.set i (some (.dict (Vt (.inr k) (enc v) (alD enc l))))) g2) else none)=_
 rw[if_pos (VC (by rw[ad6];exact hl)),ad5 hk]
theorem ab8{neg:Bool}{i:Nat}{enc:β→D}{l:List (Str×β)}{k:Str}(h1:fk env g=some (.str k,g1))(h0:env[i]? = some (some (.dict (alD enc l)))):Xm neg i fk env g=some (.bool (if neg then !decide (k∈l.map (·.1)) else decide (k∈l.map (·.1))),g1):=by
 unfold Xm
 rw[h1,Option.bind_some,vo h0,Option.bind_some]
 show some (PyData.bool (if neg then !(yY (.inr k) (alD enc l)).isSome else(yY (.inr k) (alD enc l)).isSome),g1)=_
 rw[jQ]
 by_cases h:k∈l.map (·.1)
 ·obtain⟨v,hv⟩:=Qt h
  rw[hv];simp[h]
 ·rw[Yv h];simp[h]
theorem UJ{i:Nat}{l:List (D×D)}{s:SF}{r:Option SR}(h0:env[i]? = some (some (.dict l)))(h1:s env g=r):Xi i s env g=r:=by
 unfold Xi
 rw[vo h0,Option.bind_some]
 exact h1
theorem afj{fd fy fx:XF}{g3:D}{enc:β→D}{l:List (Str×β)}{k:Str}{z:D}(h1:fd env g=some (.dict (alD enc l),g1))(h2:fy env g1=some (.str k,g2))(h3:fx env g2=some (z,g3)):acQ fd fy fx env g=some (((yz k l).map enc).getD z,g3):=by
 unfold acQ
 rw[h1,Option.bind_some]
 show((fy env g1).bind _)=_
 rw[h2,Option.bind_some,h3,Option.bind_some]
 show((JU (.dict (alD enc l)) (.str k)).bind _)=_
 rw[XY];rfl
theorem UK{F:List D→Option D}{fl:LF}{ds:List D}(h1:fl env g=some (ds,g1))(h2:F ds=some d):aaG (zy F fl) env g=some (.nx env g1):=by
 unfold aaG
 rw[zB h1 h2];rfl
theorem ai6(x:Str)(h:f env g=some (.str x,g1)):JQ "str" f env g=some (.bool true,g1):=by
 unfold JQ
 rw[h];rfl
theorem afk{enc:β→D}{l:List (Str×β)}(h1:f env g=some (.dict (alD enc l),g1)):GJ f env g=some ((l.map (·.1)).map .str,g1):=by
 unfold GJ
 rw[h1,Option.bind_some,adT];rfl
theorem adV{enc:β→D}{l:List (Str×β)}(h1:f env g=some (.dict (alD enc l),g1)):Ue f env g=some (l.map (J0 enc),g1):=by
 unfold Ue
 rw[h1,Option.bind_some,adU];rfl
theorem Id{γ:Type}(l:List γ):(l.filter fun _=>true)=l:=List.filter_eq_self.mpr (by simp)
theorem ab9{γ:Type}(enc:α→D)(inr:α→List γ)(enc1:γ→D)(p:α→γ→Bool)(q:α→γ→D):∀(xs:List α),(∀x∈xs,∃env1,hg (enc x) env=some env1∧fi1 env1 g=some ((inr x).map enc1,g)∧∀y∈inr x,∃env2,h1g (enc1 y) (zJ env1 vs1)=some env2∧t1 env2 g=some (p x y,g)∧(p x y=true→f env2 g=some (q x y,g))) →
  abR hg vh fi1 h1g t1 f vs1 (xs.map enc) env g=some (xs.flatMap fun x=>((inr x).filter (p x)).map (q x),g)
 | [],_=>rfl
 | x::xs,H=>by
  obtain⟨env1,h1,h2,h3⟩:=H x (by simp)
  have ih:=ab9 enc inr enc1 p q xs fun y hy=>H y (List.mem_cons_of_mem _ hy)
  rw[List.map_cons]
  unfold abR
  rw[h1,Option.bind_some]
  show((some (true,g)).bind _)=_
  rw[Option.bind_some]
  simp only[if_true]
  rw[h2,Option.bind_some,Zz enc1 (p x) (q x) (inr x) h3,Option.bind_some,ih]
  rfl
theorem aba{γ:Type}(enc:α→D)(inr:α→List γ)(enc1:γ→D)(p:α→γ→Bool)(q:α→γ→D){xs:List α}(h0:fi env g=some (xs.map enc,g1))(H:∀x∈xs,∃env1,hg (enc x) (zJ env vs)=some env1∧fi1 env1 g1=some ((inr x).map enc1,g1)∧∀y∈inr x,∃env2,h1g (enc1 y) (zJ env1 vs1)=some env2∧t1 env2 g1=some (p x y,g1)∧(p x y=true→f env2 g1=some (q x y,g1)))
  (hs:(xs.flatMap fun x=>((inr x).filter (p x)).map (q x)).length<16000000):adq fi hg vh fi1 h1g t1 f vs vs1 env g=some (.list (xs.flatMap fun x=>((inr x).filter (p x)).map (q x)),g1):=by
 unfold adq
 rw[h0,Option.bind_some,ab9 enc inr enc1 p q xs H,Option.bind_some]
 exact if_pos (VC hs)
end
structure Sht where
 ins:List (Str×List Str)
 sms:List (Str×List Str×List Str)
 outs:List Str
def smD(s:Str×List Str×List Str):D:=.tuple [.str s.1,tS s.2.1,tS s.2.2]
def shD(S:Sht):D:=.tuple [.tuple (S.ins.map yw),.tuple (S.sms.map smD),tS S.outs]
def Sht.rows(S:Sht):List (Str×List Str):=S.ins++S.sms.map fun s=>(s.1,s.2.1)
def Sht.reads(S:Sht):List (Str×List Str):=S.sms.map fun s=>(s.1,s.2.2)
def Sht.tbs(S:Sht):List Str:=S.rows.map (·.1)
def Sht.nms(S:Sht):List Str:=S.sms.map (·.1)
def Sht.own(S:Sht)(n:Str):List Str:=(yz n S.rows).getD []
def Sht.rd(S:Sht)(n:Str):List Str:=(yz n S.reads).getD []
def Sht.rdrs(S:Sht)(n:Str):List Str:=srt ((S.sms.filter fun s=>decide (n∈s.2.2)).map (·.1))
def Sht.axs(S:Sht)(n:Str):List Str:=(S.rd n).flatMap S.own
def Sht.smd(S:Sht)(n:Str):List Str:=(cnl (S.axs n)).filter fun x=>!decide (x∈S.own n)
def Sht.lps(S:Sht)(n:Str):List Str:=cnl (S.own n++(S.smd n++[]))
def adW:List Str:=["t", "u", "v", "x", "y", "p", "q", "r", "s", "end", "add", "abcdef", "a", "b"]
def ax7:List Str:=["i", "j", "k", "ab", "zzzzzz", "b", "aaaaaa"]
structure ShOk(S:Sht):Prop where
 nd:S.tbs.Nodup
 nm:∀x∈S.tbs,x∈adW
 ax:∀r∈S.rows,∀x∈r.2,x∈ax7
 cn:∀r∈S.rows,CnS r.2
 fewi:S.ins.length≤6
 fews:S.sms.length≤6
 rcn:∀s∈S.sms,CnS s.2.2
 ord:∀pre s post,S.sms=pre++s::post→∀r∈s.2.2,r∈S.ins.map (·.1)∨r∈pre.map (·.1)
 sub:∀s∈S.sms,∀x∈s.2.1,∃r∈s.2.2,x∈S.own r
 rne:∀s∈S.sms,s.2.2≠[]
 ocn:CnS S.outs
 out:∀n∈S.outs,n∈S.nms
 unread:∀n∈S.nms,(∀s∈S.sms,n∉s.2.2)→n∈S.outs
theorem ai7:∀x∈adW,okS x=true:=by decide +kernel
theorem ok7:∀x∈ax7,okS x=true:=by decide +kernel
theorem Sht.tbs_eq(S:Sht):S.tbs=S.ins.map (·.1)++S.nms:=by simp[Sht.tbs,Sht.rows,Sht.nms]
theorem Sht.reads_k(S:Sht):S.reads.map (·.1)=S.nms:=by simp[Sht.reads,Sht.nms]
section
variable {S:Sht} (O:ShOk S)
include O
theorem ShOk.nds:S.nms.Nodup:=(List.nodup_append.mp (S.tbs_eq▸O.nd)).2.1
theorem ShOk.mem_tbs{n:Str}(h:n∈S.nms):n∈S.tbs:=by rw[S.tbs_eq];exact List.mem_append_right _ h
theorem ShOk.okn{n:Str}(h:n∈S.tbs):okS n=true:=ai7 n (O.nm n h)
theorem ShOk.own_at{n:Str}(h:n∈S.tbs):yz n S.rows=some (S.own n):=by
 obtain⟨v,hv⟩:=Qt h
 unfold Sht.own
 rw[hv];rfl
theorem ShOk.own_mem{n:Str}(h:n∈S.tbs):(n,S.own n)∈S.rows:=XX (O.own_at h)
theorem ShOk.rd_at{n:Str}(h:n∈S.nms):yz n S.reads=some (S.rd n):=by
 obtain⟨v,hv⟩:=Qt (show n∈S.reads.map (·.1) by rw[S.reads_k];exact h)
 unfold Sht.rd
 rw[hv];rfl
theorem ShOk.sum_of{n:Str}(h:n∈S.nms):∃s∈S.sms,s.1=n∧s.2.2=S.rd n∧s.2.1=S.own n:=by
 obtain⟨s,hs,e⟩:=List.mem_map.mp (XX (O.rd_at h))
 have e1:s.1=n:=congrArg Prod.fst e
 have e2:s.2.2=S.rd n:=congrArg Prod.snd e
 refine⟨s,hs,e1,e2,?_⟩
 have:=XW (v:=s.2.1) O.nd (show(s.1,s.2.1)∈S.rows from List.mem_append_right _ (List.mem_map.mpr ⟨s,hs,rfl⟩))
 unfold Sht.own
 rw[←e1,this]
 rfl
theorem ShOk.rd_of{s:Str×List Str×List Str}(h:s∈S.sms):S.rd s.1=s.2.2:=by
 have:=XW (v:=s.2.2) (by rw[S.reads_k];exact O.nds) (show(s.1,s.2.2)∈S.reads from List.mem_map.mpr ⟨s,h,rfl⟩)
 unfold Sht.rd
 rw[this]
 rfl
theorem ShOk.nm_of{s:Str×List Str×List Str}(h:s∈S.sms):s.1∈S.nms:=List.mem_map_of_mem h
theorem ShOk.rds{n r:Str}(h:n∈S.nms)(hr:r∈S.rd n):r∈S.tbs:=by
 obtain⟨s,hs,rfl,e,_⟩:=O.sum_of h
 rw[←e] at hr
 obtain⟨pre,post,ep⟩:=List.append_of_mem hs
 rw[S.tbs_eq]
 rcases O.ord pre s post ep r hr with z | z
 ·exact List.mem_append_left _ z
 ·refine List.mem_append_right _ ?_
  unfold Sht.nms
  rw[ep,List.map_append]
  exact List.mem_append_left _ z
theorem ShOk.own_cn{n:Str}(h:n∈S.tbs):CnS (S.own n):=O.cn _ (O.own_mem h)
theorem ShOk.own_ax{n:Str}(h:n∈S.tbs):∀x∈S.own n,x∈ax7:=O.ax _ (O.own_mem h)
theorem ShOk.own_ok{n:Str}(h:n∈S.tbs):∀x∈S.own n,okS x=true:=fun x hx=>ok7 x (O.own_ax h x hx)
theorem ShOk.own_len{n:Str}(h:n∈S.tbs):(S.own n).length≤7:=(O.own_cn h).nd.length_le_of_subset (O.own_ax h)
theorem ShOk.rd_cn{n:Str}(h:n∈S.nms):CnS (S.rd n):=by
 obtain⟨s,hs,rfl,e,_⟩:=O.sum_of h
 rw[←e];exact O.rcn s hs
theorem ShOk.tbs_len:S.tbs.length≤12:=by
 have:=O.fewi
 have:=O.fews
 simp[S.tbs_eq,Sht.nms]
 omega
theorem ShOk.rd_len{n:Str}(h:n∈S.nms):(S.rd n).length≤12:=Nat.le_trans ((O.rd_cn h).nd.length_le_of_subset fun r hr=>O.rds h hr) O.tbs_len
theorem ShOk.axs_len{n:Str}(h:n∈S.nms):(S.axs n).length≤84:=by
 have h1:∀l:List Str,(∀r∈l,r∈S.tbs)→(l.flatMap S.own).length≤7*l.length:=by
  intro l
  induction l with
  | nil=>intro _;simp
  | cons r l ih =>
   intro hl
   have:=ih fun r hr=>hl r (List.mem_cons_of_mem _ hr)
   have:=O.own_len (hl r (by simp))
   rw[List.flatMap_cons,List.length_append,List.length_cons]
   omega
 have:=h1 (S.rd n) fun r hr=>O.rds h hr
 have:=O.rd_len h
 unfold Sht.axs
 omega
theorem ShOk.axs_ok{n:Str}(h:n∈S.nms):∀x∈S.axs n,x∈ax7:=fun x hx=>by
 obtain⟨r,hr,hx⟩:=List.mem_flatMap.mp hx
 exact O.own_ax (O.rds h hr) x hx
theorem ShOk.smd_cn(n:Str):CnS (S.smd n):=(J9 _).filter _
omit O in
theorem Sht.mem_smd{n x:Str}:x∈S.smd n↔x∈S.axs n∧x∉S.own n:=by
 unfold Sht.smd
 rw[List.mem_filter,wZ]
 simp
theorem ShOk.smd_ok{n:Str}(h:n∈S.nms):∀x∈S.smd n,okS x=true:=fun x hx=>ok7 x (O.axs_ok h x (Sht.mem_smd.mp hx).1)
omit O in
theorem Sht.mem_rdrs{n x:Str}:x∈S.rdrs n↔∃s∈S.sms,s.1=x∧n∈s.2.2:=by
 unfold Sht.rdrs
 rw[wt,List.mem_map]
 constructor
 ·rintro⟨s,hs,rfl⟩
  rw[List.mem_filter] at hs
  exact⟨s,hs.1,rfl,of_decide_eq_true hs.2⟩
 ·rintro⟨s,hs,rfl,h⟩
  exact⟨s,List.mem_filter.mpr ⟨hs,decide_eq_true h⟩,rfl⟩
theorem ShOk.mem_rdrs{n x:Str}:x∈S.rdrs n↔x∈S.nms∧n∈S.rd x:=by
 rw[Sht.mem_rdrs]
 constructor
 ·rintro⟨s,hs,rfl,h⟩
  exact⟨List.mem_map_of_mem hs,by rw[O.rd_of hs];exact h⟩
 ·rintro⟨h1,h2⟩
  obtain⟨s,hs,e1,e2,_⟩:=O.sum_of h1
  exact⟨s,hs,e1,by rw[e2];exact h2⟩
theorem ShOk.rdrs_nm{n x:Str}(h:x∈S.rdrs n):x∈S.nms:=(O.mem_rdrs.mp h).1
theorem ShOk.rdrs_len(n:Str):(S.rdrs n).length≤6:=by
 unfold Sht.rdrs
 rw[ZF,List.length_map]
 exact Nat.le_trans (List.length_filter_le _ _) O.fews
theorem ShOk.gd_row{r:Str×List Str}(h:r∈S.rows):Gd 2 (yw r):=.tuple fun d hd=>by
 simp only[List.mem_cons,List.not_mem_nil,or_false] at hd
 rcases hd with rfl | rfl
 ·exact .str (O.okn (List.mem_map_of_mem h))
 ·exact .tS fun x hx=>ok7 x (O.ax _ h x hx)
end
def ad8(l:List (Str×Str)):List (Str×Str):=l.mergeSort fun a b=>Vf (abD a) (abD b)
theorem QO(l:List (Str×Str)):(ad8 l).Perm l:=List.mergeSort_perm _ _
theorem ack{q:Str×Str}(h1:okS q.1=true)(h2:okS q.2=true):Gd 2 (abD q):=.tuple fun d hd=>by
 simp only[List.mem_cons,List.not_mem_nil,or_false] at hd
 rcases hd with rfl | rfl
 ·exact .str h1
 ·exact .str h2
theorem abb{l:List (Str×Str)}(h0:l.length<16000000)(h:∀q∈l,okS q.1=true∧okS q.2=true):yu [.list (l.map abD)]=some ((ad8 l).map abD):=by
 have h3:∀x∈l,Gd 2 (abD x):=fun x hx=>ack (h x hx).1 (h x hx).2
 have e:Ja (l.map abD)=true:=XE l abD (fun x _ y _=>by simp[abD,PySem.W.alike,PySem.W.alikeAll]) (.inl fun x _=>rfl) fun x hx=>Nat.le_trans (h3 x hx).c (by omega)
 have nn:=(ab0 (n:=2) (ds:=l.map abD) fun d hd=>by
  obtain⟨x,hx,rfl⟩:=List.mem_map.mp hd
  exact h3 x hx).1
 simp only[yu,y9,Option.bind_some,e,nn,List.length_map,VC h0,Bool.and_self,if_true]
 unfold wq ad8
 rw[List.map_mergeSort (r:=fun a b=>Vf (abD a) (abD b)) (s:=Vf) (f:=abD) fun a _ b _=>rfl]
theorem acl{l:List Str}(h:l.length≤1000):ac1 (lS l)=some (lS l):=by
 unfold ac1
 show(some (l.map PyData.str)).bind _=_
 rw[Option.bind_some,WS,Option.bind_some,List.length_map,if_pos (decide_eq_true h),List.map_map]
 rfl
theorem adX{f:XF}{env:Env}{g g1:D}{l:List Str}(h1:f env g=some (lS l,g1))(h:l.length≤1000):IP f env g=some (lS l,g1):=by
 unfold IP
 rw[h1,Option.bind_some,acl h];rfl
def Sht.prs0(S:Sht):List (Str×Str):=S.reads.flatMap fun q=>(q.2.filter fun r=>decide (r∈S.nms)).map fun r=>(r,q.1)
def Sht.prs(S:Sht):List (Str×Str):=ad8 S.prs0
section
variable {S:Sht} (O:ShOk S)
include O
theorem Wp:yU [shD S]=some (.dict (alD tS S.rows)):=by
 refine yp (g:=.none) ?_
 show XL [some (shD S),none,none,none,none] .none=_
 have ndi:(S.ins.map (·.1)).Nodup:=(List.nodup_append.mp (S.tbs_eq▸O.nd)).1
 have a1:=ad7 (fi:=zG (xOp ixD (xV 0) (xC (.int 0)))) (hg:=jS 2 (yf (zh 2) (yf (zh 3) j9))) (fk:=xV 2) (fv:=xV 3) (vs:=[2,3]) (env:=[some (shD S),none,none,none,none]) (g:=.none) (g1:=.none) yw (fun s=>s.1) (fun s=>s.2) tS (xs:=S.ins) (zI (d:=.tuple (S.ins.map yw)) rfl rfl) ndi (fun x hx=>⟨_,rfl,rfl,rfl⟩) (by have:=O.fewi;omega)
 rw[show(S.ins.map fun x=>(x.1,x.2))=S.ins by simp] at a1
 have loop:=yM (h:=jS 3 (yf (zh 2) (yf (zh 3) (yf (zh 4) j9)))) (wp:=[3,2,4]) (body:=zg (QG 1 (xV 2) (xV 3)) zv) smD
  (fun xs env g=>g=.none∧∃done,done++xs=S.sms∧env=[some (shD S),some (.dict (alD tS (S.ins++done.map fun s=>(s.1,s.2.1)))),none,none,none])
  (fun s xs env g ⟨hg,done,hd,he⟩=>by
   subst hg he
   have fr:s.1∉(S.ins++done.map fun s=>(s.1,s.2.1)).map (·.1):=fun z=>by
    have er:S.rows=(S.ins++done.map fun s=>(s.1,s.2.1))++((s.1,s.2.1)::xs.map fun s=>(s.1,s.2.1)):=by simp[Sht.rows,←hd]
    have nd:=O.nd
    unfold Sht.tbs at nd
    rw[er,List.map_append,List.nodup_append] at nd
    exact nd.2.2 s.1 z s.1 (by simp) rfl
   have hl:(S.ins++done.map fun s=>(s.1,s.2.1)).length<16000000:=by
    have:=congrArg List.length hd
    have:=O.fewi
    have:=O.fews
    simp only[List.length_append,List.length_map,List.length_cons] at *
    omega
   refine⟨_,_,_,rfl,(zk (WV (enc:=tS) (k:=s.1) (v:=s.2.1) rfl rfl rfl fr hl)).trans rfl,rfl,done++[s],by simpa using hd,?_⟩
   simp[zJ])
  S.sms [some (shD S),some (.dict (alD tS S.ins)),none,none,none] .none ⟨rfl,[],rfl,by simp⟩
 obtain⟨e,g',l1,rfl,done,hd,rfl⟩:=loop
 rw[List.append_nil] at hd
 subst hd
 exact(zk (zU a1)).trans ((zk (yT (zI (d:=.tuple (S.sms.map smD)) rfl rfl) l1)).trans (zL (UJ rfl rfl)))
theorem Jg:yt [shD S]=some (.dict (alD tS S.reads)):=by
 refine yp (g:=.none) ?_
 show VD [some (shD S),none,none,none] .none=_
 exact zL (zZ (ad7 smD (fun s=>s.1) (fun s=>s.2.2) tS (xs:=S.sms) (zI (d:=.tuple (S.sms.map smD)) rfl rfl) O.nds (fun x hx=>⟨_,rfl,rfl,rfl⟩) (by have:=O.fews;omega)))
theorem abc{n:Str}(h:n∈S.nms):JL [shD S,.str n]=some .none:=by
 have c:bOr (v8 (bT (JQ "str" (xV 1)))) (bT (xOp (Zk true) (xV 1) (zy yt (za (xV 0) zb)))) [some (shD S),some (.str n)] .none=some (false,.none):=by
  refine wC (c:=false) (c2:=false) (wN (zP (ai6 n rfl))) fun _=>zP (zu rfl (zB rfl (Jg O)) ?_)
  rw[ZG,S.reads_k]
  simp[h]
 show yZ 2 WT [shD S,.str n]=_
 unfold yZ
 rw[show WT (jU 2 [shD S,.str n]) .none=some (.nx [some (shD S),some (.str n)] .none) from(zk ((wB c).trans rfl)).trans rfl]
theorem Y6{n:Str}(h:n∈S.tbs):jw [shD S,.str n]=some (tS (S.own n)):=by
 have t:=Wp O
 have c:bOr (v8 (bT (JQ "str" (xV 1)))) (bT (xOp (Zk true) (xV 1) (zy yU (za (xV 0) zb)))) [some (shD S),some (.str n)] .none=some (false,.none):=by
  refine wC (c:=false) (c2:=false) (wN (zP (ai6 n rfl))) fun _=>zP (zu rfl (zB rfl t) ?_)
  rw[ZG]
  have:n∈S.rows.map (·.1):=h
  simp[this]
 refine yp (g:=.none) ?_
 exact(zk ((wB c).trans rfl)).trans (zL (zZ (zu (zB rfl t) rfl (wJ (O.own_at h)))))
theorem VG{n:Str}(h:n∈S.nms):y7 [shD S,.str n]=some (tS (S.smd n)):=by
 have t:=Wp O
 have hl:=O.axs_len h
 have hn:=O.mem_tbs h
 refine yp (g:=.none) ?_
 show Wl [some (shD S),some (.str n),none,none,none,none] .none=_
 refine(zk (UK rfl (abc O h))).trans ((zk (zU (zB rfl t))).trans ?_)
 have c2:=aba (fi:=zG (xOp vw (zy yt (za (xV 0) zb)) (xV 1))) (hg:=zh 4) (fi1:=zG (xOp vw (xV 2) (xV 4))) (h1g:=zh 5) (t1:=vh) (f:=xV 5) (vs:=[4,5]) (vs1:=[5]) (env:=[some (shD S),some (.str n),some (.dict (alD tS S.rows)),none,none,none]) (g:=.none) (g1:=.none)
  PyData.str S.own PyData.str (fun _ _=>true) (fun _ y=>.str y) (xs:=S.rd n) (zI (zu (zB rfl (Jg O)) rfl (wJ (O.rd_at h))) rfl) (fun r hr=>⟨_,rfl,zI (zu rfl rfl (wJ (O.own_at (O.rds h hr)))) rfl,fun y hy=>⟨_,rfl,rfl,fun _=>rfl⟩⟩)
  (by
   simp only[Id]
   rw[←List.map_flatMap,List.length_map]
   show(S.axs n).length<_
   omega)
 simp only[Id] at c2
 rw[←List.map_flatMap] at c2
 refine(zk (zU (adX (l:=S.axs n) c2 (by omega)))).trans (zL (zZ (yg (zd (vK (fun x=>!decide (x∈S.own n)) (xs:=cnl (S.axs n)) (zI (w9 rfl (.inl rfl) (by omega)) rfl) (fun x hx=>⟨_,rfl,zP (zu rfl (zu rfl rfl (wJ (O.own_at hn))) ?_),fun _=>rfl⟩) (by have:=ZE (S.axs n);omega)) rfl) ?_)))
 ·rw[(ym (neg:=true) (ok7 x (O.axs_ok h x (wZ.mp hx))) (O.own_ok hn)).2]
  rfl
 ·rfl
theorem Qa{n:Str}(h:n∈S.tbs):yJ [shD S,.str n]=some (lS (S.rdrs n)):=by
 have hl:=O.fews
 refine yp (g:=.none) ?_
 show XN [some (shD S),some (.str n),none,none,none] .none=_
 refine(zk (UK rfl (Y6 O h))).trans (zL (zZ (jo (es:=(S.rdrs n).map .str) (zd (QN smD (fun s=>decide (n∈s.2.2)) (fun s=>.str s.1) (xs:=S.sms) (zI (d:=.tuple (S.sms.map smD)) rfl rfl) (fun s hs=>⟨_,rfl,zP (zu rfl rfl ?_),fun _=>rfl⟩) (by omega)) rfl) ?_)))
 ·rw[(ym (neg:=false) (O.okn h) fun y hy=>O.okn (O.rds (O.nm_of hs) (by rw[O.rd_of hs];exact hy))).2]
  rfl
 ·rw[show((S.sms.filter fun s=>decide (n∈s.2.2)).map fun s=>PyData.str s.1)=((S.sms.filter fun s=>decide (n∈s.2.2)).map (·.1)).map .str by rw[List.map_map];rfl]
  exact(vi (by rw[List.length_map];exact Nat.lt_of_le_of_lt (List.length_filter_le _ _) (by omega))).1
theorem ShOk.mem_prs{q:Str×Str}:q∈S.prs↔q.2∈S.nms∧q.1∈S.nms∧q.1∈S.rd q.2:=by
 unfold Sht.prs
 rw[(QO _).mem_iff]
 unfold Sht.prs0
 rw[List.mem_flatMap]
 constructor
 ·rintro⟨r,hr,hq⟩
  obtain⟨x,hx,rfl⟩:=List.mem_map.mp hq
  obtain⟨s,hs,rfl⟩:=List.mem_map.mp hr
  rw[List.mem_filter] at hx
  exact⟨O.nm_of hs,of_decide_eq_true hx.2,by rw[O.rd_of hs];exact hx.1⟩
 ·rintro⟨h1,h2,h3⟩
  exact⟨(q.2,S.rd q.2),XX (O.rd_at h1),List.mem_map.mpr ⟨q.1,List.mem_filter.mpr ⟨h3,decide_eq_true h2⟩,rfl⟩⟩
theorem ShOk.prs0_len:S.prs0.length≤72:=by
 have h1:∀l:List (Str×List Str),(∀r∈l,r.2.length≤12)→(l.flatMap fun q=>(q.2.filter fun r=>decide (r∈S.nms)).map fun r=>(r,q.1)).length≤12*l.length:=by
  intro l
  induction l with
  | nil=>intro _;simp
  | cons r l ih =>
   intro hl
   have a:=ih fun r hr=>hl r (List.mem_cons_of_mem _ hr)
   have b:=hl r (by simp)
   have c:=List.length_filter_le (fun r=>decide (r∈S.nms)) r.2
   rw[List.flatMap_cons,List.length_append,List.length_cons,List.length_map]
   omega
 have:=h1 S.reads fun r hr=>by
  obtain⟨s,hs,rfl⟩:=List.mem_map.mp hr
  have:=O.rd_len (O.nm_of hs)
  rw[O.rd_of hs] at this
  exact this
 have h2:=O.fews
 have h3:S.reads.length=S.sms.length:=by simp[Sht.reads]
 unfold Sht.prs0
 omega
theorem ShOk.prs_len:S.prs.length≤72:=by
 have:=O.prs0_len
 unfold Sht.prs
 rw[(QO _).length_eq];exact this
theorem Yw:wg [shD S]=some (.list (S.prs.map abD)):=by
 have hl:=O.prs0_len
 have b:=Jg O
 refine yp (g:=.none) ?_
 show Q5 [some (shD S),none,none,none,none] .none=_
 have ef:(S.reads.flatMap fun x=>(x.2.filter fun r=>decide (r∈S.nms)).map fun y=>abD (y,x.1))=S.prs0.map abD:=by
  unfold Sht.prs0
  rw[List.map_flatMap]
  congr 1
  funext q
  rw[List.map_map];rfl
 have c2:=aba (fi:=Ue (xV 1)) (hg:=jS 2 (yf (zh 3) (yf (zh 4) j9))) (fi1:=zG (xV 4)) (h1g:=zh 2) (t1:=bT (xOp (Zk false) (xV 2) (xV 1))) (f:=zV (za (xV 2) (za (xV 3) zb))) (vs:=[3,4,2]) (vs1:=[2]) (env:=[some (shD S),some (.dict (alD tS S.reads)),none,none,none]) (g:=.none) (g1:=.none)
  (J0 tS) (fun q=>q.2) PyData.str (fun _ r=>decide (r∈S.nms)) (fun q r=>abD (r,q.1)) (xs:=S.reads) (adV rfl) (fun q hq=>⟨_,rfl,rfl,fun r hr=>⟨_,rfl,zP (zu rfl rfl (by rw[ZG,S.reads_k];rfl)),fun _=>zX rfl (by simp)⟩⟩)
  (by rw[ef,List.length_map];omega)
 rw[ef] at c2
 refine(zk (zU (zB rfl b))).trans (zL (zZ (jo (es:=S.prs.map abD) (zd c2 rfl) (abb (by omega) fun q hq=>?_))))
 have:=O.mem_prs.mp (show q∈S.prs from(QO _).mem_iff.mpr hq)
 exact⟨O.okn (O.mem_tbs this.2.1),O.okn (O.mem_tbs this.1)⟩
theorem abd{n:Str}(h:n∈S.nms):j5 [shD S,.dict [],.str n]=some (tS (S.lps n)):=by
 have h1:=O.own_len (O.mem_tbs h)
 have h2:(S.smd n).length≤84:=Nat.le_trans (List.length_filter_le _ _) (Nat.le_trans (ZE _) (O.axs_len h))
 refine yp (g:=.none) ?_
 show UE [some (shD S),some (.dict []),some (.str n),none] .none=_
 refine(zk (zU (zB rfl (VG O h)))).trans (zL (zZ (yg (d:=tS (S.lps n)) (zd (w9 (l:=S.own n++(S.smd n++[])) (z8 (jg (zB rfl (Y6 O (O.mem_tbs h))) rfl (jg rfl rfl (jg (xs:=[]) (afj (β:=List Str) (enc:=tS) (l:=[]) (k:=n) (z:=.tuple []) rfl rfl (zX rfl (by simp))) rfl rfl))) ?_) (.inl ?_) ?_) rfl) rfl)))
 ·simp only[List.length_append,List.length_map,List.length_nil];omega
 ·simp[lS]
 ·simp only[List.length_append,List.length_nil];omega
end
theorem afl{enc:List Str→D}(he:∀l,y9 (enc l)=some (l.map .str))(ls:List (List Str))(hn:ls.length<16000000)(h:ls.flatten.length<16000000):yl [.list (ls.map enc)]=some (lS ls.flatten):=by
 have loop:=yM (h:=zh 2) (wp:=[2]) (body:=zg (Jn 1 (xV 2)) zv) enc
  (fun xs env g=>g=.none∧∃done,done++xs=ls∧env=[some (.list (ls.map enc)),some (lS done.flatten),none])
  (fun l xs env g ⟨hg,done,hd,he'⟩=>by
   subst hg he'
   have hl:done.flatten.length+l.length≤ls.flatten.length:=by
    rw[←hd]
    simp
   refine⟨_,_,_,rfl,(zk (YR rfl rfl (he l) (by rw[List.length_map,List.length_map];omega))).trans rfl,rfl,done++[l],by simpa using hd,?_⟩
   simp[zJ,lS])
  ls [some (.list (ls.map enc)),some (.list []),none] .none ⟨rfl,[],rfl,rfl⟩
 obtain⟨e,g',l1,rfl,done,hd,rfl⟩:=loop
 rw[List.append_nil] at hd
 subst hd
 refine yp (g:=.none) ?_
 exact(zk (zU (z8 rfl (by simp)))).trans ((zk (yT (zI rfl rfl) l1)).trans (zL (zZ rfl)))
theorem ZH(ls:List (List Str))(hn:ls.length<16000000)(h:ls.flatten.length<16000000):yl [.list (ls.map tS)]=some (lS ls.flatten):=afl (fun _=>rfl) ls hn h
def Q8(r:(Str×List Str)×Option (List Str)):D:=match r.2 with
 | none=>yw r.1
 | some rd=>smD (r.1.1,r.1.2,rd)
def Sht.all(S:Sht):List ((Str×List Str)×Option (List Str)):=(S.ins.map fun r=>(r,none))++S.sms.map fun s=>((s.1,s.2.1),some s.2.2)
theorem Sht.all_rows(S:Sht):S.all.map (·.1)=S.rows:=by simp[Sht.all,Sht.rows,Function.comp_def]
theorem Sht.all_D(S:Sht):S.all.map Q8=S.ins.map yw++S.sms.map smD:=by
 simp only[Sht.all,List.map_append,List.map_map]
 rfl
theorem ad9(r:(Str×List Str)×Option (List Str)):ixD (Q8 r) (.int 0)=some (.str r.1.1):=by
 obtain⟨r,o⟩:=r
 cases o <;> rfl
theorem ada(r:(Str×List Str)×Option (List Str)):ixD (Q8 r) (.int 1)=some (tS r.1.2):=by
 obtain⟨r,o⟩:=r
 cases o <;> rfl
theorem ai8{a b:List D}(h:a.length+b.length<16000000):va (.tuple a) (.tuple b)=some (.tuple (a++b)):=by
 show(if sz (a.length+b.length) then _ else none)=_
 exact if_pos (decide_eq_true h)
theorem abe{a b:List D}(h:a.length+b.length<16000000):va (.list a) (.list b)=some (.list (a++b)):=by
 show(if sz (a.length+b.length) then _ else none)=_
 exact if_pos (decide_eq_true h)
def Sht.axes(S:Sht):List Str:=cnl (S.ins.map (·.2)).flatten
section
variable {S:Sht} (O:ShOk S)
include O
theorem ShOk.all_len:S.all.length≤12:=by
 have:=O.fewi
 have:=O.fews
 simp[Sht.all]
 omega
theorem adb:jx [shD S]=some (.dict (alD tS S.rows)):=by
 have h1:=O.fewi
 have h2:=O.fews
 have h3:=O.all_len
 refine yp (g:=.none) ?_
 show UH [some (shD S),none] .none=_
 refine zL (zZ (yg (zd (ja Q8 (fun r=>J0 tS r.1) (xs:=S.all) (zI (d:=.tuple (S.all.map Q8)) (zu (a:=.tuple (S.ins.map yw)) (b:=.tuple (S.sms.map smD)) rfl rfl (by rw[ai8 (by rw[List.length_map,List.length_map];omega),S.all_D])) rfl) (fun r hr=>⟨_,rfl,zX (zd (zu rfl rfl (ad9 r)) (zd (zu rfl rfl (ada r)) rfl)) (by simp)⟩) (by omega)) rfl) ?_))
 have:=V0 (enc:=tS) (l:=S.rows) O.nd (by rw[←S.all_rows,List.length_map];omega)
 rw[←S.all_rows] at this
 rw[List.map_map] at this
 rw[S.all_rows] at this
 exact this
theorem Jv:ye [shD S]=some (lS S.nms):=by
 refine yp (g:=.none) ?_
 show XS [some (shD S),none] .none=_
 refine zL (zZ ?_)
 have:=ja (fi:=zG (xOp ixD (xV 0) (xC (.int 1)))) (hg:=zh 1) (ff:=xOp ixD (xV 1) (xC (.int 0))) (vs:=[1]) (env:=[some (shD S),none]) (g:=.none) (g1:=.none) smD (fun s=>PyData.str s.1) (xs:=S.sms) (zI (d:=.tuple (S.sms.map smD)) rfl rfl) (fun s hs=>⟨_,rfl,rfl⟩) (by have:=O.fews;omega)
 rw[this]
 simp[lS,Sht.nms]
theorem Ie:wd [shD S]=some (.dict (alD tS S.reads)):=by
 have h2:=O.fews
 refine yp (g:=.none) ?_
 show XT [some (shD S),none] .none=_
 refine zL (zZ (yg (zd (ja smD (fun s=>J0 tS (s.1,s.2.2)) (xs:=S.sms) (zI (d:=.tuple (S.sms.map smD)) rfl rfl) (fun s hs=>⟨_,rfl,zX (zd rfl (zd rfl rfl)) (by simp)⟩) (by omega)) rfl) ?_))
 have:=V0 (enc:=tS) (l:=S.reads) (by rw[S.reads_k];exact O.nds) (by simp[Sht.reads];omega)
 unfold Sht.reads at this
 rw[List.map_map] at this
 exact this
theorem I8:yV [shD S]=some (tS S.axes):=by
 have h1:=O.fewi
 have h2:(S.ins.map (·.2)).flatten.length≤42:=by
  have key:∀l:List (Str×List Str),(∀r∈l,r.2.length≤7)→(l.map (·.2)).flatten.length≤7*l.length:=by
   intro l
   induction l with
   | nil=>intro _;simp
   | cons r l ih =>
    intro hl
    have:=ih fun r hr=>hl r (List.mem_cons_of_mem _ hr)
    have:=hl r (by simp)
    rw[List.map_cons,List.flatten_cons,List.length_append,List.length_cons]
    omega
  have:=key S.ins fun r hr=>(O.cn r (List.mem_append_left _ hr)).nd.length_le_of_subset (O.ax r (List.mem_append_left _ hr))
  omega
 refine yp (g:=.none) ?_
 show Q6 [some (shD S),none] .none=_
 have c1:=ja (fi:=zG (xOp ixD (xV 0) (xC (.int 0)))) (hg:=zh 1) (ff:=xOp ixD (xV 1) (xC (.int 1))) (vs:=[1]) (env:=[some (shD S),none]) (g:=.none) (g1:=.none) yw (fun r=>tS r.2) (xs:=S.ins) (zI (d:=.tuple (S.ins.map yw)) rfl rfl) (fun s hs=>⟨_,rfl,rfl⟩) (by omega)
 have c2:=ZH (S.ins.map (·.2)) (by rw[List.length_map];omega) (by omega)
 rw[List.map_map] at c2
 exact zL (zZ (yg (d:=tS S.axes) (zd (w9 (l:=(S.ins.map (·.2)).flatten) (zB (zd c1 rfl) c2) (.inl rfl) (by omega)) rfl) rfl))
theorem UL{n:Str}(h:n∈S.nms):wj [shD S,.str n]=some (tS (S.smd n)):=by
 have hl:=O.axs_len h
 have hn:=O.mem_tbs h
 have hr:=O.rd_len h
 refine yp (g:=.none) ?_
 show Wm [some (shD S),some (.str n),none,none,none,none] .none=_
 refine(zk (jh (zB rfl (adb O)) (zu (zB rfl (Ie O)) rfl (wJ (O.rd_at h))))).trans ?_
 have c1:=ja (fi:=zG (xV 3)) (hg:=zh 5) (ff:=xOp vw (xV 2) (xV 5)) (vs:=[5]) (env:=[some (shD S),some (.str n),some (.dict (alD tS S.rows)),some (tS (S.rd n)),none,none]) (g:=.none) (g1:=.none) PyData.str (fun r=>tS (S.own r)) (xs:=S.rd n) (zI (d:=tS (S.rd n)) rfl rfl) (fun r hr=>⟨_,rfl,zu rfl rfl (wJ (O.own_at (O.rds h hr)))⟩) (by omega)
 have c2:=ZH ((S.rd n).map S.own) (by rw[List.length_map];omega) (by rw[←List.flatMap_def];show(S.axs n).length<_;omega)
 rw[List.map_map,←List.flatMap_def] at c2
 have ax:∀x∈S.axs n,x∈ax7:=O.axs_ok h
 have c3:=vK (fi:=zG (zy yl (za (xLc (zG (xV 3)) (zh 5) vh (xOp vw (xV 2) (xV 5)) [5]) zb))) (hg:=zh 4) (tt:=bT (xOp (inD true) (xV 4) (xOp vw (xV 2) (xV 1)))) (ff:=xV 4) (vs:=[4]) (env:=[some (shD S),some (.str n),some (.dict (alD tS S.rows)),some (tS (S.rd n)),none,none]) (g:=.none) (g1:=.none)
  (fun x=>!decide (x∈S.own n)) (xs:=S.axs n) (zI (zB (zd c1 rfl) c2) rfl) (fun x hx=>⟨_,rfl,zP (zu rfl (zu rfl rfl (wJ (O.own_at hn))) (by rw[(ym (neg:=true) (ok7 x (ax x hx)) (O.own_ok hn)).2];rfl)),fun _=>rfl⟩) (by omega)
 have e:cnl ((S.axs n).filter fun x=>!decide (x∈S.own n))=S.smd n:=(J9 _).ext (O.smd_cn n) fun x=>by
  rw[wZ,Sht.mem_smd,List.mem_filter]
  simp
 refine zL (zZ (yg (d:=tS (S.smd n)) (zd (w9 c3 (.inl rfl) (Nat.le_trans (List.length_filter_le _ _) (by omega))) rfl) ?_))
 rw[e];rfl
theorem adY:vI [shD S]=some (.list (S.prs.map abD)):=by
 have hl:=O.prs0_len
 have nm:=Jv O
 have okn:∀y∈S.nms,okS y=true:=fun y hy=>O.okn (O.mem_tbs hy)
 let P:List (Str×List Str×List Str)→List (Str×Str):=fun l=>l.flatMap fun s=>(s.2.2.filter fun r=>decide (r∈S.nms)).map fun r=>(r,s.1)
 have hP:P S.sms=S.prs0:=by
  show S.sms.flatMap _=(S.sms.map _).flatMap _
  rw[List.flatMap_map]
 have loop:=yM (h:=jS 3 (yf (zh 3) (yf (zh 4) (yf (zh 5) j9)))) (wp:=[4,3,6,5]) (body:=zg (Jn 2 (xLc (zG (xV 5)) (zh 6) (bT (xOp (inD false) (xV 6) (xV 1))) (zV (za (xV 6) (za (xV 3) zb))) [6])) zv) smD
  (fun xs env g=>g=.none∧∃done,done++xs=S.sms∧env=[some (shD S),some (lS S.nms),some (.list ((P done).map abD)),none,none,none,none])
  (fun s xs env g ⟨hg,done,hd,he⟩=>by
   subst hg he
   have hs:s∈S.sms:=by rw[←hd];simp
   have hq:(P done).length+(s.2.2.filter fun r=>decide (r∈S.nms)).length≤S.prs0.length:=by
    rw[←hP,←hd]
    simp only[P,List.flatMap_append,List.flatMap_cons,List.length_append,List.length_map]
    omega
   have hr:=O.rd_len (O.nm_of hs)
   rw[O.rd_of hs] at hr
   refine⟨_,_,_,rfl,(zk (YR rfl (QN PyData.str (fun r=>decide (r∈S.nms)) (fun r=>abD (r,s.1)) (xs:=s.2.2) (zI (d:=tS s.2.2) rfl rfl) (fun r hr=>⟨_,rfl,zP (zu rfl rfl ?_),fun _=>zX rfl (by simp)⟩) (by omega)) rfl ?_)).trans rfl,rfl,done++[s],by simpa using hd,?_⟩
   ·rw[(ym (neg:=false) (O.okn (O.rds (O.nm_of hs) (by rw[O.rd_of hs];exact hr))) okn).1];rfl
   ·rw[List.length_map,List.length_map];omega
   ·simp[zJ,P,List.map_map,Function.comp_def])
  S.sms [some (shD S),some (lS S.nms),some (.list []),none,none,none,none] .none ⟨rfl,[],rfl,rfl⟩
 obtain⟨e,g',l1,rfl,done,hd,rfl⟩:=loop
 rw[List.append_nil] at hd
 subst hd
 refine yp (g:=.none) ?_
 refine(zk (jh (zB rfl nm) (z8 rfl (by simp)))).trans ((zk (yT (zI (d:=.tuple (S.sms.map smD)) rfl rfl) l1)).trans (zL (zZ (jo (es:=S.prs.map abD) rfl ?_))))
 rw[hP]
 exact abb (by omega) fun q hq=>by
  have:=O.mem_prs.mp (show q∈S.prs from(QO _).mem_iff.mpr hq)
  exact⟨O.okn (O.mem_tbs this.2.1),O.okn (O.mem_tbs this.1)⟩
theorem Y7{n:Str}(h:n∈S.tbs):yG [shD S,.str n]=some (lS (S.rdrs n)):=by
 have hl:=O.fews
 refine yp (g:=.none) ?_
 show VF [some (shD S),some (.str n),none] .none=_
 refine zL (zZ (jo (es:=(S.rdrs n).map .str) (zd (QN smD (fun s=>decide (n∈s.2.2)) (fun s=>.str s.1) (xs:=S.sms) (zI (d:=.tuple (S.sms.map smD)) rfl rfl) (fun s hs=>⟨_,rfl,zP (zu rfl rfl ?_),fun _=>rfl⟩) (by omega)) rfl) ?_))
 ·rw[(ym (neg:=false) (O.okn h) fun y hy=>O.okn (O.rds (O.nm_of hs) (by rw[O.rd_of hs];exact hy))).2]
  rfl
 ·rw[show((S.sms.filter fun s=>decide (n∈s.2.2)).map fun s=>PyData.str s.1)=((S.sms.filter fun s=>decide (n∈s.2.2)).map (·.1)).map .str by rw[List.map_map];rfl]
  exact(vi (by rw[List.length_map];exact Nat.lt_of_le_of_lt (List.length_filter_le _ _) (by omega))).1
end
theorem agi{x y:Str}(hx:okS x=true)(hy:okS y=true):eqD (.str x) (.str y)=some (.bool (decide (x=y))):=by
 rw[UC (Gd.str (n:=1) hx) (Gd.str (n:=1) hy),XG]
inductive Wy(S:Sht):Str→Str→Prop
 | one {a b:Str}:b∈S.nms→a∈S.rd b→Wy S a b
 | step {a b c:Str}:Wy S a b→c∈S.nms→b∈S.rd c→Wy S a c
theorem Wy.nm{S:Sht}{a b:Str}:Wy S a b→b∈S.nms
 | .one h _=>h
 | .step _ h _=>h
theorem Wy.trans{S:Sht}{a b c:Str}(h:Wy S a b)(k:Wy S b c):Wy S a c:=by
 induction k with
 | one h1 h2=>exact .step h h1 h2
 | step _ h1 h2 ih=>exact .step ih h1 h2
theorem Wy.last{S:Sht}{a c:Str}(h:Wy S a c):c∈S.nms∧∃r∈S.rd c,r=a∨Wy S a r:=by
 cases h with
 | one h1 h2=>exact⟨h1,_,h2,.inl rfl⟩
 | step h0 h1 h2=>exact⟨h1,_,h2,.inr h0⟩
theorem Wy.first{S:Sht}{a c:Str}(h:Wy S a c):∃b,b∈S.nms∧a∈S.rd b∧(b=c∨Wy S b c):=by
 induction h with
 | one h1 h2=>exact⟨_,h1,h2,.inl rfl⟩
 | step h0 h1 h2 ih =>
  obtain⟨b,e1,e2,e3⟩:=ih
  refine⟨b,e1,e2,.inr ?_⟩
  rcases e3 with rfl | e3
  ·exact .one h1 h2
  ·exact .step e3 h1 h2
def JR(S:Sht)(n:Str)(acc:List Str)(x:Str):List Str:=if !((S.rd x).filter fun r=>decide (r=n)||decide (r∈acc)).isEmpty then acc++[x] else acc
def Sht.bel(S:Sht)(n:Str):List Str:=S.nms.foldl (JR S n) []
theorem afm{S:Sht}{n x:Str}{acc:List Str}(h:(!((S.rd x).filter fun r=>decide (r=n)||decide (r∈acc)).isEmpty)=true):JR S n acc x=acc++[x]:=if_pos h
theorem afn{S:Sht}{n x:Str}{acc:List Str}(h:(!((S.rd x).filter fun r=>decide (r=n)||decide (r∈acc)).isEmpty)=false):JR S n acc x=acc:=if_neg (by rw[h];simp)
theorem agj{S:Sht}{n x:Str}{acc:List Str}:(!((S.rd x).filter fun r=>decide (r=n)||decide (r∈acc)).isEmpty)=true↔∃r∈S.rd x,r=n∨r∈acc:=by
 rw[Bool.not_eq_true',List.isEmpty_eq_false_iff_exists_mem]
 simp[List.mem_filter]
section
variable {S:Sht} (O:ShOk S)
include O
theorem ShOk.acyc{pre post:List Str}{x r:Str}(e:S.nms=pre++x::post)(h:r∈S.rd x)(hr:r∈S.nms):r∈pre:=by
 obtain⟨ps,s,qs,es,e1,e2,e3⟩:∃ps s qs,S.sms=ps++s::qs∧ps.map (·.1)=pre∧s.1=x∧qs.map (·.1)=post:=by
  obtain⟨ps,zs,es,e1,e2⟩:=List.map_eq_append_iff.mp e
  obtain⟨s,qs,e3,e4,e5⟩:=List.map_eq_cons_iff.mp e2
  exact⟨ps,s,qs,by rw[es,e3],e1,e4,e5⟩
 have hs:s∈S.sms:=by rw[es];simp
 rw[←e2,O.rd_of hs] at h
 rcases O.ord ps s qs es r h with z | z
 ·have:=(List.nodup_append.mp (S.tbs_eq▸O.nd)).2.2 r z r hr
  exact absurd rfl this
 ·rw[←e1];exact z
theorem ShOk.bel_go{n:Str}:∀(mid done post acc:List Str),S.nms=done++(mid++post)→(∀x,x∈acc↔x∈done∧Wy S n x)→∀x,x∈mid.foldl (JR S n) acc↔x∈done++mid∧Wy S n x
 | [],done,post,acc,e,ih=>by simpa using ih
 | z::mid,done,post,acc,e,ih=>by
  have hz:z∈S.nms:=by rw[e];simp
  have c:(!((S.rd z).filter fun r=>decide (r=n)||decide (r∈acc)).isEmpty)=true↔Wy S n z:=by
   rw[agj]
   constructor
   ·rintro⟨r,hr,rfl | hr2⟩
    ·exact .one hz hr
    ·exact .step ((ih r).mp hr2).2 hz hr
   ·intro w
    obtain⟨_,r,hr,h⟩:=w.last
    exact⟨r,hr,h.imp id fun h=>(ih r).mpr ⟨O.acyc (post:=mid++post) (by rw[e];rfl) hr h.nm,h⟩⟩
  have go:=ShOk.bel_go mid (done++[z]) post (JR S n acc z) (by rw[e];simp) fun x=>by
   cases hb:(!((S.rd z).filter fun r=>decide (r=n)||decide (r∈acc)).isEmpty) with
   | true =>
    rw[afm hb,List.mem_append,ih x,List.mem_append,List.mem_singleton]
    have w:=c.mp hb
    constructor
    ·rintro(⟨h1,h2⟩ | rfl)
     ·exact⟨.inl h1,h2⟩
     ·exact⟨.inr rfl,w⟩
    ·rintro⟨h1 | rfl,h2⟩
     ·exact .inl ⟨h1,h2⟩
     ·exact .inr rfl
   | false =>
    rw[afn hb,ih x,List.mem_append,List.mem_singleton]
    constructor
    ·rintro⟨h1,h2⟩
     exact⟨.inl h1,h2⟩
    ·rintro⟨h1 | rfl,h2⟩
     ·exact⟨h1,h2⟩
     ·rw[c.mpr h2] at hb;cases hb
  intro x
  rw[List.foldl_cons,go x]
  simp
theorem ShOk.bel_fold{n:Str}(done post:List Str)(e:S.nms=done++post)(x:Str):x∈done.foldl (JR S n) []↔x∈done∧Wy S n x:=by
 have:=O.bel_go (n:=n) done [] post [] (by simpa using e) (by simp) x
 simpa using this
theorem ShOk.mem_bel{n x:Str}:x∈S.bel n↔Wy S n x:=by
 unfold Sht.bel
 rw[O.bel_fold S.nms [] (by simp)]
 exact⟨fun h=>h.2,fun h=>⟨h.nm,h⟩⟩
omit O in
theorem I9(n:Str):∀(l acc:List Str),(l.foldl (JR S n) acc).length≤acc.length+l.length
 | [],acc=>by simp
 | x::l,acc=>by
  have:=I9 n l (JR S n acc x)
  have h:(JR S n acc x).length≤acc.length+1:=by
   unfold JR
   split
   ·simp
   ·omega
  rw[List.foldl_cons,List.length_cons]
  omega
theorem ShOk.bel_le(n:Str):(S.bel n).length≤6:=by
 have:=I9 (S:=S) n S.nms []
 have h:=O.fews
 simp only[List.length_nil] at this
 have e:S.nms.length=S.sms.length:=by simp[Sht.nms]
 unfold Sht.bel
 omega
theorem ShOk.ok_nms{x:Str}(h:x∈S.nms):okS x=true:=O.okn (O.mem_tbs h)
theorem ShOk.nms_len:S.nms.length≤6:=by
 have h:=O.fews
 simp[Sht.nms];exact h
theorem If{n:Str}(hn:okS n=true):yK [shD S,.str n]=some (lS (S.bel n)):=by
 have hl:=O.nms_len
 have loop:=yM (h:=zh 2) (wp:=[2,5]) (body:=zg (sIf (bT (xOp neD (xLc (zG (xOp vw (xV 4) (xV 2))) (zh 5) (bOr (bT (xOp eqD (xV 5) (xV 1))) (bT (xOp (inD false) (xV 5) (xV 3)))) (xV 5) [5]) (zY zb))) (zg (yI 3 (xV 2)) zv) zv) zv) PyData.str
  (fun xs env g=>g=.none∧∃done,S.nms=done++xs∧env=[some (shD S),some (.str n),none,some (lS (done.foldl (JR S n) [])),some (.dict (alD tS S.reads)),none])
  (fun x xs env g ⟨hg,done,hd,he⟩=>by
   subst hg he
   have hx:x∈S.nms:=by rw[hd];simp
   have ha:∀y∈done.foldl (JR S n) [],y∈S.nms:=fun y hy=>((O.bel_fold done _ hd y).mp hy).2.nm
   have hlen:(done.foldl (JR S n) []).length≤6:=by
    have:=I9 (S:=S) n done []
    have:=congrArg List.length hd
    simp only[List.length_append,List.length_cons,List.length_nil] at *
    omega
   have hr:=O.rd_len hx
   have c1:=vK (fi:=zG (xOp vw (xV 4) (xV 2))) (hg:=zh 5) (tt:=bOr (bT (xOp eqD (xV 5) (xV 1))) (bT (xOp (inD false) (xV 5) (xV 3)))) (ff:=xV 5) (vs:=[5]) (env:=[some (shD S),some (.str n),some (.str x),some (lS (done.foldl (JR S n) [])),some (.dict (alD tS S.reads)),none]) (g:=.none) (g1:=.none)
    (fun r=>decide (r=n)||decide (r∈done.foldl (JR S n) [])) (xs:=S.rd x) (zI (zu rfl rfl (wJ (O.rd_at hx))) rfl)
    (fun r hr=>⟨_,rfl,wC (zP (zu rfl rfl (agi (O.okn (O.rds hx hr)) hn))) (fun _=>zP (zu rfl rfl (by rw[(ym (neg:=false) (O.okn (O.rds hx hr)) fun y hy=>O.ok_nms (ha y hy)).1];rfl))),fun _=>rfl⟩) (by omega)
   have c2:bT (xOp neD (xLc (zG (xOp vw (xV 4) (xV 2))) (zh 5) (bOr (bT (xOp eqD (xV 5) (xV 1))) (bT (xOp (inD false) (xV 5) (xV 3)))) (xV 5) [5]) (zY zb)) [some (shD S),some (.str n),some (.str x),some (lS (done.foldl (JR S n) [])),some (.dict (alD tS S.reads)),none] .none=some (!((S.rd x).filter fun r=>decide (r=n)||decide (r∈done.foldl (JR S n) [])).isEmpty,.none):=by
    refine zP (zu c1 (z8 rfl (by simp)) ?_)
    unfold lS
    rw[JY (Gd.lS fun y hy=>O.okn (O.rds hx (List.mem_filter.mp hy).1))]
    simp
   cases hc:!((S.rd x).filter fun r=>decide (r=n)||decide (r∈done.foldl (JR S n) [])).isEmpty with
   | true =>
    rw[hc] at c2
    have ef:(done++[x]).foldl (JR S n) []=done.foldl (JR S n) []++[x]:=by
     rw[List.foldl_append,List.foldl_cons,List.foldl_nil]
     exact afm hc
    refine⟨_,_,_,rfl,(zk ((Qn c2).trans ((zk (jv rfl rfl (by rw[List.length_map];omega))).trans rfl))).trans rfl,rfl,done++[x],by rw[hd];simp,?_⟩
    rw[ef]
    simp[zJ,lS]
   | false =>
    rw[hc] at c2
    have ef:(done++[x]).foldl (JR S n) []=done.foldl (JR S n) []:=by
     rw[List.foldl_append,List.foldl_cons,List.foldl_nil]
     exact afn hc
    refine⟨_,_,_,rfl,(zk ((wB c2).trans rfl)).trans rfl,rfl,done++[x],by rw[hd];simp,?_⟩
    rw[ef]
    simp[zJ])
  S.nms [some (shD S),some (.str n),none,some (.list []),some (.dict (alD tS S.reads)),none] .none ⟨rfl,[],rfl,rfl⟩
 obtain⟨e,g',l1,rfl,done,hd,rfl⟩:=loop
 rw[List.append_nil] at hd
 subst hd
 refine yp (g:=.none) ?_
 exact(zk (jh (z8 rfl (by simp)) (zB rfl (Ie O)))).trans ((zk (yT (zI (zB rfl (Jv O)) rfl) l1)).trans (zL (zZ rfl)))
end
def clB(S:Sht)(lot:List Str)(x:Str):Bool:=decide (x∈lot)||(!(lot.filter fun l=>decide (x∈S.bel l)).isEmpty&&!(lot.filter fun l=>decide (l∈S.bel x)).isEmpty)
def Sht.cl(S:Sht)(lot:List Str):List Str:=srt (S.nms.filter (clB S lot))
section
variable {S:Sht} (O:ShOk S)
include O
theorem ShOk.cl_cn(lot:List Str):CnS (S.cl lot):=QM (O.nds.sublist List.filter_sublist)
theorem ShOk.mem_cl{lot:List Str}{x:Str}:x∈S.cl lot↔x∈S.nms∧(x∈lot∨(∃a∈lot,Wy S a x)∧∃b∈lot,Wy S x b):=by
 unfold Sht.cl clB
 rw[wt,List.mem_filter]
 simp only[Bool.or_eq_true,decide_eq_true_eq,Bool.and_eq_true,Bool.not_eq_true',List.isEmpty_eq_false_iff_exists_mem,List.mem_filter,O.mem_bel]
theorem ShOk.cl_nm{lot:List Str}{x:Str}(h:x∈S.cl lot):x∈S.nms:=(O.mem_cl.mp h).1
theorem ShOk.cl_len(lot:List Str):(S.cl lot).length≤6:=Nat.le_trans ((O.cl_cn lot).nd.length_le_of_subset fun x hx=>O.cl_nm hx) O.nms_len
theorem QP{lot:List Str}{d:D}(hd:d=lS lot∨d=tS lot)(hl:∀x∈lot,x∈S.nms)(hz:lot.length≤20):z6 [shD S,d]=some (tS (S.cl lot)):=by
 have hn:=O.nms_len
 have okl:∀x∈lot,okS x=true:=fun x hx=>O.ok_nms (hl x hx)
 have hit:y9 d=some (lot.map .str):=by rcases hd with rfl | rfl <;> rfl
 have hin:∀ {x:Str},okS x=true→inD false (.str x) d=some (.bool (decide (x∈lot))):=fun {x} hx=>by
  rcases hd with rfl | rfl
  ·rw[(ym (neg:=false) hx okl).1];rfl
  ·rw[(ym (neg:=false) hx okl).2];rfl
 let dn:List (Str×List Str):=S.nms.map fun x=>(x,S.bel x)
 have dk:dn.map (·.1)=S.nms:=by simp[dn,Function.comp_def]
 have dat:∀ {x:Str},x∈S.nms→yz x dn=some (S.bel x):=fun {x} hx=>XW (by rw[dk];exact O.nds) (List.mem_map.mpr ⟨x,hx,rfl⟩)
 have okb:∀x,∀y∈S.bel x,okS y=true:=fun x y hy=>O.ok_nms (O.mem_bel.mp hy).nm
 have loop:=yM (h:=zh 2) (wp:=[5,6,2,7]) (body:=zg (z9 5 (xLc (zG (xV 1)) (zh 7) (bT (xOp (inD false) (xV 2) (xOp vw (xV 3) (xV 7)))) (xV 7) [7])) (zg (z9 6 (xLc (zG (xV 1)) (zh 7) (bT (xOp (inD false) (xV 7) (xOp vw (xV 3) (xV 2)))) (xV 7) [7])) (zg (sIf (bOr (bT (xOp (inD false) (xV 2) (xV 1))) (vr (bT (xOp neD (xV 5) (zY zb))) (bT (xOp neD (xV 6) (zY zb))))) (zg (yI 4 (xV 2)) zv) zv) zv))) PyData.str
  (fun xs env g=>g=.none∧∃done,S.nms=done++xs∧env=[some (shD S),some d,none,some (.dict (alD lS dn)),some (lS (done.filter (clB S lot))),none,none,none])
  (fun x xs env g ⟨hg,done,hdd,he⟩=>by
   subst hg he
   have hx:x∈S.nms:=by rw[hdd];simp
   have hlen:(done.filter (clB S lot)).length≤6:=by
    have:=List.length_filter_le (clB S lot) done
    have:=congrArg List.length hdd
    simp only[List.length_append,List.length_cons] at *
    omega
   have c1:xLc (zG (xV 1)) (zh 7) (bT (xOp (inD false) (xV 2) (xOp vw (xV 3) (xV 7)))) (xV 7) [7] [some (shD S),some d,some (.str x),some (.dict (alD lS dn)),some (lS (done.filter (clB S lot))),none,none,none] .none=some (lS (lot.filter fun l=>decide (x∈S.bel l)),.none) :=
    vK (fun l=>decide (x∈S.bel l)) (xs:=lot) (zI rfl hit) (fun l h=>⟨_,rfl,zP (zu rfl (zu rfl rfl (wJ (dat (hl l h)))) (by rw[(ym (neg:=false) (O.ok_nms hx) (okb l)).1];rfl)),fun _=>rfl⟩) (by omega)
   have c2:xLc (zG (xV 1)) (zh 7) (bT (xOp (inD false) (xV 7) (xOp vw (xV 3) (xV 2)))) (xV 7) [7] [some (shD S),some d,some (.str x),some (.dict (alD lS dn)),some (lS (done.filter (clB S lot))),some (lS (lot.filter fun l=>decide (x∈S.bel l))),none,none] .none=some (lS (lot.filter fun l=>decide (l∈S.bel x)),.none) :=
    vK (fun l=>decide (l∈S.bel x)) (xs:=lot) (zI rfl hit) (fun l h=>⟨_,rfl,zP (zu rfl (zu rfl rfl (wJ (dat hx))) (by rw[(ym (neg:=false) (okl l h) (okb x)).1];rfl)),fun _=>rfl⟩) (by omega)
   have c3:bOr (bT (xOp (inD false) (xV 2) (xV 1))) (vr (bT (xOp neD (xV 5) (zY zb))) (bT (xOp neD (xV 6) (zY zb)))) [some (shD S),some d,some (.str x),some (.dict (alD lS dn)),some (lS (done.filter (clB S lot))),some (lS (lot.filter fun l=>decide (x∈S.bel l))),some (lS (lot.filter fun l=>decide (l∈S.bel x))),none] .none=some (clB S lot x,.none):=by
    refine wC (zP (zu rfl rfl (hin (O.ok_nms hx)))) fun _=>JV (c:=!(lot.filter fun l=>decide (x∈S.bel l)).isEmpty) (c2:=!(lot.filter fun l=>decide (l∈S.bel x)).isEmpty) (zP (zu rfl (z8 rfl (by simp)) ?_)) fun _=>zP (zu rfl (z8 rfl (by simp)) ?_)
    ·unfold lS
     rw[JY (Gd.lS fun y hy=>okl y (List.mem_filter.mp hy).1)]
     simp
    ·unfold lS
     rw[JY (Gd.lS fun y hy=>okl y (List.mem_filter.mp hy).1)]
     simp
   cases hc:clB S lot x with
   | true =>
    rw[hc] at c3
    refine⟨_,_,_,rfl,(zk (zU c1)).trans ((zk (zU c2)).trans ((zk ((Qn c3).trans ((zk (jv rfl rfl (by rw[List.length_map];omega))).trans rfl))).trans rfl)),rfl,done++[x],by rw[hdd];simp,?_⟩
    rw[List.filter_append]
    simp[zJ,lS,hc]
   | false =>
    rw[hc] at c3
    refine⟨_,_,_,rfl,(zk (zU c1)).trans ((zk (zU c2)).trans ((zk ((wB c3).trans rfl)).trans rfl)),rfl,done++[x],by rw[hdd];simp,?_⟩
    rw[List.filter_append]
    simp[zJ,hc])
  S.nms [some (shD S),some d,none,some (.dict (alD lS dn)),some (.list []),none,none,none] .none ⟨rfl,[],rfl,rfl⟩
 obtain⟨e,g',l1,rfl,done,hdd,rfl⟩:=loop
 rw[List.append_nil] at hdd
 rw[←hdd] at l1
 have c0:=ja (fi:=zG (zy ye (za (xV 0) zb))) (hg:=zh 2) (ff:=zV (za (xV 2) (za (zy yK (za (xV 0) (za (xV 2) zb))) zb))) (vs:=[2]) (env:=[some (shD S),some d,none,none,none,none,none,none]) (g:=.none) (g1:=.none) PyData.str (fun x=>J0 lS (x,S.bel x)) (xs:=S.nms) (zI (zB rfl (Jv O)) rfl) (fun x hx=>⟨_,rfl,zX (zd rfl (zd (zB rfl (If O (O.ok_nms hx))) rfl)) (by simp)⟩) (by omega)
 have c1:=V0 (enc:=lS) (l:=dn) (by rw[dk];exact O.nds) (by simp[dn];omega)
 rw[show dn.map (J0 lS)=S.nms.map fun x=>J0 lS (x,S.bel x) by simp[dn,Function.comp_def]] at c1
 refine yp (g:=.none) ?_
 refine(zk (jh (yg (zd c0 rfl) c1) (z8 rfl (by simp)))).trans ((zk (yT (zI (zB rfl (Jv O)) rfl) l1)).trans (zL (zZ (yg (d:=tS (S.cl lot)) (zd (jo (es:=(S.cl lot).map .str) rfl ?_) rfl) rfl))))
 have:=List.length_filter_le (clB S lot) S.nms
 exact(vi (l:=S.nms.filter (clB S lot)) (by omega)).1
end
def V6(k v:Str):List (Str×List Str)→List (Str×List Str)
 | []=>[(k,[v])]
 | (j,l)::r=>if j=k then(j,l++[v])::r else(j,l)::V6 k v r
theorem Ig(k v n:Str):∀l:List (Str×List Str),yz n (V6 k v l)=if n=k then some ((yz k l).getD []++[v]) else yz n l
 | []=>by
  unfold V6 yz
  by_cases h:k=n
  ·rw[if_pos h,if_pos h.symm];rfl
  ·rw[if_neg h,if_neg (fun e=>h e.symm)];rfl
 | (j,w)::r=>by
  unfold V6
  by_cases h:j=k
  ·rw[if_pos h]
   unfold yz
   by_cases h2:j=n
   ·rw[if_pos h2,if_pos (by rw[←h2,h]),if_pos h];rfl
   ·rw[if_neg h2,if_neg (fun e=>h2 (by rw[h,e])),if_neg h2]
  ·rw[if_neg h]
   have ih:=Ig k v n r
   show(if j=n then some w else yz n (V6 k v r))=if n=k then some ((if j=k then some w else yz k r).getD []++[v]) else(if j=n then some w else yz n r)
   rw[if_neg h,ih]
   by_cases h2:j=n
   ·rw[if_pos h2,if_pos h2,if_neg (fun e=>h (by rw[h2,e]))]
   ·rw[if_neg h2,if_neg h2]
theorem abf(k v:Str):∀l:List (Str×List Str),(V6 k v l).length≤l.length+1
 | []=>by simp[V6]
 | (j,w)::r=>by
  have:=abf k v r
  unfold V6
  split
  ·simp
  ·simp only[List.length_cons];omega
theorem UM(j k:Str):(vV (.str j)=some (.inr k))↔j=k:=by simp[vV]
theorem Ih(k v:Str):∀(l:List (Str×List Str)),Z3 (.inr k) (.list (((yz k l).getD []).map .str++[.str v])) (Vg (.inr k) (alD lS l))=alD lS (V6 k v l)
 | []=>by
  show(if vV (.str k)=some (.inr k) then _ else _)=_
  rw[if_pos ((UM k k).mpr rfl)]
  rfl
 | (j,w)::r=>by
  have ih:=Ih k v r
  by_cases h:j=k
  ·have e1:Vg (.inr k) (alD lS ((j,w)::r))=alD lS ((j,w)::r):=by
    unfold Vg
    rw[jQ]
    show(match ((if j=k then some w else yz k r).map lS) with | some _=>_ | none=>_)=_
    rw[if_pos h]
    rfl
   have e2:yz k ((j,w)::r)=some w:=if_pos h
   have e3:V6 k v ((j,w)::r)=(j,w++[v])::r:=if_pos h
   rw[e1,e2,e3]
   show(if vV (.str j)=some (.inr k) then _ else _)=_
   rw[if_pos ((UM j k).mpr h)]
   simp[alD,lS]
  ·have e1:Vg (.inr k) (alD lS ((j,w)::r))=(.str j,lS w)::Vg (.inr k) (alD lS r):=by
    unfold Vg
    rw[jQ,jQ]
    have:yz k ((j,w)::r)=yz k r:=if_neg h
    rw[this]
    cases yz k r <;> rfl
   have e2:yz k ((j,w)::r)=yz k r:=if_neg h
   have e3:V6 k v ((j,w)::r)=(j,w)::V6 k v r:=if_neg h
   rw[e1,e2,e3]
   show(if vV (.str j)=some (.inr k) then _ else(.str j,lS w)::Z3 (.inr k) _ (Vg (.inr k) (alD lS r)))=_
   rw[if_neg (fun c=>h ((UM j k).mp c)),ih]
   rfl
theorem adZ(k:Str)(l:List (Str×List Str)):yY (.inr k) (Vg (.inr k) (alD lS l))=some (lS ((yz k l).getD [])):=by
 unfold Vg
 cases h:yz k l with
 | some w =>
  have:yY (.inr k) (alD lS l)=some (lS w):=by rw[jQ,h];rfl
  rw[this]
  exact this
 | none =>
  have:yY (.inr k) (alD lS l)=none:=by rw[jQ,h];rfl
  rw[this]
  show yY (.inr k) (alD lS l++[(PyData.str k,PyData.list [])])=_
  have e:alD lS l++[(PyData.str k,PyData.list [])]=alD lS (l++[(k,[])]):=by simp[alD,lS]
  rw[e,jQ,Y5,h]
  simp[yz,lS]
theorem Y8{i:Nat}{fy f:XF}{env:Env}{g g1 g2:D}{l:List (Str×List Str)}{k v:Str}(h0:env[i]? = some (some (.dict (alD lS l))))(h1:fy env g=some (.str k,g1))(h2:∀e':Env,(∀j,j≠i→e'[j]? = env[j]?)→f e' g1=some (.str v,g2))(hl:((yz k l).getD []).length<16000000)(hl2:l.length<16000000):JD i fy f env g=some (.nx (env.set i (some (.dict (alD lS (V6 k v l))))) g2):=by
 unfold JD
 rw[vo h0,Option.bind_some]
 show((fy env g).bind _)=_
 rw[h1,Option.bind_some]
 show((yY (.inr k) (Vg (.inr k) (alD lS l))).bind _)=_
 rw[adZ,Option.bind_some]
 show((f (env.set i (some (.dict (Vg (.inr k) (alD lS l))))) g1).bind _)=_
 rw[h2 _ fun j hj=>by rw[List.getElem?_set_ne (Ne.symm hj)],Option.bind_some,List.length_map,ad6,if_pos (by rw[VC hl,VC hl2];rfl),Ih]
theorem abg(l:List (Str×List Str)):Xf (alD lS l)=true:=by
 simp[Xf,alD,lS]
theorem Ii{i:Nat}{env:Env}{g:D}{l:List (Str×List Str)}{s:SF}{r:Option SR}(h0:env[i]? = some (some (.dict (alD lS l))))(h1:s env g=r):Yn i s env g=r:=by
 unfold Yn
 rw[vo h0,Option.bind_some]
 show(if Xf (alD lS l) then s env g else none)=_
 rw[abg,if_pos rfl]
 exact h1
inductive Rc(L:Str→List Str)(lot:List Str):Str→Prop
 | one {a b:Str}:a∈lot→b∈L a→Rc L lot b
 | step {b c:Str}:Rc L lot b→c∈L b→Rc L lot c
def trD(F:List Str):D:=.dict (alD PyData.bool (F.map fun x=>(x,true)))
theorem V1(F:List Str):(F.map fun x=>(x,true)).map (·.1)=F:=by simp[Function.comp_def]
abbrev rbT:BF:=bT (xOp neD (xV 3) (zY zb))
abbrev rbI:SF:=zg (sIf (bT (Xm true 2 (xV 4))) (zg (QG 2 (xV 4) (xC (.bool true))) (zg (yI 3 (xV 4)) zv)) zv) zv
abbrev rbB:SF:=zg (acR (aaM (xV 0) (J7 3) (zY zb)) (zh 4) [4] rbI) zv
theorem UN{d0 d1:D}:∀(xs F T:List Str),F.length+xs.length≤100000→T.length+xs.length≤100000→∃N,wu (zh 4) [4] rbI (xs.map .str) [some d0,some d1,some (trD F),some (lS T),none] .none=some (.nx [some d0,some d1,some (trD (F++N)),some (lS (T++N)),none] .none)∧N.Nodup∧(∀x,x∈N↔x∈xs∧x∉F)∧N.length≤xs.length
 | [],F,T,_,_=>⟨[],by simp[wu],List.nodup_nil,by simp,by simp⟩
 | x::xs,F,T,hf,ht=>by
  simp only[List.length_cons] at hf ht
  have c:bT (Xm true 2 (xV 4)) [some d0,some d1,some (trD F),some (lS T),some (.str x)] .none=some (!decide (x∈F),.none):=by
   refine zP ((ab8 (enc:=PyData.bool) (l:=F.map fun x=>(x,true)) rfl rfl).trans ?_)
   rw[V1];rfl
  by_cases h:x∈F
  ·obtain⟨N,e1,e2,e3,e4⟩:=UN (d0:=d0) (d1:=d1) xs F T (by omega) (by omega)
   refine⟨N,?_,e2,fun y=>?_,by simp;omega⟩
   ·rw[decide_eq_true h] at c
    rw[List.map_cons]
    unfold wu
    show((rbI [some d0,some d1,some (trD F),some (lS T),some (.str x)] .none).bind _)=_
    rw[show rbI [some d0,some d1,some (trD F),some (lS T),some (.str x)] .none=some (.nx [some d0,some d1,some (trD F),some (lS T),some (.str x)] .none) from(zk ((wB c).trans rfl)).trans rfl,Option.bind_some]
    exact e1
   ·rw[e3,List.mem_cons]
    constructor
    ·rintro⟨h1,h2⟩;exact⟨.inr h1,h2⟩
    ·rintro⟨rfl | h1,h2⟩
     ·exact absurd h h2
     ·exact⟨h1,h2⟩
  ·obtain⟨N,e1,e2,e3,e4⟩:=UN (d0:=d0) (d1:=d1) xs (F++[x]) (T++[x]) (by simp;omega) (by simp;omega)
   refine⟨x::N,?_,List.nodup_cons.mpr ⟨fun z=>((e3 x).mp z).2 (by simp),e2⟩,fun y=>?_,by simp;omega⟩
   ·rw[decide_eq_false h] at c
    rw[List.map_cons]
    unfold wu
    show((rbI [some d0,some d1,some (trD F),some (lS T),some (.str x)] .none).bind _)=_
    have b1:=WV (i:=2) (env:=[some d0,some d1,some (trD F),some (lS T),some (.str x)]) (g:=.none) (g1:=.none) (g2:=.none) (fv:=xC (.bool true)) (fk:=xV 4) (enc:=PyData.bool) (l:=F.map fun x=>(x,true)) (k:=x) (v:=true) rfl rfl rfl (by rw[V1];exact h) (by rw[List.length_map];omega)
    rw[show(F.map fun x=>(x,true))++[(x,true)]=(F++[x]).map fun x=>(x,true) by simp] at b1
    rw[show rbI [some d0,some d1,some (trD F),some (lS T),some (.str x)] .none=some (.nx [some d0,some d1,some (trD (F++[x])),some (lS (T++[x])),some (.str x)] .none) from
     (zk ((Qn c).trans ((zk b1).trans ((zk (jv (i:=3) (ds:=T.map .str) (d:=.str x) (g1:=.none) rfl rfl (by rw[List.length_map];omega))).trans (by simp[lS,zv,trD]))))).trans rfl,Option.bind_some]
    show wu (zh 4) [4] rbI (xs.map .str) [some d0,some d1,some (trD (F++[x])),some (lS (T++[x])),none] .none=_
    rw[e1]
    simp
   ·rw[List.mem_cons,e3,List.mem_cons,List.mem_append,List.mem_singleton]
    constructor
    ·rintro(rfl | ⟨h1,h2⟩)
     ·exact⟨.inl rfl,h⟩
     ·exact⟨.inr h1,fun z=>h2 (.inl z)⟩
    ·rintro⟨h1,h2⟩
     by_cases e:y=x
     ·exact .inl e
     ·exact .inr ⟨h1.resolve_left e,fun z=>z.elim h2 e⟩
theorem abh{lk:List (Str×List Str)}{lot U:List Str}{d1:D}(okU:∀x∈U,okS x=true)(hL:∀a,∀b∈(yz a lk).getD [],b∈U)(hlen:∀a,((yz a lk).getD []).length≤1000)(lotU:∀a∈lot,okS a=true)(hU:U.length≤1000) :
  ∀(fuel:Nat) (F T:List Str),F.Nodup→(∀x∈F,Rc (fun a=>(yz a lk).getD []) lot x)→(∀t∈T,t∈lot∨t∈F)→(∀y,(y∈lot∨y∈F)→y∈T∨∀z∈(yz y lk).getD [],z∈F)→(∀x∈F,x∈U)→T.length+(U.length - F.length)<fuel→T.length+(U.length - F.length)≤5000 →
  ∃F',jq rbT [4] rbB fuel [some (.dict (alD lS lk)),some d1,some (trD F),some (lS T),none] .none=some (.nx [some (.dict (alD lS lk)),some d1,some (trD F'),some (lS []),none] .none)∧F'.Nodup∧(∀x∈F',x∈U)∧∀x,x∈F'↔Rc (fun a=>(yz a lk).getD []) lot x
 | 0,F,T,_,_,_,_,_,h,_=>by omega
 | n+1,F,T,nd,hF,hT,hC,hFU,hm,hT5=>by
  have gT:Gd 1 (lS T):=Gd.lS fun t ht=>(hT t ht).elim (lotU t) fun h=>okU t (hFU t h)
  have c:rbT [some (.dict (alD lS lk)),some d1,some (trD F),some (lS T),none] .none=some (!T.isEmpty,.none):=by
   refine zP (zu rfl (z8 rfl (by simp)) ?_)
   unfold lS at gT ⊢
   rw[JY gT]
   simp
  rcases List.eq_nil_or_concat T with rfl | ⟨T0,t,rfl⟩
  ·refine⟨F,?_,nd,hFU,fun x=>⟨hF x,fun r=>?_⟩⟩
   ·unfold jq
    rw[c];rfl
   ·induction r with
    | one ha hb=>exact((hC _ (.inl ha)).resolve_left (by simp)) _ hb
    | step _ hc ih=>exact((hC _ (.inr ih)).resolve_left (by simp)) _ hc
  ·have htl:T0.length≤5000:=by simp at hT5;omega
   have hFl:F.length≤U.length:=nd.length_le_of_subset hFU
   obtain⟨N,e1,e2,e3,e4⟩:=UN (d0:=.dict (alD lS lk)) (d1:=d1) ((yz t lk).getD []) F T0 (by have:=hlen t;omega) (by have:=hlen t;omega)
   have ndN:(F++N).Nodup:=by
    rw[List.nodup_append]
    exact⟨nd,e2,fun x hx y hy e=>((e3 y).mp hy).2 (e▸hx)⟩
   have sub:∀x∈F++N,x∈U:=fun x hx=>by
    rcases List.mem_append.mp hx with h | h
    ·exact hFU x h
    ·exact hL t x ((e3 x).mp h).1
   have ndl:(F++N).length≤U.length:=ndN.length_le_of_subset sub
   have rt:∀x∈(yz t lk).getD [],Rc (fun a=>(yz a lk).getD []) lot x:=fun x hx=>by
    rcases hT t (by simp) with h | h
    ·exact .one h hx
    ·exact .step (hF t h) hx
   obtain⟨F',r1,r2,r3,r4⟩:=abh okU hL hlen lotU hU n (F++N) (T0++N) ndN (fun x hx=>by
     rcases List.mem_append.mp hx with h | h
     ·exact hF x h
     ·exact rt x ((e3 x).mp h).1) (fun y hy=>by
     rcases List.mem_append.mp hy with h | h
     ·exact(hT y (by simp[h])).imp id fun z=>List.mem_append_left _ z
     ·exact .inr (List.mem_append_right _ h)) (fun y hy=>by
     have all:∀z∈(yz t lk).getD [],z∈F++N:=fun z hz=>by
      by_cases zf:z∈F
      ·exact List.mem_append_left _ zf
      ·exact List.mem_append_right _ ((e3 z).mpr ⟨hz,zf⟩)
     have key:(y∈lot∨y∈F)∨y∈N:=by
      rcases hy with h | h
      ·exact .inl (.inl h)
      ·exact(List.mem_append.mp h).imp .inr id
     rcases key with h | h
     ·rcases hC y h with h2 | h2
      ·rw[List.concat_eq_append,List.mem_append,List.mem_singleton] at h2
       rcases h2 with h2 | rfl
       ·exact .inl (List.mem_append_left _ h2)
       ·exact .inr all
      ·exact .inr fun z hz=>List.mem_append_left _ (h2 z hz)
     ·exact .inl (List.mem_append_right _ h)) sub (by
     simp only[List.length_append,List.concat_eq_append,List.length_singleton] at hm ndl ⊢
     omega) (by
     simp only[List.length_append,List.concat_eq_append,List.length_singleton] at hT5 ndl ⊢
     omega)
   refine⟨F',?_,r2,r3,r4⟩
   have ne:(!(T0.concat t).isEmpty)=true:=by simp
   rw[ne] at c
   have body:rbB [some (.dict (alD lS lk)),some d1,some (trD F),some (lS (T0.concat t)),none] .none=some (.nx [some (.dict (alD lS lk)),some d1,some (trD (F++N)),some (lS (T0++N)),none] .none):=by
    have m:aaM (xV 0) (J7 3) (zY zb) [some (.dict (alD lS lk)),some d1,some (trD F),some (lS (T0.concat t)),none] .none=some (lS ((yz t lk).getD []),[some (.dict (alD lS lk)),some d1,some (trD F),some (lS T0),none],.none):=by
     have pop:J7 3 [some (.dict (alD lS lk)),some d1,some (trD F),some (lS (T0.concat t)),none] .none=some (.str t,[some (.dict (alD lS lk)),some d1,some (trD F),some (lS T0),none],.none):=by
      unfold J7
      show((((T0.concat t).map PyData.str)[((T0.concat t).map PyData.str).length - 1]?).bind _)=_
      rw[List.concat_eq_append,List.map_append,List.length_append]
      simp[lS]
     unfold aaM
     show((some (PyData.dict (alD lS lk),PyData.none)).bind _)=_
     rw[Option.bind_some]
     show((some (alD lS lk)).bind _)=_
     rw[Option.bind_some,pop,Option.bind_some]
     show((zY zb [some (.dict (alD lS lk)),some d1,some (trD F),some (lS T0),none] .none).bind _)=_
     rw[show zY zb [some (.dict (alD lS lk)),some d1,some (trD F),some (lS T0),none] .none=some (.list [],.none) from z8 rfl (by simp),Option.bind_some]
     show((JU (.dict (alD lS lk)) (.str t)).bind _)=_
     rw[XY,Option.bind_some]
     cases yz t lk <;> rfl
    refine(zk (e:=[some (.dict (alD lS lk)),some d1,some (trD (F++N)),some (lS (T0++N)),none]) (g1:=.none) ?_).trans rfl
    unfold acR
    rw[m,Option.bind_some]
    show((some (((yz t lk).getD []).map PyData.str)).bind _)=_
    rw[Option.bind_some]
    exact e1
   unfold jq
   rw[c,Option.bind_some]
   dsimp only
   rw[if_pos rfl,body,Option.bind_some]
   exact r1
theorem UO{lk:List (Str×List Str)}{lot U:List Str}{d1:D}(hd:d1=lS lot∨d1=tS lot)(okU:∀x∈U,okS x=true)(hL:∀a,∀b∈(yz a lk).getD [],b∈U)(hlen:∀a,((yz a lk).getD []).length≤1000)(lotU:∀a∈lot,okS a=true)(hU:U.length≤1000)(hlot:lot.length≤1000) :
  ∃F,wY [.dict (alD lS lk),d1]=some (trD F)∧F.Nodup∧(∀x∈F,x∈U)∧∀x,x∈F↔Rc (fun a=>(yz a lk).getD []) lot x:=by
 obtain⟨F,h1,h2,h3,h4⟩:=abh (d1:=d1) (lk:=lk) (lot:=lot) okU hL hlen lotU hU Uu [] lot List.nodup_nil (by simp) (fun t ht=>.inl ht) (fun y hy=>hy.elim .inl (by simp)) (by simp) (by unfold Uu;simp;omega) (by simp;omega)
 refine⟨F,yp (g:=.none) ?_,h2,h3,h4⟩
 show QK Uu [some (.dict (alD lS lk)),some d1,none,none,none] .none=_
 unfold QK
 have a1:JC [2,3] (za xE0 (za (jC VR (za (xV 1) zb)) zb)) [some (.dict (alD lS lk)),some d1,none,none,none] .none=some (.nx [some (.dict (alD lS lk)),some d1,some (trD []),some (lS lot),none] .none):=by
  have:jC VR (za (xV 1) zb) [some (.dict (alD lS lk)),some d1,none,none,none] .none=some (lS lot,.none):=by
   refine jo (ds:=[d1]) rfl ?_
   rcases hd with rfl | rfl <;> rfl
  unfold JC
  rw[zd (a:=.dict []) (g1:=.none) rfl (zd this rfl)]
  rfl
 refine(zk a1).trans ((zk (g1:=.none) (e:=[some (.dict (alD lS lk)),some d1,some (trD F),some (lS []),none]) ?_).trans (zL (UJ rfl rfl)))
 exact h1
def lkF(l:List (Str×List Str))(q:Str×Str):List (Str×List Str):=V6 q.1 q.2 l
theorem Yx(n:Str):∀(ps:List (Str×Str)) (acc:List (Str×List Str)),(yz n (ps.foldl lkF acc)).getD []=(yz n acc).getD []++(ps.filter fun q=>decide (q.1=n)).map (·.2)
 | [],acc=>by simp
 | q::ps,acc=>by
  rw[List.foldl_cons,Yx n ps]
  unfold lkF
  rw[Ig]
  by_cases h:n=q.1
  ·rw[if_pos h,List.filter_cons_of_pos (by simp[h])]
   subst h
   simp
  ·rw[if_neg h,List.filter_cons_of_neg (by simp;exact fun e=>h e.symm)]
theorem UP:∀(ps:List (Str×Str)) (acc:List (Str×List Str)),(ps.foldl lkF acc).length≤acc.length+ps.length
 | [],acc=>by simp
 | q::ps,acc=>by
  have:=UP ps (lkF acc q)
  have h:=abf q.1 q.2 acc
  rw[List.foldl_cons,List.length_cons]
  unfold lkF at this ⊢
  omega
theorem Ij(ps:List (Str×Str))(n x:Str):x∈(yz n (ps.foldl lkF [])).getD []↔(n,x)∈ps:=by
 rw[Yx]
 simp[yz,List.mem_map,List.mem_filter]
theorem ZI(n:Str)(ps:List (Str×Str)):((yz n (ps.foldl lkF [])).getD []).length≤ps.length:=by
 rw[Yx]
 simp[yz]
 exact List.length_filter_le _ _
section
variable {S:Sht} (O:ShOk S)
include O
theorem ShOk.rc_later{lot:List Str}(hl:∀x∈lot,x∈S.nms){L:Str→List Str}(hL:∀a b,b∈L a↔(a,b)∈S.prs){x:Str}:Rc L lot x↔∃a∈lot,Wy S a x:=by
 constructor
 ·intro r
  induction r with
  | one ha hb =>
   have:=O.mem_prs.mp ((hL _ _).mp hb)
   exact⟨_,ha,.one this.1 this.2.2⟩
  | step _ hc ih =>
   obtain⟨a,h1,h2⟩:=ih
   have:=O.mem_prs.mp ((hL _ _).mp hc)
   exact⟨a,h1,.step h2 this.1 this.2.2⟩
 ·rintro⟨a,ha,w⟩
  induction w with
  | one h1 h2=>exact .one ha ((hL _ _).mpr (O.mem_prs.mpr ⟨h1,hl _ ha,h2⟩))
  | step w h1 h2 ih=>exact .step ih ((hL _ _).mpr (O.mem_prs.mpr ⟨h1,w.nm,h2⟩))
theorem ShOk.rc_earlier{lot:List Str}(hl:∀x∈lot,x∈S.nms){L:Str→List Str}(hL:∀a b,b∈L a↔(b,a)∈S.prs){x:Str}:Rc L lot x↔x∈S.nms∧∃b∈lot,Wy S x b:=by
 constructor
 ·intro r
  induction r with
  | one ha hb =>
   have:=O.mem_prs.mp ((hL _ _).mp hb)
   exact⟨this.2.1,_,ha,.one this.1 this.2.2⟩
  | step _ hc ih =>
   obtain⟨h0,b,h1,h2⟩:=ih
   have:=O.mem_prs.mp ((hL _ _).mp hc)
   exact⟨this.2.1,b,h1,(Wy.one this.1 this.2.2).trans h2⟩
 ·rintro⟨hx,b,hb,w⟩
  -- from its far end
  have key:∀ {x c:Str},Wy S x c→x∈S.nms→(c∈lot∨Rc L lot c)→Rc L lot x:=by
   intro x c w
   induction w with
   | one h1 h2 =>
    intro hx hc
    have:=(hL _ _).mpr (O.mem_prs.mpr ⟨h1,hx,h2⟩)
    rcases hc with hc | hc
    ·exact .one hc this
    ·exact .step hc this
   | step w h1 h2 ih =>
    intro hx hc
    refine ih hx (.inr ?_)
    have:=(hL _ _).mpr (O.mem_prs.mpr ⟨h1,w.nm,h2⟩)
    rcases hc with hc | hc
    ·exact .one hc this
    ·exact .step hc this
  exact key w hx (.inl hb)
theorem V2{lot:List Str}{d:D}(hd:d=lS lot∨d=tS lot)(hl:∀x∈lot,x∈S.nms)(hz:lot.length≤20):yd [shD S,d]=some (tS (S.cl lot)):=by
 have hp:=O.prs_len
 have hn:=O.nms_len
 have okl:∀x∈lot,okS x=true:=fun x hx=>O.ok_nms (hl x hx)
 have hit:y9 d=some (lot.map .str):=by rcases hd with rfl | rfl <;> rfl
 have loop:=yM (h:=jS 2 (yf (zh 5) (yf (zh 6) j9))) (wp:=[5,6]) (body:=zg (JD 3 (xV 5) (xV 6)) (zg (JD 4 (xV 6) (xV 5)) zv)) abD
  (fun xs env g=>g=.none∧∃done,done++xs=S.prs∧env=[some (shD S),some d,none,some (.dict (alD lS (done.foldl lkF []))),some (.dict (alD lS ((done.map fun q=>(q.2,q.1)).foldl lkF []))),none,none,none,none,none])
  (fun q xs env g ⟨hg,done,hdd,he⟩=>by
   subst hg he
   have dl:done.length≤72:=by
    have:=congrArg List.length hdd
    simp only[List.length_append,List.length_cons] at this
    omega
   have s1:=Y8 (i:=3) (fy:=xV 5) (f:=xV 6) (env:=[some (shD S),some d,none,some (.dict (alD lS (done.foldl lkF []))),some (.dict (alD lS ((done.map fun q=>(q.2,q.1)).foldl lkF []))),some (.str q.1),some (.str q.2),none,none,none]) (g:=.none) (g1:=.none) (g2:=.none) (l:=done.foldl lkF []) (k:=q.1) (v:=q.2) rfl rfl (fun e' h=>vo ((h 6 (by decide)).trans rfl)) (by have:=ZI q.1 done;omega) (by have:=UP done [];simp at this;omega)
   have s2:=Y8 (i:=4) (fy:=xV 6) (f:=xV 5) (env:=[some (shD S),some d,none,some (.dict (alD lS ((done++[q]).foldl lkF []))),some (.dict (alD lS ((done.map fun q=>(q.2,q.1)).foldl lkF []))),some (.str q.1),some (.str q.2),none,none,none]) (g:=.none) (g1:=.none) (g2:=.none) (l:=(done.map fun q=>(q.2,q.1)).foldl lkF []) (k:=q.2) (v:=q.1) rfl rfl (fun e' h=>vo ((h 5 (by decide)).trans rfl)) (by have:=ZI q.2 (done.map fun q=>(q.2,q.1));rw[List.length_map] at this;omega) (by have:=UP (done.map fun q=>(q.2,q.1)) [];simp at this;omega)
   have e1:(done++[q]).foldl lkF []=V6 q.1 q.2 (done.foldl lkF []):=by rw[List.foldl_append];rfl
   have e2:((done++[q]).map fun q=>(q.2,q.1)).foldl lkF []=V6 q.2 q.1 ((done.map fun q=>(q.2,q.1)).foldl lkF []):=by rw[List.map_append,List.foldl_append];rfl
   rw[e1] at s2
   refine⟨_,_,_,rfl,(zk s1).trans ((zk s2).trans rfl),rfl,done++[q],by simpa using hdd,?_⟩
   rw[e1,e2]
   simp[zJ])
  S.prs [some (shD S),some d,none,some (.dict []),some (.dict []),none,none,none,none,none] .none ⟨rfl,[],rfl,rfl⟩
 obtain⟨e,g',l1,rfl,done,hdd,rfl⟩:=loop
 rw[List.append_nil] at hdd
 subst hdd
 have la:∀a b,b∈(yz a (S.prs.foldl lkF [])).getD []↔(a,b)∈S.prs:=fun a b=>Ij S.prs a b
 have lb:∀a b,b∈(yz a ((S.prs.map fun q=>(q.2,q.1)).foldl lkF [])).getD []↔(b,a)∈S.prs:=fun a b=>by
  rw[Ij]
  constructor
  ·intro h
   obtain⟨q,hq,e⟩:=List.mem_map.mp h
   cases e
   exact hq
  ·intro h
   exact List.mem_map.mpr ⟨(b,a),h,rfl⟩
 obtain⟨F,f1,f2,f3,f4⟩:=UO (lk:=S.prs.foldl lkF []) (lot:=lot) (U:=S.nms) (d1:=d) hd (fun x hx=>O.ok_nms hx) (fun a b hb=>(O.mem_prs.mp ((la a b).mp hb)).1) (fun a=>by have:=ZI a S.prs;omega) okl (by omega) (by omega)
 obtain⟨G,g1,g2,g3,g4⟩:=UO (lk:=(S.prs.map fun q=>(q.2,q.1)).foldl lkF []) (lot:=lot) (U:=S.nms) (d1:=d) hd (fun x hx=>O.ok_nms hx) (fun a b hb=>(O.mem_prs.mp ((lb a b).mp hb)).2.1) (fun a=>by have:=ZI a (S.prs.map fun q=>(q.2,q.1));rw[List.length_map] at this;omega) okl (by omega) (by omega)
 have fl:F.length≤6:=Nat.le_trans (f2.length_le_of_subset f3) hn
 let Z:Env:=[some (shD S),some d,none,some (.dict (alD lS (S.prs.foldl lkF []))),some (.dict (alD lS ((S.prs.map fun q=>(q.2,q.1)).foldl lkF []))),none,none,some (trD F),some (trD G),none]
 have c1:xLc (GJ (xV 7)) (zh 9) (bT (xOp (Zk false) (xV 9) (xV 8))) (xV 9) [9] Z .none=some (lS (F.filter fun x=>decide (x∈G)),.none):=by
  refine vK (fun x=>decide (x∈G)) (xs:=F) ((afk (enc:=PyData.bool) (l:=F.map fun x=>(x,true)) rfl).trans (by rw[V1])) (fun x hx=>⟨_,rfl,zP (zu rfl rfl ?_),fun _=>rfl⟩) (by omega)
  show Zk false (.str x) (.dict (alD PyData.bool (G.map fun x=>(x,true))))=_
  rw[ZG,V1];rfl
 have e:cnl (lot++((F.filter fun x=>decide (x∈G))++[]))=S.cl lot:=(J9 _).ext (O.cl_cn lot) fun x=>by
  rw[wZ,O.mem_cl,List.append_nil,List.mem_append,List.mem_filter,f4,decide_eq_true_eq,g4,O.rc_later hl la,O.rc_earlier hl lb]
  constructor
  ·rintro(h | ⟨h1,h2,h3⟩)
   ·exact⟨hl x h,.inl h⟩
   ·exact⟨h2,.inr ⟨h1,h3⟩⟩
  ·rintro⟨h0,h | ⟨h1,h2⟩⟩
   ·exact .inl h
   ·exact .inr ⟨h1,h0,h2⟩
 have ff:=List.length_filter_le (fun x=>decide (x∈G)) F
 refine yp (g:=.none) ?_
 show XO [some (shD S),some d,none,none,none,none,none,none,none,none] .none=_
 refine(zk (e:=[some (shD S),some d,none,some (.dict []),some (.dict []),none,none,none,none,none]) (g1:=.none) rfl).trans ((zk (yT (zI (zB rfl (Yw O)) rfl) l1)).trans ((zk (e:=Z) (g1:=.none) (Ii rfl (Ii rfl (jh (zB rfl f1) (zB rfl g1))))).trans ((zk (zU c1)).trans (zL (zZ (yg (d:=tS (S.cl lot)) (zd (w9 (l:=lot++((F.filter fun x=>decide (x∈G))++[])) (z8 (jg rfl hit (jg rfl rfl rfl)) ?_) (.inl ?_) ?_) rfl) ?_))))))
 ·simp only[List.length_append,List.length_map,List.length_nil];omega
 ·simp[lS]
 ·simp only[List.length_append,List.length_nil];omega
 ·rw[e];rfl
theorem ShOk.lot_nm{n x:Str}(hn:n∈S.nms)(h:x∈n::S.rdrs n):x∈S.nms:=by
 rcases List.mem_cons.mp h with rfl | h
 ·exact hn
 ·exact O.rdrs_nm h
theorem ae0{n:Str}(hn:n∈S.nms):Je [shD S,.str n]=some (tS (S.cl (n::S.rdrs n))):=by
 have hl:=O.rdrs_len n
 refine yp (g:=.none) ?_
 show ab4 [some (shD S),some (.str n)] .none=_
 exact zL (zZ (zB (ds:=[shD S,tS (n::S.rdrs n)]) (zd rfl (zd (zX (ds:=(n::S.rdrs n).map .str) (zd rfl ((jg (zB rfl (Qa O (O.mem_tbs hn))) rfl rfl).trans (by simp))) (by simp;omega)) rfl)) (V2 O (.inr rfl) (fun x hx=>O.lot_nm hn hx) (by simp;omega))))
theorem UQ{n:Str}(hn:n∈S.nms):yH [shD S,.str n]=some (tS (S.cl (n::S.rdrs n))):=by
 have hl:=O.rdrs_len n
 refine yp (g:=.none) ?_
 show Wn [some (shD S),some (.str n)] .none=_
 exact zL (zZ (zB (ds:=[shD S,lS (n::S.rdrs n)]) (zd rfl (zd (zu (z8 (zd rfl rfl) (by simp)) (zB rfl (Y7 O (O.mem_tbs hn))) (abe (by simp;omega))) rfl)) (QP O (.inl rfl) (fun x hx=>O.lot_nm hn hx) (by simp;omega))))
theorem ShOk.cl_cl{lot:List Str}(hl:∀x∈lot,x∈S.nms):S.cl (S.cl lot)=S.cl lot:=(O.cl_cn _).ext (O.cl_cn _) fun x=>by
 have up:∀y∈S.cl lot,∀x,Wy S y x→∃a∈lot,Wy S a x:=fun y hy x w=>by
  rcases(O.mem_cl.mp hy).2 with h | ⟨⟨a,ha,wa⟩,_⟩
  ·exact⟨y,h,w⟩
  ·exact⟨a,ha,wa.trans w⟩
 have dn:∀y∈S.cl lot,∀x,Wy S x y→∃b∈lot,Wy S x b:=fun y hy x w=>by
  rcases(O.mem_cl.mp hy).2 with h | ⟨_,b,hb,wb⟩
  ·exact⟨y,h,w⟩
  ·exact⟨b,hb,w.trans wb⟩
 rw[O.mem_cl]
 constructor
 ·rintro⟨h0,h | ⟨⟨a,ha,wa⟩,b,hb,wb⟩⟩
  ·exact h
  ·exact O.mem_cl.mpr ⟨h0,.inr ⟨up a ha x wa,dn b hb x wb⟩⟩
 ·intro h
  exact⟨(O.mem_cl.mp h).1,.inl h⟩
end
def aa0(S:Sht)(lot:List Str)(a n:Str):Bool:=decide (a∈S.smd n)&&(S.rdrs n).any fun r=>decide (r∈lot)
def Q9(S:Sht)(a n:Str):Bool:=!decide (a∈S.lps n)
def Yy(S:Sht)(lot:List Str)(a:Str)(may:Bool)(n:Str):Bool:=aa0 S lot a n||(!may&&(!decide (a∈S.own n)&&!decide (a∈S.smd n)))
def Sht.stp(S:Sht)(lot:List Str)(a:Str)(may:Bool):List Str:=srt (lot.filter (Yy S lot a may))
theorem ahx{l m:List Str}:(!(l.filter fun r=>decide (r∈m)).isEmpty)=l.any fun r=>decide (r∈m):=by
 rw[Bool.eq_iff_iff,Bool.not_eq_true',List.isEmpty_eq_false_iff_exists_mem,List.any_eq_true]
 simp only[List.mem_filter]
section
variable {S:Sht} (O:ShOk S)
include O
theorem ShOk.mem_lps{n x:Str}:x∈S.lps n↔x∈S.own n∨x∈S.smd n:=by
 unfold Sht.lps
 rw[wZ]
 simp
theorem ShOk.lps_ok{n:Str}(hn:n∈S.nms):∀x∈S.lps n,okS x=true:=fun x hx=>by
 rcases O.mem_lps.mp hx with h | h
 ·exact O.own_ok (O.mem_tbs hn) x h
 ·exact O.smd_ok hn x h
theorem acm{lot:List Str}(hl:∀x∈lot,x∈S.nms){n:Str}(hn:n∈S.nms):wc [shD S,tS lot,.str n]=some (.bool ((S.rdrs n).any fun r=>decide (r∈lot))):=by
 have h6:=O.rdrs_len n
 refine yp (g:=.none) ?_
 show XQ [some (shD S),some (tS lot),some (.str n),none] .none=_
 have c:=ja (fi:=zG (zy yJ (za (xV 0) (za (xV 2) zb)))) (hg:=zh 3) (ff:=xOp (inD false) (xV 3) (xV 1)) (vs:=[3]) (env:=[some (shD S),some (tS lot),some (.str n),none]) (g:=.none) (g1:=.none) PyData.str (fun r=>.bool (decide (r∈lot))) (xs:=S.rdrs n) (zI (zB rfl (Qa O (O.mem_tbs hn))) rfl) (fun r hr=>⟨_,rfl,zu rfl rfl (by rw[(ym (neg:=false) (O.ok_nms (O.rdrs_nm hr)) fun y hy=>O.ok_nms (hl y hy)).2];rfl)⟩) (by omega)
 refine zL (zZ (yg (zd c rfl) ?_))
 rw[show((S.rdrs n).map fun r=>PyData.bool (decide (r∈lot)))=((S.rdrs n).map fun r=>decide (r∈lot)).map .bool by rw[List.map_map];rfl]
 show((Vn _).bind _)=_
 rw[UD,Option.bind_some,List.any_map]
 rfl
theorem acn{lot:List Str}(hl:∀x∈lot,x∈S.nms)(hz:lot.length≤20){a:Str}(ha:okS a=true):Ju [shD S,tS lot,.str a]=some (lS (lot.filter (Q9 S a))):=by
 refine yp (g:=.none) ?_
 show Ib [some (shD S),some (tS lot),some (.str a),none] .none=_
 exact zL (zZ (vK (Q9 S a) (xs:=lot) (zI (d:=tS lot) rfl rfl) (fun n hn=>⟨_,rfl,zP (zu rfl (zB rfl (abd O (hl n hn))) (by rw[(ym (neg:=true) ha (O.lps_ok (hl n hn))).2];rfl)),fun _=>rfl⟩) (by omega)))
theorem ShOk.stp_cn{lot:List Str}(nd:lot.Nodup)(a:Str)(may:Bool):CnS (S.stp lot a may):=QM (nd.sublist List.filter_sublist)
theorem afo{lot:List Str}(nd:lot.Nodup)(hl:∀x∈lot,x∈S.nms){a:Str}(ha:okS a=true)(may:Bool):wI [shD S,tS lot,.str a,.bool may]=some (tS (S.stp lot a may)):=by
 have hz:lot.length≤6:=Nat.le_trans (nd.length_le_of_subset hl) O.nms_len
 refine yp (g:=.none) ?_
 show UF [some (shD S),some (tS lot),some (.str a),some (.bool may),none,none] .none=_
 have c1:=vK (fi:=zG (xV 1)) (hg:=zh 5) (tt:=vr (bT (xOp (inD false) (xV 2) (zy y7 (za (xV 0) (za (xV 5) zb))))) (bT (zy wc (za (xV 0) (za (xV 1) (za (xV 5) zb)))))) (ff:=xV 5) (vs:=[5]) (env:=[some (shD S),some (tS lot),some (.str a),some (.bool may),none,none]) (g:=.none) (g1:=.none)
  (aa0 S lot a) (xs:=lot) (zI (d:=tS lot) rfl rfl) (fun n hn=>⟨_,rfl,JV (zP (zu rfl (zB rfl (VG O (hl n hn))) (by rw[(ym (neg:=false) ha (O.smd_ok (hl n hn))).2];rfl))) (fun _=>zP (zB rfl (acm O hl (hl n hn)))),fun _=>rfl⟩) (by omega)
 have f1:=List.length_filter_le (aa0 S lot a) lot
 have f2:=List.length_filter_le (Q9 S a) lot
 refine(zk (zU c1)).trans ?_
 have c2:xIf (bT (xV 3)) (zY zb) (zy Ju (za (xV 0) (za (xV 1) (za (xV 2) zb)))) [some (shD S),some (tS lot),some (.str a),some (.bool may),some (lS (lot.filter (aa0 S lot a))),none] .none=some (lS (if may then [] else lot.filter (Q9 S a)),.none):=by
  cases may with
  | true=>exact(YS (zP rfl)).trans (z8 rfl (by simp))
  | false=>exact(Ub (zP rfl)).trans (zB rfl (acn O hl (by omega) ha))
 have len2:(if may then [] else lot.filter (Q9 S a)).length≤6:=by
  split
  ·simp
  ·omega
 have e:srt (lot.filter (aa0 S lot a)++((if may then [] else lot.filter (Q9 S a))++[]))=S.stp lot a may:=by
  have ndl:(lot.filter (aa0 S lot a)++((if may then [] else lot.filter (Q9 S a))++[])).Nodup:=by
   rw[List.append_nil,List.nodup_append]
   have nd2:(if may then [] else lot.filter (Q9 S a)).Nodup:=by
    split
    ·exact List.nodup_nil
    ·exact nd.sublist List.filter_sublist
   refine⟨nd.sublist List.filter_sublist,nd2,fun x hx y hy exy=>?_⟩
   subst exy
   have h1:=(List.mem_filter.mp hx).2
   split at hy
   ·cases hy
   ·have h2:=(List.mem_filter.mp hy).2
    unfold aa0 at h1
    unfold Q9 at h2
    rw[Bool.and_eq_true,decide_eq_true_eq] at h1
    rw[Bool.not_eq_true',decide_eq_false_iff_not] at h2
    exact h2 (O.mem_lps.mpr (.inr h1.1))
  refine(QM ndl).ext (O.stp_cn nd a may) fun x=>?_
  unfold Sht.stp
  rw[wt,wt,List.append_nil,List.mem_append,List.mem_filter,List.mem_filter]
  unfold Yy
  rw[Bool.or_eq_true]
  constructor
  ·rintro(⟨h1,h2⟩ | h)
   ·exact⟨h1,.inl h2⟩
   ·split at h
    ·cases h
    ·rename_i hm
     rw[List.mem_filter] at h
     refine⟨h.1,.inr ?_⟩
     have h2:=h.2
     unfold Q9 at h2
     rw[Bool.not_eq_true',decide_eq_false_iff_not,O.mem_lps] at h2
     simp[hm]
     exact⟨fun z=>h2 (.inl z),fun z=>h2 (.inr z)⟩
  ·rintro⟨h1,h2 | h2⟩
   ·exact .inl ⟨h1,h2⟩
   ·right
    simp only[Bool.and_eq_true,Bool.not_eq_true',decide_eq_false_iff_not] at h2
    rw[if_neg (by rw[h2.1];simp),List.mem_filter]
    refine⟨h1,?_⟩
    unfold Q9
    rw[Bool.not_eq_true',decide_eq_false_iff_not,O.mem_lps]
    rintro(z | z)
    ·exact h2.2.1 z
    ·exact h2.2.2 z
 refine zL (zZ (yg (d:=tS (S.stp lot a may)) (zd (jo (es:=(S.stp lot a may).map .str) (zd (z8 (ds:=(lot.filter (aa0 S lot a)++((if may then [] else lot.filter (Q9 S a))++[])).map .str) ((jg rfl rfl (jg c2 rfl rfl)).trans ?_) ?_) rfl) ?_) rfl) rfl))
 ·simp
 ·simp only[List.length_map,List.length_append,List.length_nil];omega
 ·rw[←e]
  exact(vi (by simp only[List.length_append,List.length_nil];omega)).1
theorem ae1{lot:List Str}(nd:lot.Nodup)(hl:∀x∈lot,x∈S.nms){a:Str}(ha:okS a=true)(may:Bool):vJ [shD S,tS lot,.str a,.bool may]=some (tS (S.stp lot a may)):=by
 have hz:lot.length≤6:=Nat.le_trans (nd.length_le_of_subset hl) O.nms_len
 have okl:∀x∈lot,okS x=true:=fun x hx=>O.ok_nms (hl x hx)
 have loop:=yM (h:=zh 4) (wp:=[8,4,9,7]) (body:=zg (z9 7 (zy wj (za (xV 0) (za (xV 4) zb)))) (zg (z9 8 ((xOp neD (xLc (zG (zy yG (za (xV 0) (za (xV 4) zb)))) (zh 9) (bT (xOp (inD false) (xV 9) (xV 1))) (xV 9) [9]) (zY zb)))) (zg (sIf (bOr (vr (bT (xOp (inD false) (xV 2) (xV 7))) (bT (xV 8))) (vr (v8 (bT (xV 3))) (vr (bT (xOp (inD true) (xV 2) (xOp vw (xV 6) (xV 4)))) (bT (xOp (inD true) (xV 2) (xV 7)))))) (zg (yI 5 (xV 4)) zv) zv) zv))) PyData.str
  (fun xs env g=>g=.none∧∃done,lot=done++xs∧env=[some (shD S),some (tS lot),some (.str a),some (.bool may),none,some (lS (done.filter (Yy S lot a may))),some (.dict (alD tS S.rows)),none,none,none])
  (fun n xs env g ⟨hg,done,hdd,he⟩=>by
   subst hg he
   have hn:n∈S.nms:=hl n (by rw[hdd];simp)
   have hlen:(done.filter (Yy S lot a may)).length≤6:=by
    have:=List.length_filter_le (Yy S lot a may) done
    have:=congrArg List.length hdd
    simp only[List.length_append,List.length_cons] at *
    omega
   have h6:=O.rdrs_len n
   have c1:=vK (fi:=zG (zy yG (za (xV 0) (za (xV 4) zb)))) (hg:=zh 9) (tt:=bT (xOp (inD false) (xV 9) (xV 1))) (ff:=xV 9) (vs:=[9]) (env:=[some (shD S),some (tS lot),some (.str a),some (.bool may),some (.str n),some (lS (done.filter (Yy S lot a may))),some (.dict (alD tS S.rows)),some (tS (S.smd n)),none,none]) (g:=.none) (g1:=.none)
    (fun r=>decide (r∈lot)) (xs:=S.rdrs n) (zI (zB rfl (Y7 O (O.mem_tbs hn))) rfl) (fun r hr=>⟨_,rfl,zP (zu rfl rfl (by rw[(ym (neg:=false) (O.ok_nms (O.rdrs_nm hr)) okl).2];rfl)),fun _=>rfl⟩) (by omega)
   have c2:xOp neD (xLc (zG (zy yG (za (xV 0) (za (xV 4) zb)))) (zh 9) (bT (xOp (inD false) (xV 9) (xV 1))) (xV 9) [9]) (zY zb) [some (shD S),some (tS lot),some (.str a),some (.bool may),some (.str n),some (lS (done.filter (Yy S lot a may))),some (.dict (alD tS S.rows)),some (tS (S.smd n)),none,none] .none=some (.bool ((S.rdrs n).any fun r=>decide (r∈lot)),.none):=by
    refine zu c1 (z8 rfl (by simp)) ?_
    unfold lS
    rw[JY (Gd.lS fun y hy=>O.ok_nms (O.rdrs_nm (List.mem_filter.mp hy).1)),←ahx]
    simp
   have c3:bOr (vr (bT (xOp (inD false) (xV 2) (xV 7))) (bT (xV 8))) (vr (v8 (bT (xV 3))) (vr (bT (xOp (inD true) (xV 2) (xOp vw (xV 6) (xV 4)))) (bT (xOp (inD true) (xV 2) (xV 7))))) [some (shD S),some (tS lot),some (.str a),some (.bool may),some (.str n),some (lS (done.filter (Yy S lot a may))),some (.dict (alD tS S.rows)),some (tS (S.smd n)),some (.bool ((S.rdrs n).any fun r=>decide (r∈lot))),none] .none=some (Yy S lot a may n,.none):=by
    refine wC (c:=aa0 S lot a n) (JV (zP (zu rfl rfl ?_)) fun _=>zP rfl) fun _=>JV (c:=!may) (wN (zP rfl)) fun _=>JV (c:=!decide (a∈S.own n)) (c2:=!decide (a∈S.smd n)) (zP (zu rfl (zu rfl rfl (wJ (O.own_at (O.mem_tbs hn)))) ?_)) fun _=>zP (zu rfl rfl ?_)
    ·rw[(ym (neg:=false) ha (O.smd_ok hn)).2];rfl
    ·rw[(ym (neg:=true) ha (O.own_ok (O.mem_tbs hn))).2];rfl
    ·rw[(ym (neg:=true) ha (O.smd_ok hn)).2];rfl
   cases hc:Yy S lot a may n with
   | true =>
    rw[hc] at c3
    refine⟨_,_,_,rfl,(zk (zU (zB rfl (UL O hn)))).trans ((zk (zU c2)).trans ((zk ((Qn c3).trans ((zk (jv rfl rfl (by rw[List.length_map];omega))).trans rfl))).trans rfl)),rfl,done++[n],by rw[hdd];simp,?_⟩
    rw[List.filter_append]
    simp[zJ,lS,hc]
   | false =>
    rw[hc] at c3
    refine⟨_,_,_,rfl,(zk (zU (zB rfl (UL O hn)))).trans ((zk (zU c2)).trans ((zk ((wB c3).trans rfl)).trans rfl)),rfl,done++[n],by rw[hdd];simp,?_⟩
    rw[List.filter_append]
    simp[zJ,hc])
  lot [some (shD S),some (tS lot),some (.str a),some (.bool may),none,some (.list []),some (.dict (alD tS S.rows)),none,none,none] .none ⟨rfl,[],rfl,rfl⟩
 obtain⟨e,g',l1,rfl,done,hdd,rfl⟩:=loop
 rw[List.append_nil] at hdd
 rw[←hdd] at l1
 have f1:=List.length_filter_le (Yy S lot a may) lot
 refine yp (g:=.none) ?_
 exact(zk (jh (z8 rfl (by simp)) (zB rfl (adb O)))).trans ((zk (yT (zI (d:=tS lot) rfl rfl) l1)).trans (zL (zZ (yg (d:=tS (S.stp lot a may)) (zd (jo (es:=(S.stp lot a may).map .str) rfl (vi (l:=lot.filter (Yy S lot a may)) (by omega)).1) rfl) rfl))))
end
inductive Pw(S:Sht)(one:List Str):List Str→Str→Prop
 | base {a:Str}:a∈one→Pw S one [a] a
 | snoc {w:List Str} {a b:Str}:Pw S one w a→b∈S.rdrs a→Pw S one (w++[b]) b
theorem Pw.last{S:Sht}{one w:List Str}{a:Str}(h:Pw S one w a):∃u,w=u++[a]:=by
 cases h with
 | base h=>exact⟨[],rfl⟩
 | snoc h k=>exact⟨_,rfl⟩
theorem Pw.head{S:Sht}{one w:List Str}{a:Str}(h:Pw S one w a):∃b∈one,∃u,w=b::u:=by
 induction h with
 | base h=>exact⟨_,h,[],rfl⟩
 | snoc h k ih =>
  obtain⟨b,hb,u,rfl⟩:=ih
  exact⟨b,hb,u++[_],rfl⟩
section
variable {S:Sht} (O:ShOk S)
include O
theorem ShOk.pw_nm{one w:List Str}{a:Str}(hl:∀x∈one,x∈S.nms)(h:Pw S one w a):(∀x∈w,x∈S.nms)∧a∈S.nms:=by
 induction h with
 | base h=>exact⟨fun x hx=>by rw[List.mem_singleton.mp hx];exact hl _ h,hl _ h⟩
 | snoc h k ih =>
  refine⟨fun x hx=>?_,O.rdrs_nm k⟩
  rcases List.mem_append.mp hx with z | z
  ·exact ih.1 x z
  ·rw[List.mem_singleton.mp z];exact O.rdrs_nm k
theorem ShOk.wy_rdrs{a b:Str}(h:b∈S.rdrs a):Wy S a b:=.one (O.rdrs_nm h) (O.mem_rdrs.mp h).2
theorem ShOk.pw_wy{one w:List Str}{a:Str}(h:Pw S one w a):a∈one∨∃b∈one,Wy S b a:=by
 induction h with
 | base h=>exact .inl h
 | snoc h k ih =>
  rcases ih with h2 | ⟨b,hb,w⟩
  ·exact .inr ⟨_,h2,O.wy_rdrs k⟩
  ·exact .inr ⟨b,hb,w.trans (O.wy_rdrs k)⟩
end
theorem afp{l:List D}{d:D}(h:l.getLast? = some d):ixD (.list l) (.int (-1))=some d:=by
 obtain⟨u,rfl⟩:∃u,l=u++[d]:=by
  rcases List.eq_nil_or_concat l with rfl | ⟨u,x,rfl⟩
  ·cases h
  ·rw[List.concat_eq_append] at h ⊢
   simp at h
   subst h
   exact⟨u,rfl⟩
 show atI (u++[d]) (-1)=_
 unfold atI ixN
 simp only[List.length_append,List.length_singleton]
 rw[if_neg (by omega),if_pos (by omega)]
 show(u++[d])[_]? = _
 rw[show((-1+((u.length+1:Nat):Int)).toNat)=u.length by omega]
 simp
abbrev wyI:SF:=zg (sIf (bT (xOp (inD false) (xV 7) (xV 2))) (zg (ya (zY (jc (xV 6) (za (xV 7) zb)))) zv) zv) (zg (sIf (bT (Xm true 4 (xV 7))) (zg (QG 4 (xV 7) (xC (.bool true))) (zg (yI 5 (zY (jc (xV 6) (za (xV 7) zb)))) zv)) zv) zv)
abbrev wyM:SF:=zg (vd (zG (zy yJ (za (xV 0) (za (xOp ixD (xV 6) (xUn U6 (xC (.int 1)))) zb)))) (zh 7) [7] wyI) zv
abbrev wyB:SF:=zg (z9 5 (zY zb)) (zg (vd (zG (xV 3)) (zh 6) [7,6] wyM) (zg (z9 3 (xV 5)) zv))
def llS(ls:List (List Str)):D:=.list (ls.map lS)
def wE(S:Sht)(one other:List Str)(line:D)(seen:List Str)(later:Option D)(way:Option D):Env:=[some (shD S),some (tS one),some (tS other),some line,some (trD seen),later,way,none,none]
section
variable {S:Sht} (O:ShOk S) {one other:List Str} (h1:∀x∈one,x∈S.nms) (h2:∀x∈other,x∈S.nms)
include O h1 h2
theorem UR{line:D}{w:List Str}{a:Str}(hw:Pw S one w a)(hwl:w.length≤1000):∀(rs:List Str),(∀r∈rs,r∈S.rdrs a)→∀(seen:List Str) (later:List (List Str)),(∀x∈seen,x∈S.nms)→seen.Nodup→later.length+rs.length≤10000 →
  (∃r∈rs,r∈other∧wu (zh 7) [7] wyI (rs.map .str) (wE S one other line seen (some (llS later)) (some (lS w))) .none=some (.rt (lS (w++[r])) .none)) ∨
  ((∀r∈rs,r∉other)∧∃N,wu (zh 7) [7] wyI (rs.map .str) (wE S one other line seen (some (llS later)) (some (lS w))) .none=some (.nx (wE S one other line (seen++N) (some (llS (later++N.map fun r=>w++[r]))) (some (lS w))) .none)∧(seen++N).Nodup∧(∀x,x∈N↔x∈rs∧x∉seen)∧N.length≤rs.length)
 | [],_,seen,later,_,nd,_=>.inr ⟨by simp,[],by simp[wu],by simpa using nd,by simp,by simp⟩
 | r::rs,hr,seen,later,hs,nd,hlen=>by
  simp only[List.length_cons] at hlen
  have ra:=hr r (by simp)
  have okr:=O.ok_nms (O.rdrs_nm ra)
  let Z:Env:=[some (shD S),some (tS one),some (tS other),some line,some (trD seen),some (llS later),some (lS w),some (.str r),none]
  have ewr:zY (jc (xV 6) (za (xV 7) zb)) Z .none=some (lS (w++[r]),.none):=(z8 (jg (xs:=w.map .str) rfl rfl rfl) (by simp;omega)).trans (by simp[lS])
  have c1:bT (xOp (inD false) (xV 7) (xV 2)) Z .none=some (decide (r∈other),.none):=zP (zu rfl rfl (by rw[(ym (neg:=false) okr fun y hy=>O.ok_nms (h2 y hy)).2];rfl))
  by_cases ho:r∈other
  ·left
   refine⟨r,by simp,ho,?_⟩
   rw[decide_eq_true ho] at c1
   rw[List.map_cons]
   unfold wu
   show((wyI Z .none).bind _)=_
   rw[show wyI Z .none=some (.rt (lS (w++[r])) .none) from zL ((Qn c1).trans (zL (zZ ewr)))]
   rfl
  ·rw[decide_eq_false ho] at c1
   have c2:bT (Xm true 4 (xV 7)) Z .none=some (!decide (r∈seen),.none):=by
    refine zP ((ab8 (enc:=PyData.bool) (l:=seen.map fun x=>(x,true)) rfl rfl).trans ?_)
    rw[V1];rfl
   by_cases hsn:r∈seen
   ·rw[decide_eq_true hsn] at c2
    have st:wu (zh 7) [7] wyI ((r::rs).map .str) (wE S one other line seen (some (llS later)) (some (lS w))) .none=wu (zh 7) [7] wyI (rs.map .str) (wE S one other line seen (some (llS later)) (some (lS w))) .none:=by
     rw[List.map_cons]
     conv=>lhs;unfold wu
     show((wyI Z .none).bind _)=_
     rw[show wyI Z .none=some (.nx Z .none) from(zk ((wB c1).trans rfl)).trans ((zk ((wB c2).trans rfl)).trans rfl)]
     rfl
    rw[st]
    rcases UR hw hwl rs (fun r hr2=>hr r (List.mem_cons_of_mem _ hr2)) seen later hs nd (by omega) with⟨r',e1,e2,e3⟩ | ⟨e0,N,e1,e2,e3,e4⟩
    ·exact .inl ⟨r',List.mem_cons_of_mem _ e1,e2,e3⟩
    ·refine .inr ⟨fun x hx=>?_,N,e1,e2,fun y=>?_,by simp;omega⟩
     ·rcases List.mem_cons.mp hx with rfl | hx
      ·exact ho
      ·exact e0 x hx
     ·rw[e3,List.mem_cons]
      constructor
      ·rintro⟨z1,z2⟩;exact⟨.inr z1,z2⟩
      ·rintro⟨rfl | z1,z2⟩
       ·exact absurd hsn z2
       ·exact⟨z1,z2⟩
   ·rw[decide_eq_false hsn] at c2
    have nd2:(seen++[r]).Nodup:=by
     rw[List.nodup_append]
     exact⟨nd,by simp,fun x hx y hy e=>hsn (by rw[←List.mem_singleton.mp hy,←e];exact hx)⟩
    have sl:seen.length≤6:=Nat.le_trans (nd.length_le_of_subset hs) O.nms_len
    have b1:=WV (i:=4) (env:=Z) (g:=.none) (g1:=.none) (g2:=.none) (fv:=xC (.bool true)) (fk:=xV 7) (enc:=PyData.bool) (l:=seen.map fun x=>(x,true)) (k:=r) (v:=true) rfl rfl rfl (by rw[V1];exact hsn) (by rw[List.length_map];omega)
    rw[show(seen.map fun x=>(x,true))++[(r,true)]=(seen++[r]).map fun x=>(x,true) by simp] at b1
    let Z2:Env:=[some (shD S),some (tS one),some (tS other),some line,some (trD (seen++[r])),some (llS later),some (lS w),some (.str r),none]
    have ewr2:zY (jc (xV 6) (za (xV 7) zb)) Z2 .none=some (lS (w++[r]),.none):=(z8 (jg (xs:=w.map .str) rfl rfl rfl) (by simp;omega)).trans (by simp[lS])
    have st:wu (zh 7) [7] wyI ((r::rs).map .str) (wE S one other line seen (some (llS later)) (some (lS w))) .none=wu (zh 7) [7] wyI (rs.map .str) (wE S one other line (seen++[r]) (some (llS (later++[w++[r]]))) (some (lS w))) .none:=by
     rw[List.map_cons]
     conv=>lhs;unfold wu
     show((wyI Z .none).bind _)=_
     rw[show wyI Z .none=some (.nx [some (shD S),some (tS one),some (tS other),some line,some (trD (seen++[r])),some (llS (later++[w++[r]])),some (lS w),some (.str r),none] .none) from
      (zk ((wB c1).trans rfl)).trans ((zk ((Qn c2).trans ((zk (e:=Z2) (g1:=.none) b1).trans ((zk (jv (i:=5) (ds:=later.map lS) (d:=lS (w++[r])) (g1:=.none) rfl ewr2 (by rw[List.length_map];omega))).trans (by simp[llS,zv,Z2]))))).trans rfl)]
     rfl
    rw[st]
    rcases UR hw hwl rs (fun r hr2=>hr r (List.mem_cons_of_mem _ hr2)) (seen++[r]) (later++[w++[r]]) (fun x hx=>by
      rcases List.mem_append.mp hx with z | z
      ·exact hs x z
      ·rw[List.mem_singleton.mp z];exact O.rdrs_nm ra) nd2 (by simp;omega) with⟨r',e1,e2,e3⟩ | ⟨e0,N,e1,e2,e3,e4⟩
    ·exact .inl ⟨r',List.mem_cons_of_mem _ e1,e2,e3⟩
    ·refine .inr ⟨fun x hx=>?_,r::N,?_,by simpa using e2,fun y=>?_,by simp;omega⟩
     ·rcases List.mem_cons.mp hx with rfl | hx
      ·exact ho
      ·exact e0 x hx
     ·rw[e1];simp
     ·rw[List.mem_cons,e3,List.mem_cons,List.mem_append,List.mem_singleton]
      constructor
      ·rintro(rfl | ⟨z1,z2⟩)
       ·exact⟨.inl rfl,hsn⟩
       ·exact⟨.inr z1,fun z=>z2 (.inl z)⟩
      ·rintro⟨z1,z2⟩
       by_cases e:y=r
       ·exact .inl e
       ·exact .inr ⟨z1.resolve_left e,fun z=>z.elim z2 e⟩
theorem afq{line:D}(k:Nat):∀(ls:List (List Str)),(∀w∈ls,w.length≤1000∧∃a,Pw S one w a)→∀(seen:List Str) (later:List (List Str)),(∀x∈seen,x∈S.nms)→seen.Nodup→later.length+6*ls.length≤10000 →
  (∃w r,Pw S one (w++[r]) r∧w≠[]∧r∈other∧w.length≤1000∧wu (zh 6) [7,6] wyM (ls.map lS) (wE S one other line seen (some (llS later)) none) .none=some (.rt (lS (w++[r])) .none)) ∨
  ∃N M,wu (zh 6) [7,6] wyM (ls.map lS) (wE S one other line seen (some (llS later)) none) .none=some (.nx (wE S one other line (seen++N) (some (llS (later++M))) none) .none)∧(seen++N).Nodup∧(∀x∈N,x∈S.nms)∧M.length=N.length ∧
   (∀m∈M,∃w∈ls,∃r∈N,m=w++[r]∧Pw S one m r)∧(∀x∈N,∃m∈M,Pw S one m x)∧∀w∈ls,∀a,Pw S one w a→∀r∈S.rdrs a,r∉other∧(r∈seen∨r∈N)
 | [],_,seen,later,hs,nd,_=>.inr ⟨[],[],by simp[wu],by simpa using nd,by simp,rfl,by simp,by simp,by simp⟩
 | w::ls,hls,seen,later,hs,nd,hlen=>by
  obtain⟨hwl,a,hw⟩:=hls w (by simp)
  simp only[List.length_cons] at hlen
  have r6:=O.rdrs_len a
  obtain⟨u,eu⟩:=hw.last
  have nma:=(O.pw_nm h1 hw).2
  have it:zG (zy yJ (za (xV 0) (za (xOp ixD (xV 6) (xUn U6 (xC (.int 1)))) zb))) (wE S one other line seen (some (llS later)) (some (lS w))) .none=some ((S.rdrs a).map .str,.none):=by
   refine zI (d:=lS (S.rdrs a)) (zB (ds:=[shD S,.str a]) (zd rfl (zd (zu rfl rfl (afp (l:=w.map .str) (d:=.str a) (by rw[eu];simp))) rfl)) (Qa O (O.mem_tbs nma))) rfl
  have same:∀ {a':Str},Pw S one w a'→a'=a:=fun {a'} h=>by
   obtain⟨u',eu'⟩:=h.last
   rw[eu] at eu'
   have:=congrArg List.getLast? eu'
   simpa using this.symm
  rcases UR O h1 h2 (line:=line) hw hwl (S.rdrs a) (fun r hr=>hr) seen later hs nd (by omega) with⟨r,e1,e2,e3⟩ | ⟨e0,N,e1,e2,e3,e4⟩
  ·left
   refine⟨w,r,.snoc hw e1,by rw[eu];simp,e2,hwl,?_⟩
   rw[List.map_cons]
   unfold wu
   show((wyM (wE S one other line seen (some (llS later)) (some (lS w))) .none).bind _)=_
   rw[show wyM (wE S one other line seen (some (llS later)) (some (lS w))) .none=some (.rt (lS (w++[r])) .none) from zL (yT it e3)]
   rfl
  ·have nN:∀x∈N,x∈S.nms:=fun x hx=>O.rdrs_nm ((e3 x).mp hx).1
   have st:wu (zh 6) [7,6] wyM ((w::ls).map lS) (wE S one other line seen (some (llS later)) none) .none=wu (zh 6) [7,6] wyM (ls.map lS) (wE S one other line (seen++N) (some (llS (later++N.map fun r=>w++[r]))) none) .none:=by
    rw[List.map_cons]
    conv=>lhs;unfold wu
    show((wyM (wE S one other line seen (some (llS later)) (some (lS w))) .none).bind _)=_
    rw[show wyM (wE S one other line seen (some (llS later)) (some (lS w))) .none=some (.nx (wE S one other line (seen++N) (some (llS (later++N.map fun r=>w++[r]))) (some (lS w))) .none) from(zk (yT it e1)).trans rfl]
    rfl
   rw[st]
   have hs2:∀x∈seen++N,x∈S.nms:=fun x hx=>(List.mem_append.mp hx).elim (hs x) (nN x)
   rcases afq k ls (fun w hw=>hls w (List.mem_cons_of_mem _ hw)) (seen++N) (later++N.map fun r=>w++[r]) hs2 e2 (by simp;omega) with⟨w',r',f1,f2,f3,f4,f5⟩ | ⟨N2,M2,f1,f2,f3,f4,f5,f6,f7⟩
   ·exact .inl ⟨w',r',f1,f2,f3,f4,f5⟩
   ·refine .inr ⟨N++N2,(N.map fun r=>w++[r])++M2,by rw[f1];simp,by simpa using f2,fun x hx=>(List.mem_append.mp hx).elim (nN x) (f3 x),by simp[f4],fun m hm=>?_,fun x hx=>?_,fun w' hw' a' ha' r hr=>?_⟩
    ·rcases List.mem_append.mp hm with z | z
     ·obtain⟨r,hr,rfl⟩:=List.mem_map.mp z
      exact⟨w,by simp,r,List.mem_append_left _ hr,rfl,.snoc hw ((e3 r).mp hr).1⟩
     ·obtain⟨w',hw',r,hr,e,p⟩:=f5 m z
      exact⟨w',List.mem_cons_of_mem _ hw',r,List.mem_append_right _ hr,e,p⟩
    ·rcases List.mem_append.mp hx with z | z
     ·exact⟨w++[x],List.mem_append_left _ (List.mem_map.mpr ⟨x,z,rfl⟩),.snoc hw ((e3 x).mp z).1⟩
     ·obtain⟨m,hm,p⟩:=f6 x z
      exact⟨m,List.mem_append_right _ hm,p⟩
    ·rcases List.mem_cons.mp hw' with rfl | hw'
     ·rw[same ha'] at hr
      refine⟨e0 r hr,?_⟩
      by_cases z:r∈seen
      ·exact .inl z
      ·exact .inr (List.mem_append_left _ ((e3 r).mpr ⟨hr,z⟩))
     ·obtain⟨g1,g2⟩:=f7 w' hw' a' ha' r hr
      refine⟨g1,?_⟩
      rcases g2 with z | z
      ·rcases List.mem_append.mp z with z | z
       ·exact .inl z
       ·exact .inr (List.mem_append_left _ z)
      ·exact .inr (List.mem_append_right _ z)
end
abbrev wyT:BF:=bT (xOp neD (xV 3) (zY zb))
section
variable {S:Sht} (O:ShOk S) {one other:List Str} (h1:∀x∈one,x∈S.nms) (h2:∀x∈other,x∈S.nms)
include O h1 h2
theorem agk{ls:List (List Str)}(hls:∀w∈ls,w.length≤1000∧∃a,Pw S one w a):Gd 2 (llS ls):=.list fun d hd=>by
 obtain⟨w,hw,rfl⟩:=List.mem_map.mp hd
 obtain⟨_,a,p⟩:=hls w hw
 exact Gd.lS fun x hx=>O.ok_nms ((O.pw_nm h1 p).1 x hx)
theorem abi:∀(fuel:Nat) (ls:List (List Str)) (seen:List Str),(∀w∈ls,w.length≤seen.length+1∧∃a,Pw S one w a)→(∀x∈seen,x∈S.nms)→seen.Nodup→(∀x∈seen,x∉other)→ls.length≤20 →
  (∀y,(y∈one∨y∈seen)→(∃w∈ls,Pw S one w y)∨∀r∈S.rdrs y,r∉other∧r∈seen)→(ls=[]∧1≤fuel∨S.nms.length - seen.length+2≤fuel) →
  (∃w r,Pw S one (w++[r]) r∧w≠[]∧r∈other∧w.length≤1000∧jq wyT [5,7,6] wyB fuel (wE S one other (llS ls) seen none none) .none=some (.rt (lS (w++[r])) .none)) ∨
  ∃seen',jq wyT [5,7,6] wyB fuel (wE S one other (llS ls) seen none none) .none=some (.nx (wE S one other (llS []) seen' none none) .none)∧∀y,(y∈one∨y∈seen')→∀r∈S.rdrs y,r∉other∧r∈seen'
 | 0,ls,seen,_,_,_,_,_,_,hf=>by omega
 | n+1,ls,seen,hls,hs,nd,hso,h20,hc,hf=>by
  have sl:seen.length≤S.nms.length:=nd.length_le_of_subset hs
  have n6:=O.nms_len
  have hls':∀w∈ls,w.length≤1000∧∃a,Pw S one w a:=fun w hw=>⟨by have:=(hls w hw).1;omega,(hls w hw).2⟩
  have c:wyT (wE S one other (llS ls) seen none none) .none=some (!ls.isEmpty,.none):=by
   refine zP (zu rfl (z8 rfl (by simp)) ?_)
   have g:=agk O h1 h2 hls'
   unfold llS at g ⊢
   rw[JY g]
   simp
  cases hE:ls with
  | nil =>
   subst hE
   refine .inr ⟨seen,?_,fun y hy=>(hc y hy).resolve_left (by simp)⟩
   unfold jq
   rw[c];rfl
  | cons w0 l0 =>
   have ne:(!ls.isEmpty)=true:=by rw[hE];rfl
   rw[ne] at c
   have hfu:S.nms.length - seen.length+2≤n+1:=hf.resolve_left fun z=>by rw[hE] at z;simp at z
   rw[←hE]
   rcases afq O h1 h2 (line:=llS ls) 0 ls hls' seen [] hs nd (by simp;omega) with⟨w,r,e1,e2,e3,e4,e5⟩ | ⟨N,M,e1,e2,e3,e4,e5,e6,e7⟩
   ·left
    refine⟨w,r,e1,e2,e3,e4,?_⟩
    have body:wyB (wE S one other (llS ls) seen none none) .none=some (.rt (lS (w++[r])) .none):=(zk (e:=wE S one other (llS ls) seen (some (llS [])) none) (g1:=.none) (zU (z8 rfl (by simp)))).trans (zL (yT (zI (d:=llS ls) rfl rfl) e5))
    unfold jq
    rw[c,Option.bind_some]
    dsimp only
    rw[if_pos rfl,body]
    rfl
   ·have body:wyB (wE S one other (llS ls) seen none none) .none=some (.nx [some (shD S),some (tS one),some (tS other),some (llS M),some (trD (seen++N)),some (llS M),none,none,none] .none):=by
     rw[List.nil_append] at e1
     exact(zk (e:=wE S one other (llS ls) seen (some (llS [])) none) (g1:=.none) (zU (z8 rfl (by simp)))).trans ((zk (yT (zI (d:=llS ls) rfl rfl) e1)).trans ((zk (zU rfl)).trans rfl))
    have hN:∀x∈seen++N,x∈S.nms:=fun x hx=>(List.mem_append.mp hx).elim (hs x) (e3 x)
    have nl:(seen++N).length≤S.nms.length:=e2.length_le_of_subset hN
    rw[List.length_append] at nl
    have hseen:∀x∈N,x∉other:=fun x hx=>by
     obtain⟨m,hm,p⟩:=e6 x hx
     obtain⟨w,hw,r,hr,e,p2⟩:=e5 m hm
     obtain⟨u,eu⟩:=p.last
     have:r=x:=by
      rw[eu] at e
      have:=congrArg List.getLast? e
      simpa using this.symm
     subst this
     obtain⟨_,a,pa⟩:=hls w hw
     cases p2 with
     | base z =>
      -- w++[r]=[r]:w is empty
      obtain⟨u2,eu2⟩:=pa.last
      have:=congrArg List.length e
      rw[eu,eu2] at this
      simp at this
      have e9:w=[]:=by
       have:=congrArg List.length (show [r]=w++[r] from by simpa using e)
       simp at this
       exact this
      rw[e9] at eu2
      simp at eu2
     | snoc q1 q2 =>
      rename_i w1 a1
      have e8:w1=w:=by
       have:=congrArg List.dropLast e
       simpa using this
      subst e8
      exact(e7 w1 hw a1 q1 r q2).1
    have go:=abi n M (seen++N) (fun m hm=>by
      obtain⟨w,hw,r,hr,rfl,p⟩:=e5 m hm
      have:=(hls w hw).1
      have n1:1≤N.length:=List.length_pos_of_mem hr
      exact⟨by simp only[List.length_append,List.length_singleton];omega,r,p⟩) hN e2 (fun x hx=>(List.mem_append.mp hx).elim (hso x) (hseen x)) (by omega) (fun y hy=>by
      have old:(∃w∈ls,Pw S one w y)→∀r∈S.rdrs y,r∉other∧r∈seen++N:=fun⟨w,hw,p⟩ r hr=>by
       obtain⟨g1,g2⟩:=e7 w hw y p r hr
       exact⟨g1,List.mem_append.mpr g2⟩
      have key:(y∈one∨y∈seen)∨y∈N:=by
       rcases hy with h | h
       ·exact .inl (.inl h)
       ·exact(List.mem_append.mp h).imp .inr id
      rcases key with h | h
      ·rcases hc y h with z | z
       ·exact .inr (old z)
       ·exact .inr fun r hr=>⟨(z r hr).1,List.mem_append_left _ (z r hr).2⟩
      ·obtain⟨m,hm,p⟩:=e6 y h
       exact .inl ⟨m,hm,p⟩) (by
      by_cases z:M=[]
      ·exact .inl ⟨z,by omega⟩
      ·right
       have:M.length≠0:=fun q=>z (List.eq_nil_of_length_eq_zero q)
       rw[List.length_append]
       omega)
    have step:jq wyT [5,7,6] wyB (n+1) (wE S one other (llS ls) seen none none) .none=jq wyT [5,7,6] wyB n (wE S one other (llS M) (seen++N) none none) .none:=by
     conv=>lhs;unfold jq
     rw[c,Option.bind_some]
     dsimp only
     rw[if_pos rfl,body]
     rfl
    rw[step]
    exact go
theorem Ik(hl:one.length≤20):∃d,Qr [shD S,tS one,tS other]=some d ∧
  ((d=.none∧¬∃a∈one,∃b∈other,Wy S a b)∨∃w r,d=lS (w++[r])∧Pw S one (w++[r]) r∧w≠[]∧r∈other∧w.length≤1000):=by
 have n6:=O.nms_len
 have a1:JC [3,4] (za (xLc (zG (xV 1)) (zh 8) vh (zY (za (xV 8) zb)) [8]) (za xE0 zb)) [some (shD S),some (tS one),some (tS other),none,none,none,none,none,none] .none=some (.nx (wE S one other (llS (one.map fun x=>[x])) [] none none) .none):=by
  have c:=ja (fi:=zG (xV 1)) (hg:=zh 8) (ff:=zY (za (xV 8) zb)) (vs:=[8]) (env:=[some (shD S),some (tS one),some (tS other),none,none,none,none,none,none]) (g:=.none) (g1:=.none) PyData.str (fun x=>lS [x]) (xs:=one) (zI (d:=tS one) rfl rfl) (fun x hx=>⟨_,rfl,z8 (zd rfl rfl) (by simp)⟩) (by omega)
  unfold JC
  rw[zd c (zd (a:=.dict []) (g1:=.none) rfl rfl)]
  simp[IN,wE,llS,trD,alD,Function.comp_def]
 rcases abi O h1 h2 Uu (one.map fun x=>[x]) [] (fun w hw=>by
   obtain⟨x,hx,rfl⟩:=List.mem_map.mp hw
   exact⟨by simp,x,.base hx⟩) (by simp) List.nodup_nil (by simp) (by rw[List.length_map];exact hl) (fun y hy=>.inl ⟨[y],List.mem_map.mpr ⟨y,hy.resolve_right (by simp),rfl⟩,.base (hy.resolve_right (by simp))⟩) (.inr (by unfold Uu;omega)) with⟨w,r,e1,e2,e3,e4,e5⟩ | ⟨seen,e1,e2⟩
 ·refine⟨lS (w++[r]),yp (g:=.none) ?_,.inr ⟨w,r,rfl,e1,e2,e3,e4⟩⟩
  show VE Uu [some (shD S),some (tS one),some (tS other),none,none,none,none,none,none] .none=_
  unfold VE
  exact(zk a1).trans (zL e5)
 ·refine⟨.none,yp (g:=.none) ?_,.inl ⟨rfl,?_⟩⟩
  ·show VE Uu [some (shD S),some (tS one),some (tS other),none,none,none,none,none,none] .none=_
   unfold VE
   exact(zk a1).trans ((zk e1).trans (zL (zZ rfl)))
  ·rintro⟨a,ha,b,hb,w⟩
   have key:∀ {a c:Str},Wy S a c→(a∈one∨a∈seen)→a∈S.nms→c∉other∧c∈seen:=by
    intro a c w
    induction w with
    | one z1 z2=>exact fun h hn=>e2 _ h _ (O.mem_rdrs.mpr ⟨z1,z2⟩)
    | step w z1 z2 ih=>exact fun h hn=>e2 _ (.inr (ih h hn).2) _ (O.mem_rdrs.mpr ⟨z1,z2⟩)
   exact(key w (.inl ha) (h1 a ha)).1 hb
end
section
structure Sh(m:Nat)(d:D):Prop where
 a:d.showable=true
 b:okS d.shown=true
 c:d.shown.length≤m
theorem Sh.mono{m n:Nat}{d:D}(h:Sh m d)(hn:m≤n):Sh n d:=⟨h.a,h.b,Nat.le_trans h.c hn⟩
theorem QQ(x y:Str):okS (x++y)=(okS x&&okS y):=by
 show(x.cps++y.cps).all _=_
 rw[Array.all_append]
 rfl
theorem adc:∀(ts:List Str) (k:Nat) (acc:Str),okS acc=true→(∀t∈ts,okS t=true)→okS (textFrom k acc ts)=true
 | [],_,_,h,_=>h
 | t::ts,k,acc,h,hs=>by
  unfold textFrom
  refine adc ts _ _ ?_ fun x hx=>hs x (List.mem_cons_of_mem _ hx)
  rw[QQ,QQ,h,hs t (by simp)]
  split <;> decide +kernel
theorem ade:∀(ts:List Str) (k m:Nat) (acc:Str),(∀t∈ts,t.length≤m)→(textFrom k acc ts).length≤acc.length+ts.length*(m+2)
 | [],_,_,_,_=>by unfold textFrom;simp
 | t::ts,k,m,acc,h=>by
  unfold textFrom
  have i:=ade ts (k+1) m (acc++(if k>0 then ", " else "" : String)++t) fun x hx=>h x (List.mem_cons_of_mem _ hx)
  rw[strLen_append,strLen_append] at i
  have ht:=h t (by simp)
  have e:((if k>0 then ", " else "" : String):Str).length≤2:=by split <;> decide +kernel
  rw[List.length_cons,Nat.add_mul]
  omega
theorem Il:∀(ts:List Str),(∀t∈ts,okS t=true)→okS (Str.join ", " ts)=true
 | [],_=>by decide +kernel
 | [x],h=>h x (by simp)
 | x::y::r,h=>by
  show okS (x ++ ", " ++ Str.join ", " (y::r))=true
  rw[QQ,QQ,h x (by simp),Il (y::r) fun t ht=>h t (List.mem_cons_of_mem _ ht)]
  decide +kernel
theorem Im(m:Nat):∀(ts:List Str),(∀t∈ts,t.length≤m)→(Str.join ", " ts).length≤ts.length*(m+2)
 | [],_=>by
  show(Str.join ", " []).length≤_
  have:(Str.join ", " []).length=0:=by decide +kernel
  omega
 | [x],h=>by have:=h x (by simp);show x.length≤_;simp;omega
 | x::y::r,h=>by
  show(x ++ ", " ++ Str.join ", " (y::r)).length≤_
  have i:=Im m (y::r) fun t ht=>h t (List.mem_cons_of_mem _ ht)
  have hx:=h x (by simp)
  have e:((", " : String):Str).length=2:=by decide +kernel
  rw[strLen_append,strLen_append,e,List.length_cons,Nat.add_mul]
  omega
theorem jR:∀ds:List D,PyData.shownAll ds=ds.map PyData.shown
 | []=>by rw[PyData.shownAll];rfl
 | d::ds=>by rw[PyData.shownAll,jR ds];rfl
theorem JM:∀ {ds:List D},(∀d∈ds,d.showable=true)→PyData.showableAll ds=true
 | [],_=>by rw[PyData.showableAll]
 | d::ds,h=>by rw[PyData.showableAll,h d (by simp),JM fun e he=>h e (List.mem_cons_of_mem _ he)];rfl
variable {m:Nat} {ds:List D}
theorem Sh.list(h:∀d∈ds,Sh m d):Sh (2+ds.length*(m+2)) (.list ds):=by
 have h1:∀t∈ds.map PyData.shown,okS t=true:=fun t ht=>by
  obtain⟨d,hd,rfl⟩:=List.mem_map.mp ht
  exact(h d hd).b
 have h2:∀t∈ds.map PyData.shown,t.length≤m:=fun t ht=>by
  obtain⟨d,hd,rfl⟩:=List.mem_map.mp ht
  exact(h d hd).c
 refine⟨by rw[PyData.showable];exact JM fun d hd=>(h d hd).a,?_,?_⟩
 ·rw[PyData.shown,jR]
  unfold listText
  rw[QQ,adc _ _ _ (by decide +kernel) h1]
  decide +kernel
 ·rw[PyData.shown,jR]
  unfold listText
  have i:=ade _ 0 m "[" h2
  have e1:(("[" : String):Str).length=1:=by decide +kernel
  have e2:(("]" : String):Str).length=1:=by decide +kernel
  rw[strLen_append,e2]
  rw[e1,List.length_map] at i
  omega
theorem Sh.tuple(h:∀d∈ds,Sh m d):Sh (3+ds.length*(m+2)) (.tuple ds):=by
 have h1:∀t∈ds.map PyData.shown,okS t=true:=fun t ht=>by
  obtain⟨d,hd,rfl⟩:=List.mem_map.mp ht
  exact(h d hd).b
 have h2:∀t∈ds.map PyData.shown,t.length≤m:=fun t ht=>by
  obtain⟨d,hd,rfl⟩:=List.mem_map.mp ht
  exact(h d hd).c
 refine⟨by rw[PyData.showable];exact JM fun d hd=>(h d hd).a,?_,?_⟩
 ·rw[PyData.shown,jR]
  unfold tupleText
  rw[QQ,QQ,Il _ h1]
  split <;> decide +kernel
 ·rw[PyData.shown,jR]
  unfold tupleText
  have i:=Im m _ h2
  have e1:(("(" : String):Str).length=1:=by decide +kernel
  have e2:((if((ds.map PyData.shown).length == 1)=true then ",)" else ")" : String):Str).length≤2:=by split <;> decide +kernel
  rw[strLen_append,strLen_append,e1]
  rw[List.length_map] at i
  omega
theorem Sh.bool(b:Bool):Sh 8 (.bool b):=by
 cases b <;> exact⟨by decide +kernel,by decide +kernel,by decide +kernel⟩
theorem Sh.lS{l:List Str}(h:∀x∈l,Sh m (.str x)):Sh (2+l.length*(m+2)) (lS l):=by
 have:=Sh.list (m:=m) (ds:=l.map .str) fun d hd=>by
  obtain⟨x,hx,rfl⟩:=List.mem_map.mp hd
  exact h x hx
 rwa[List.length_map] at this
variable {n k:Nat} {d e:D}
end
theorem abj{m n:Nat}{d:D}(g:Gd n d)(s:Sh m d)(hn:n≤64:=by omega)(hm:m≤16000000:=by omega):YF [d]=some (.str d.shown):=by
 have hc:decide (d.shown.length≤sizeLine)=true:=by
  have:=s.c
  rw[sizeLine_eq]
  exact decide_eq_true (by omega)
 show(if(d.showable&&dOk d&&decide (d.shown.length≤sizeLine))=true then _ else _)=_
 rw[s.a,g.dOk hn,hc]
 rfl
theorem ae2{m n:Nat}{d:D}(g:Gd n d)(s:Sh m d)(hn:n≤64:=by omega)(hm:m≤16000000:=by omega):zQ [d,d]=some (.bool true):=by
 have r:=abj g s hn hm
 refine yp (g:=.none) ?_
 refine(zL (zZ ((age (zu rfl rfl ?_)).trans (zu (yg (zd rfl rfl) r) (yg (zd rfl rfl) r) ?_)))).trans rfl
 ·rw[UC g g hn hn,SeqAt.eqv_refl d g.b]
 ·rw[UC (Gd.str (n:=0) s.b) (Gd.str (n:=0) s.b),XG]
  simp
theorem Yz:∀l:List Str,yD (l.map PyData.str)=[]
 | []=>rfl
 | x::l=>by rw[List.map_cons,yD,Yz l];simp[yh]
theorem afr(l:List Str):yh (lS l)=[lS l]:=by rw[lS,yh,Yz]
theorem JN(l:List Str):yh (tS l)=[]:=by rw[tS,yh,Yz]
theorem WW{α:Type}(f:α→D)(h:∀x,yh (f x)=[]):∀l:List α,yD (l.map f)=[]
 | []=>rfl
 | x::l=>by rw[List.map_cons,yD,WW f h l,h];rfl
theorem agl(S:Sht):yh (shD S)=[]:=by
 show yh (.tuple [.tuple (S.ins.map yw),.tuple (S.sms.map smD),tS S.outs])=[]
 rw[yh,yD,yD,yD,yD,JN,yh,yh,WW yw (fun s=>?_),WW smD (fun s=>?_)]
 ·rfl
 ·show yh (.tuple [.str s.1,tS s.2.1,tS s.2.2])=[]
  rw[yh,yD,yD,yD,yD,JN,JN];simp[yh]
 ·show yh (.tuple [.str s.1,tS s.2])=[]
  rw[yh,yD,yD,yD,JN];simp[yh]
theorem ai9{q r:List Str}(h:lS q=lS r):q=r:=by
 have h2:=PyData.list.inj h
 exact(List.map_inj_right fun a b e=>PyData.str.inj e).mp h2
theorem agm{neg:Bool}{q:Str×Str}{E:List (Str×Str)}(hq:okS q.1=true∧okS q.2=true)(hE:∀e∈E,okS e.1=true∧okS e.2=true):inD neg (abD q) (.list (E.map abD))=some (.bool (if neg then !decide (q∈E) else decide (q∈E))):=by
 have e:inL neg (abD q) (E.map abD)=_:=af9 (n:=2) (ack hq.1 hq.2) (m:=2) fun x hx=>by
  obtain⟨e,he,rfl⟩:=List.mem_map.mp hx
  exact ack (hE e he).1 (hE e he).2
 show inL neg (abD q) (E.map abD)=_
 rw[e]
 have key:((E.map abD).any fun z=>PyData.eqv z (abD q))=decide (q∈E):=by
  rw[Bool.eq_iff_iff,List.any_eq_true,decide_eq_true_eq]
  constructor
  ·rintro⟨z,hz,h⟩
   obtain⟨x,hx,rfl⟩:=List.mem_map.mp hz
   have h:PyData.eqv (tS [x.1,x.2]) (tS [q.1,q.2])=true:=h
   rw[af7,decide_eq_true_eq] at h
   simp only[List.cons.injEq,and_true] at h
   have:x=q:=Prod.ext h.1 h.2
   rw[←this];exact hx
  ·intro h
   refine⟨abD q,List.mem_map.mpr ⟨q,h,rfl⟩,?_⟩
   show PyData.eqv (tS [q.1,q.2]) (tS [q.1,q.2])=true
   rw[af7];simp
 rw[key]
def V7(S:Sht)(one other:List Str):Bool:=one.any fun a=>(S.bel a).any fun b=>decide (b∈other)
theorem Wq{l:List Str}{p:Str→Bool}:(!(l.filter p).isEmpty)=l.any p:=by
 rw[Bool.eq_iff_iff,Bool.not_eq_true',List.isEmpty_eq_false_iff_exists_mem,List.any_eq_true]
 simp only[List.mem_filter]
theorem aia:∀x∈adW,Sh 12 (.str x):=by
 have h:adW.all (fun x=>(PyData.str x:PyData).showable&&okS (PyData.str x:PyData).shown&&decide ((PyData.str x:PyData).shown.length≤12))=true:=by decide +kernel
 intro x hx
 have:=List.all_eq_true.mp h x hx
 simp only[Bool.and_eq_true,decide_eq_true_eq] at this
 exact⟨this.1.1,this.1.2,this.2⟩
structure Told(S:Sht)(one other:List Str)(w:List Str):Prop where
 p:∃u r,w=u++[r]∧u≠[]∧Pw S one w r∧r∈other
 l:w.length≤1001
section
variable {S:Sht} (O:ShOk S) {one other:List Str} (h1:∀x∈one,x∈S.nms) (h2:∀x∈other,x∈S.nms)
include O
theorem ShOk.wayB_iff:V7 S one other=true↔∃a∈one,∃b∈other,Wy S a b:=by
 unfold V7
 simp only[List.any_eq_true,decide_eq_true_eq,O.mem_bel]
 constructor
 ·rintro⟨a,ha,b,w,hb⟩;exact⟨a,ha,b,hb,w⟩
 ·rintro⟨a,ha,b,hb,w⟩;exact⟨a,ha,b,w,hb⟩
include h1 h2
theorem abk(hl:one.length≤20):yL [shD S,tS one,tS other]=some (.bool (V7 S one other)):=by
 refine yp (g:=.none) ?_
 show XV [some (shD S),some (tS one),some (tS other),none,none] .none=_
 have c:=vK (fi:=zG (xV 1)) (hg:=zh 3) (tt:=bT (xOp neD (xLc (zG (zy yK (za (xV 0) (za (xV 3) zb)))) (zh 4) (bT (xOp (inD false) (xV 4) (xV 2))) (xV 4) [4]) (zY zb))) (ff:=xV 3) (vs:=[3]) (env:=[some (shD S),some (tS one),some (tS other),none,none]) (g:=.none) (g1:=.none)
  (fun a=>(S.bel a).any fun b=>decide (b∈other)) (xs:=one) (zI (d:=tS one) rfl rfl) (fun a ha=>⟨_,rfl,by
   have b6:=O.bel_le a
   have ok:=O.ok_nms (h1 a ha)
   have c:=vK (fi:=zG (zy yK (za (xV 0) (za (xV 3) zb)))) (hg:=zh 4) (tt:=bT (xOp (inD false) (xV 4) (xV 2))) (ff:=xV 4) (vs:=[4]) (env:=[some (shD S),some (tS one),some (tS other),some (.str a),none]) (g:=.none) (g1:=.none)
    (fun b=>decide (b∈other)) (xs:=S.bel a) (zI (zB rfl (If O ok)) rfl) (fun b hb=>⟨_,rfl,zP (zu rfl rfl (by rw[(ym (neg:=false) (O.ok_nms (O.mem_bel.mp hb).nm) fun y hy=>O.ok_nms (h2 y hy)).2];rfl)),fun _=>rfl⟩) (by omega)
   refine zP (zu c (z8 rfl (by simp)) ?_)
   unfold lS
   rw[JY (Gd.lS fun y hy=>O.ok_nms (O.mem_bel.mp (List.mem_filter.mp hy).1).nm),←Wq]
   simp,fun _=>rfl⟩) (by omega)
 refine zL (zZ (zu c (z8 rfl (by simp)) ?_))
 unfold lS
 rw[JY (Gd.lS fun y hy=>O.ok_nms (h1 y (List.mem_filter.mp hy).1))]
 unfold V7
 rw[←Wq]
 simp
theorem Io{w:List Str}(T:Told S one other w):vn [shD S,lS w,tS one,tS other]=some (.bool true):=by
 obtain⟨u,r,rfl,hu,p,hr⟩:=T.p
 obtain⟨a,ha,v,ev⟩:=p.head
 have nms:=(O.pw_nm h1 p).1
 have len2:2≤(u++[r]).length:=by
  have:u.length≠0:=fun z=>hu (List.eq_nil_of_length_eq_zero z)
  simp;omega
 have lw:=T.l
 have okw:∀x∈u++[r],okS x=true:=fun x hx=>O.ok_nms (nms x hx)
 refine yp (g:=.none) ?_
 show Wo [some (shD S),some (lS (u++[r])),some (tS one),some (tS other),none] .none=_
 have e0:ixD (lS (u++[r])) (.int 0)=some (.str a):=by
  rw[ev];exact ahT _ _
 have e1:ixD (lS (u++[r])) (.int (-1))=some (.str r):=afp (by simp)
 have c1:bOr (v8 (bT (JQ "list" (xV 1)))) (bOr (bT (xOp ltD (xCB wx (za (xV 1) zb)) (xC (.int 2)))) (bOr (bT (xOp (inD true) (xOp ixD (xV 1) (xC (.int 0))) (xV 2))) (bT (xOp (inD true) (xOp ixD (xV 1) (xUn U6 (xC (.int 1)))) (xV 3))))) [some (shD S),some (lS (u++[r])),some (tS one),some (tS other),none] .none=some (false,.none):=by
  refine wC (c:=false) (c2:=false) (wN (zP (afd rfl))) fun _=>wC (c:=false) (c2:=false) (zP (zu (yg (zd rfl rfl) rfl) rfl ?_)) fun _=>wC (c:=false) (c2:=false) (zP (zu (zu rfl rfl e0) rfl ?_)) fun _=>zP (zu (zu rfl rfl e1) rfl ?_)
  ·rw[agd,List.length_map]
   simp only[Option.some.injEq,PyData.bool.injEq,decide_eq_false_iff_not]
   omega
  ·rw[(ym (neg:=true) (O.ok_nms (h1 a ha)) fun y hy=>O.ok_nms (h1 y hy)).2]
   simp[ha]
  ·rw[(ym (neg:=true) (O.ok_nms (h2 r hr)) fun y hy=>O.ok_nms (h2 y hy)).2]
   simp[hr]
 -- each two in a row are a meeting pair
 have chain:∀ {w:List Str} {b:Str},Pw S one w b→∀k,1≤k→k<w.length→∃x y,w[k - 1]? = some x∧w[k]? = some y∧(x,y)∈S.prs:=by
  intro w b p
  induction p with
  | base h=>intro k h1 h2;simp at h2;omega
  | snoc p q ih =>
   rename_i w0 a0 b0
   intro k hk1 hk2
   rw[List.length_append,List.length_singleton] at hk2
   by_cases z:k<w0.length
   ·obtain⟨x,y,q1,q2,q3⟩:=ih k hk1 z
    exact⟨x,y,by rw[List.getElem?_append_left (by omega)];exact q1,by rw[List.getElem?_append_left z];exact q2,q3⟩
   ·have hk:k=w0.length:=by omega
    obtain⟨u0,e0⟩:=p.last
    refine⟨a0,b0,?_,?_,O.mem_prs.mpr ⟨O.rdrs_nm q,(O.pw_nm h1 p).2,(O.mem_rdrs.mp q).2⟩⟩
    ·rw[List.getElem?_append_left (by omega),hk,e0]
     simp
    ·rw[hk];simp
 have it:aaH (za (xC (.int 1)) (za (xCB wx (za (xV 1) zb)) zb)) [some (shD S),some (lS (u++[r])),some (tS one),some (tS other),none] .none=some ((List.range' 1 ((u++[r]).length - 1)).map fun j:Nat=>.int (j:Nat),.none):=by
  have lk:wx [lS (u++[r])]=some (.int ((u++[r]).length:Nat)):=by
   show some (PyData.int ((u++[r]).map PyData.str).length)=_
   rw[List.length_map]
  unfold aaH
  rw[zd (a:=.int 1) (g1:=.none) rfl (zd (a:=.int ((u++[r]).length:Nat)) (g1:=.none) (yg (zd rfl rfl) lk) rfl),Option.bind_some]
  dsimp only
  rw[if_pos (by rw[decide_eq_true_eq];omega)]
  unfold J4
  rw[show(((u++[r]).length:Nat) - 1:Int).toNat=(u++[r]).length - 1 by omega,List.range'_eq_map_range,List.map_map]
  rfl
 have c2:=QN (fi:=aaH (za (xC (.int 1)) (za (xCB wx (za (xV 1) zb)) zb))) (hg:=zh 4) (tt:=bT (xOp (inD true) (zV (za (xOp ixD (xV 1) (xOp Ix (xV 4) (xC (.int 1)))) (za (xOp ixD (xV 1) (xV 4)) zb))) (zy vI (za (xV 0) zb)))) (ff:=xV 4) (vs:=[4]) (env:=[some (shD S),some (lS (u++[r])),some (tS one),some (tS other),none]) (g:=.none) (g1:=.none)
  (fun j:Nat=>.int (j:Nat)) (fun _=>false) (fun j:Nat=>.int (j:Nat)) (xs:=List.range' 1 ((u++[r]).length - 1)) it (fun j hj=>⟨_,rfl,by
   rw[List.mem_range'_1] at hj
   obtain⟨x,y,q1,q2,q3⟩:=chain p j hj.1 (by omega)
   have hq:=O.mem_prs.mp q3
   have okx:=O.ok_nms hq.2.1
   have oky:=O.ok_nms hq.1
   refine zP (zu (a:=abD (x,y)) (zX (zd (zu (a:=lS (u++[r])) (b:=.int ((j - 1:Nat):Int)) rfl (zu rfl rfl (by show some (PyData.int ((j:Int) - 1))=_;rw[show((j - 1:Nat):Int)=(j:Int) - 1 by omega])) (ixL (k:=j - 1) (by rw[List.getElem?_map,q1];rfl))) (zd (zu rfl rfl (ixL (k:=j) (by rw[List.getElem?_map,q2];rfl))) rfl)) (by simp)) (zB rfl (adY O)) ?_)
   rw[agm (neg:=true) ⟨okx,oky⟩ fun e he=>by
    have:=O.mem_prs.mp he
    exact⟨O.ok_nms this.2.1,O.ok_nms this.1⟩]
   simp[q3],fun h=>by cases h⟩) (by rw[List.length_range'];omega)
 rw[List.filter_eq_nil_iff.mpr (by simp)] at c2
 refine(zk ((wB c1).trans rfl)).trans (zL (zZ (zu c2 (z8 rfl (by simp)) ?_)))
 rfl
end
end KP
namespace KP
open PySem PySem.Spec PyProof.Rows L2
section
variable {f fa fb fc:XF} {s s1 s2 s3:SF} {env e e1:Env} {g g1 g2 g3 d a b d2:D} {t h:BF} {r:Option SR} {i j k:Nat} {c:Bool} {fl fr:LF} {ds es xs:List D} {rb:Option (Bool×D)} {rx:Option (D×D)}
theorem afs(h1:fa env g=some (.bool true,g1))(h2:fb env g1=rx):Qe fa fb env g=rx:=by unfold Qe;rw[h1];exact h2
theorem aft(h1:fa env g=some (.bool false,g1)):Qe fa fb env g=some (.bool false,g1):=by unfold Qe;rw[h1];rfl
theorem agn(h1:fa env g=some (.bool false,g1))(h2:fb env g1=rx):afN fa fb env g=rx:=by unfold afN;rw[h1];exact h2
end
end KP
namespace KP
open PySem PySem.Spec PyProof.Rows L2 PL
theorem Pw.cut{S:Sht}{one w:List Str}{b:Str}(p:Pw S one (w++[b]) b)(hw:w≠[]):∃a,Pw S one w a∧b∈S.rdrs a:=by
 generalize hx:w++[b]=x at p
 cases p with
 | base h =>
  have:=congrArg List.length hx
  simp at this
  exact absurd this hw
 | snoc p q =>
  have:=congrArg List.dropLast hx
  simp at this
  subst this
  exact⟨_,p,q⟩
def Wr(w v:List Str):D:=.tuple [lS w,lS v]
section
variable {S:Sht} (O:ShOk S) {one other:List Str} (h1:∀x∈one,x∈S.nms) (h2:∀x∈other,x∈S.nms) (l1:one.length≤20) (l2:other.length≤20)
include O h1 h2 l1 l2
theorem ago:∃d,yF [shD S,tS one,tS other]=some d∧((d=.none∧(V7 S one other&&V7 S other one)=false)∨∃w v,d=Wr w v∧Told S one other w∧Told S other one v∧(V7 S one other&&V7 S other one)=true):=by
 obtain⟨d1,a1,a2⟩:=Ik O h1 h2 l1
 obtain⟨d2,b1,b2⟩:=Ik O h2 h1 l2
 have start:∀d,xIf (bOr (bT (xOp abU (xV 3) (xC .none))) (bT (xOp abU (xV 4) (xC .none)))) (xC .none) (zV (za (xV 3) (za (xV 4) zb))) [some (shD S),some (tS one),some (tS other),some d1,some d2] .none=some (d,.none)→yF [shD S,tS one,tS other]=some d:=fun d h=>by
  refine yp (g:=.none) ?_
  exact(zk (jh (zB rfl a1) (zB rfl b1))).trans (zL (zZ h))
 have no:∀ {A B:List Str},(¬∃a∈A,∃b∈B,Wy S a b)→V7 S A B=false:=fun {A B} h=>by
  cases e:V7 S A B with
  | false=>rfl
  | true=>exact absurd (O.wayB_iff.mp e) h
 have yes:∀ {A B:List Str} {w:List Str} {r:Str},Pw S A (w++[r]) r→w≠[]→r∈B→V7 S A B=true:=fun {A B w r} p hw hr=>by
  rw[O.wayB_iff]
  obtain⟨c,q1,q2⟩:=p.cut hw
  rcases O.pw_wy q1 with z | ⟨b,hb,z⟩
  ·exact⟨_,z,r,hr,O.wy_rdrs q2⟩
  ·exact⟨b,hb,r,hr,z.trans (O.wy_rdrs q2)⟩
 rcases a2 with⟨rfl,a3⟩ | ⟨w,r,rfl,p1,w1,r1,wl⟩
 ·refine⟨.none,start _ ((YS (wC (c:=true) (c2:=true) (zP (zu rfl rfl rfl)) fun h=>by cases h)).trans rfl),.inl ⟨rfl,by rw[no a3];rfl⟩⟩
 ·rcases b2 with⟨rfl,b3⟩ | ⟨v,s,rfl,p2,v1,s1,vl⟩
  ·refine⟨.none,start _ ((YS (wC (c:=false) (c2:=true) (zP (zu rfl rfl rfl)) fun _=>zP (zu rfl rfl rfl))).trans rfl),.inl ⟨rfl,by rw[no b3,Bool.and_false]⟩⟩
  ·refine⟨Wr (w++[r]) (v++[s]),start _ ((Ub (wC (c:=false) (c2:=false) (zP (zu rfl rfl rfl)) fun _=>zP (zu rfl rfl rfl))).trans (zX rfl (by simp))),.inr ⟨_,_,rfl,⟨⟨w,r,rfl,w1,p1,r1⟩,by simp;omega⟩,⟨⟨v,s,rfl,v1,p2,s1⟩,by simp;omega⟩,by rw[yes p1 w1 r1,yes p2 v1 s1];rfl⟩⟩
omit l1 l2 h2 in
theorem ShOk.told_nm{w:List Str}(T:Told S one other w):∀x∈w,x∈S.nms:=by
 obtain⟨u,r,rfl,_,p,_⟩:=T.p
 exact(O.pw_nm h1 p).1
omit l1 l2 h2 in
theorem ShOk.told_sh{w:List Str}(T:Told S one other w):Sh 15000 (lS w)∧Gd 1 (lS w):=by
 have nm:=O.told_nm h1 T
 have:=T.l
 exact⟨(Sh.lS fun x hx=>aia x (O.nm x (O.mem_tbs (nm x hx)))).mono (by omega),Gd.lS fun x hx=>O.ok_nms (nm x hx)⟩
theorem Gb(dj:∀x∈one,x∉other):yv [shD S,tS one,tS other]=some (.bool false):=by
 obtain⟨d,r1,r2⟩:=ago O h1 h2 l1 l2
 have e1:=abk O h1 h2 l1
 have e2:=abk O h2 h1 l2
 have c2:Qe (zy yL (za (xV 0) (za (xV 1) (za (xV 2) zb)))) (zy yL (za (xV 0) (za (xV 2) (za (xV 1) zb)))) [some (shD S),some (tS one),some (tS other),none,none,none] .none=some (.bool (V7 S one other&&V7 S other one),.none):=by
  cases hb:V7 S one other with
  | true =>
   rw[hb] at e1
   rw[Bool.true_and]
   exact afs (zB rfl e1) (zB rfl e2)
  | false =>
   rw[hb] at e1
   exact aft (zB rfl e1)
 have sub0:∀a∈[shD S,tS one,tS other],yh a=[]:=fun a ha=>by
  simp only[List.mem_cons,List.not_mem_nil,or_false] at ha
  rcases ha with rfl | rfl | rfl
  ·exact agl S
  ·exact JN one
  ·exact JN other
 have par:∀ {b:Bool},Xj [shD S,tS one,tS other] d→(V7 S one other&&V7 S other one)=b→JC [4,5] (za (Ua yF (za (xV 0) (za (xV 1) (za (xV 2) zb)))) (za (Qe (zy yL (za (xV 0) (za (xV 1) (za (xV 2) zb)))) (zy yL (za (xV 0) (za (xV 2) (za (xV 1) zb))))) zb)) [some (shD S),some (tS one),some (tS other),none,none,none] .none=some (.nx [some (shD S),some (tS one),some (tS other),none,some d,some (.bool b)] .none):=fun {b} f hb=>by
  rw[hb] at c2
  unfold JC
  rw[zd (adz (ds:=[shD S,tS one,tS other]) (g1:=.none) rfl r1 f) (zd c2 rfl)]
  rfl
 refine yp (g:=.none) ?_
 show JZ [some (shD S),some (tS one),some (tS other),none,none,none] .none=_
 rcases r2 with⟨rfl,hb⟩ | ⟨w,v,rfl,T1,T2,hb⟩
 ·have f:Xj [shD S,tS one,tS other] .none:=⟨rfl,by simp[yh],by simp[yh]⟩
  refine(zk (par f hb)).trans (zL ((Qn (wC (c:=true) (c2:=true) (zP (JB (zu rfl rfl rfl) rfl)) fun h=>by cases h)).trans (zL (zZ ?_))))
  exact agn (JB (zu rfl rfl rfl) rfl) rfl
 ·have ne:lS w≠lS v:=fun e=>by
   have:=ai9 e
   subst this
   obtain⟨u,r,ew,hu,p,hr⟩:=T1.p
   obtain⟨u',r',ew',hu',p',hr'⟩:=T2.p
   obtain⟨a,ha,z,ez⟩:=p.head
   obtain⟨b,hb',z',ez'⟩:=p'.head
   rw[ez] at ez'
   exact dj a ha (by rw[(List.cons.inj ez').1];exact hb')
  have f:Xj [shD S,tS one,tS other] (Wr w v):=by
   refine⟨?_,?_,fun e he a ha=>?_⟩
   ·simp[Wr,vf,vq,lS,Vx]
   ·simp[Wr,yh,yD,afr,ne]
   ·rw[sub0 a ha];simp
  obtain⟨s1,g1⟩:=O.told_sh h1 T1
  obtain⟨s2,g2⟩:=O.told_sh h2 T2
  have sd:Sh 40000 (Wr w v):=(Sh.tuple (m:=15000) (ds:=[lS w,lS v]) fun d hd=>by
   simp only[List.mem_cons,List.not_mem_nil,or_false] at hd
   rcases hd with rfl | rfl
   ·exact s1
   ·exact s2).mono (by simp)
  have gd:Gd 2 (Wr w v):=.tuple fun d hd=>by
   simp only[List.mem_cons,List.not_mem_nil,or_false] at hd
   rcases hd with rfl | rfl
   ·exact g1
   ·exact g2
  have rp:YF [Wr w v]=some (.str (Wr w v).shown):=abj gd sd
  have iw:=Io O h1 h2 T1
  have iv:=Io O h2 h1 T2
  let Z:Env:=[some (shD S),some (tS one),some (tS other),none,some (Wr w v),some (.bool true)]
  refine(zk (par f hb)).trans ?_
  refine(zk (e:=Z) (g1:=.none) ((wB (wC (c:=false) (c2:=false) (zP (JB (zu rfl rfl rfl) rfl)) fun _=>wN (c:=true) (zP rfl))).trans rfl)).trans ?_
  refine(zk (e:=Z) (g1:=.none) ((wB (wC (c:=false) (c2:=false) (wN (c:=true) (zP (adO rfl))) fun _=>zP (zu (JB (yg (zd rfl rfl) (d:=.int 2) rfl) rfl) rfl rfl))).trans rfl)).trans ?_
  refine(zk (e:=Z) (g1:=.none) ((wB (wC (c:=false) (c2:=false) (wN (c:=true) (zP (JB (zB (zd rfl (zd (zu rfl rfl rfl) rfl)) iw) rfl))) fun _=>wN (c:=true) (zP (JB (zB (zd rfl (zd (zu rfl rfl rfl) rfl)) iv) rfl)))).trans rfl)).trans ?_
  refine(zk (zU (JB (yg (zd rfl rfl) rp) rfl))).trans ?_
  refine(zk (adB (es:=w.map .str) (d:=.str "") rfl (ahS rfl rfl (by simp[yh])) rfl (by have:=T1.l;rw[List.length_map];omega))).trans ?_
  refine(zk (aaN (es:=v.map .str) rfl rfl)).trans ?_
  refine zL (zZ (zu (yg (zd (zB rfl r1) rfl) rp) rfl ?_))
  rw[IV (Gd.str (n:=0) sd.b) (Gd.str (n:=0) sd.b),XG]
  simp
end
theorem aa1{d:D}{xs:List Str}{most:Nat}{g:D}(hd:y9 d=some (xs.map .str))(h1:xs.length≤1000)(nd:xs.Nodup)(hb:Bag g):∃(ys:List Str) (g':D),yx [d,.int (most:Nat)] g=some (tS ys,g')∧CnS ys∧(∀y∈ys,y∈xs)∧ys.length≤most∧Bag g':=by
 obtain⟨zs,g1,m1,m2,m3⟩:=jP PyData.str hd (by omega) hb
 have zl:zs.length≤1000:=by rw[m2.length_eq];exact h1
 have lc:=VU (h:=zh 4) (t:=bT (xOp eqD (zw zm (za (xC (.int 2)) zb)) (xC (.int 0)))) (f:=xV 4) (env:=[none,some d,some (.int (most:Nat)),none,none]) PyData.str
  (fun rest ds g=>Bag g∧∃(ws done:List Str),done++rest=zs∧ds=ws.map .str∧ws.Sublist done)
  (fun x rest ds g ⟨hg,ws,done,e,eds,hs⟩=>by
   obtain⟨r,g',e1,e2,e3,e4⟩:=vP (many:=2) (g:=g) (by decide) (by decide) hg
   refine⟨_,decide (r=0),g',rfl,zP (zu (zM (zd rfl rfl) e1) rfl (QJ _ _)),fun _=>⟨_,g',rfl,e4,ws++[x],done++[x],by simpa using e,by rw[eds];simp,hs.append (List.Sublist.refl _)⟩,fun _=>⟨e4,ws,done++[x],by simpa using e,eds,hs.trans (List.sublist_append_left _ _)⟩⟩)
  zs [] g1 ⟨m3,[],[],rfl,rfl,.refl _⟩
 obtain⟨r,g2,l1,l2,ws,done,e,eds,hs⟩:=lc
 rw[List.append_nil] at e
 subst e
 rw[List.nil_append] at eds
 subst eds
 have ndz:done.Nodup:=m2.nodup_iff.mpr nd
 have ndw:(ws.take most).Nodup:=(ndz.sublist hs).sublist (List.take_sublist _ _)
 have wl:ws.length≤1000:=Nat.le_trans hs.length_le zl
 refine⟨srt (ws.take most),g2,jK ?_,Yu ndw,fun y hy=>?_,?_,l2⟩
 ·show YZ [none,some d,some (.int (most:Nat)),none,none] g=_
  refine(zk (zU (Yp (zI (zM (zd rfl rfl) m1) rfl) l1 (by rw[List.length_map];omega)))).trans ((zL (zZ (yg (zd (jo (zd (a:=lS (ws.take most)) (g1:=g2) ?_ rfl) (vi (by rw[List.length_take];omega)).1) rfl) rfl))).trans rfl)
  show some (PyData.list (Jm (ws.map PyData.str) none (some ((most:Nat):Int))),g2)=_
  rw[afb,←List.map_take]
  rfl
 ·exact m2.mem_iff.mp (hs.subset (List.mem_of_mem_take ((Jd _).mem_iff.mp hy)))
 ·rw[(Jd _).length_eq,List.length_take];omega
theorem aa2{ds:List D}{g:D}(h0:ds≠[])(h1:ds.length≤1000)(hb:Bag g):∃d g',zO [.list ds] g=some (d,g')∧d∈ds∧Bag g':=by
 have hl:0<ds.length:=List.length_pos_iff.mpr h0
 obtain⟨r,g',e1,e2,e3,e4⟩:=vP (many:=(ds.length:Nat)) (g:=g) (by omega) (by omega) hb
 have hr:r.toNat<ds.length:=by omega
 refine⟨ds[r.toNat],g',jK ?_,List.getElem_mem _,e4⟩
 refine(zL (zZ (zu rfl (zM (zd (yg (zd rfl rfl) rfl) rfl) e1) ?_))).trans rfl
 have:=ixL (ds:=ds) (k:=r.toNat) (d:=ds[r.toNat]) (List.getElem?_eq_getElem hr)
 rw[show((r.toNat:Nat):Int)=r by omega] at this
 exact this
abbrev UnP(q r:Str×Str):Prop:=¬(q.1=r.1∧q.2=r.2)∧¬(q.1=r.2∧q.2=r.1)
def ax6:List Str:=["i", "j", "k", "m", "ab", "zzzzzz"]
def ae3:List Str:=["a", "b", "c", "d", "e", "f", "tmp", "abcdef", "i", "z"]
theorem ahy:ax6.all okS=true∧ax6.Nodup:=by decide +kernel
theorem adf:ae3.all okS=true∧ae3.Nodup∧("" : Str)∉ae3:=by decide +kernel
theorem agL{x:Str}(h:x∈ax6):okS x=true:=List.all_eq_true.mp ahy.1 x h
theorem ahz{x:Str}(h:x∈ae3):okS x=true:=List.all_eq_true.mp adf.1 x h
structure StpOk(ss:List (Str×List Str)):Prop where
 nd:(ss.map (·.1)).Nodup
 nm:∀s∈ss,s.1∈ae3
 cn:∀s∈ss,CnS s.2
 ax:∀s∈ss,∀x∈s.2,x∈ax6
theorem StpOk.perm{ss ts:List (Str×List Str)}(S:StpOk ss)(h:ts.Perm ss):StpOk ts :=
 ⟨(h.map (·.1)).nodup_iff.mpr S.nd,fun s hs=>S.nm s (h.mem_iff.mp hs),fun s hs=>S.cn s (h.mem_iff.mp hs),fun s hs=>S.ax s (h.mem_iff.mp hs)⟩
theorem StpOk.len{ss:List (Str×List Str)}(S:StpOk ss):∀s∈ss,s.2.length≤6:=fun s hs=>(S.cn s hs).nd.length_le_of_subset (l₂:=ax6) fun x hx=>S.ax s hs x hx
theorem StpOk.gd{ss:List (Str×List Str)}(S:StpOk ss):∀s∈ss,Gd 2 (yw s):=fun s hs=>.tuple fun d hd=>by
 simp only[List.mem_cons,List.not_mem_nil,or_false] at hd
 rcases hd with rfl | rfl
 ·exact .str (ahz (S.nm s hs))
 ·exact .tS fun x hx=>agL (S.ax s hs x hx)
theorem aa3{ns:List Nat}{g:D}(h0:ns≠[])(h1:ns.length≤1000)(hb:Bag g):∃(k:Nat) (g':D),zO [.list (ns.map fun k=>.int (k:Nat))] g=some (.int (k:Nat),g')∧k∈ns∧Bag g':=by
 obtain⟨d,g',e1,e2,e3⟩:=aa2 (ds:=ns.map fun k=>PyData.int (k:Nat)) (g:=g) (by simpa using h0) (by simpa using h1) hb
 obtain⟨k,hk,rfl⟩:=List.mem_map.mp e2
 exact⟨k,g',e1,hk,e3⟩
theorem ail{m k:Nat}:Xg [.int 0,.int ((m:Nat) - (k:Nat):Int)]=some (.int (((m - k:Nat):Nat):Int)):=by
 show some (PyData.int (if((m:Int) - (k:Int))>0 then _ else _))=_
 split
 ·congr 2;omega
 ·congr 2;omega
theorem Jp{f c:XF}{env:Env}{g g1 g2:D}{zs:List Str}{k:Nat}(h1:f env g=some (lS zs,g1))(h2:c env g1=some (.int (k:Nat),g2)):xSl f pNo (wv c) env g=some (lS (zs.take k),g2):=by
 unfold xSl
 rw[h1,Option.bind_some]
 show((wv c env g1).bind _)=_
 unfold wv
 rw[h2,Option.bind_some]
 show some (PyData.list (Jm (zs.map PyData.str) none (some ((k:Nat):Int))),g2)=_
 rw[afb,←List.map_take]
 rfl
theorem afu{α:Type}(ds:List α):Jm ds (some (-1)) none=ds.drop (ds.length - 1):=by
 have e:HT.sIx ds.length 0 (some (-1))=ds.length - 1:=by
  show(if(-1:Int)<0 then((-1:Int)+(ds.length:Nat)).toNat else min (-1:Int).toNat ds.length)=_
  rw[if_pos (by decide)]
  omega
 unfold Jm
 rw[e,HT.sIx_none,List.take_of_length_le]
 rw[List.length_drop]
 omega
def Gc:List Str:=["t", "u", "v", "x", "y", "p", "q", "r", "s", "end", "add", "abcdef"]
theorem adg:∀x∈Gc,x∈adW:=by decide +kernel
theorem aim:Gc.Nodup:=by decide +kernel
theorem nd7:ax7.Nodup:=by decide +kernel
theorem Ip{fi:XF}{g:D}{env:Env}{α:Type}(enc:α→D)(nmf:α→Str)(he:∀x,ixD (enc x) (.int 0)=some (.str (nmf x))){xs:List α}{k:Nat}(hk:∀x:D,(zJ env [k]).set k (some x)=env.set k (some x))(hl:k<env.length)(h:fi env g=some (.list (xs.map enc),g))(hs:xs.length≤1000):xLc (zG fi) (zh k) vh (xOp ixD (xV k) (xC (.int 0))) [k] env g=some (lS (xs.map nmf),g):=by
 have:=ja (fi:=zG fi) (hg:=zh k) (ff:=xOp ixD (xV k) (xC (.int 0))) (vs:=[k]) (env:=env) (g:=g) (g1:=g) enc (fun x=>PyData.str (nmf x)) (xs:=xs) (zI h rfl) (fun x hx=>⟨_,rfl,zu (vo (show((zJ env [k]).set k (some (enc x)))[k]? = _ by rw[hk,List.getElem?_set_self hl])) rfl (he x)⟩) (by omega)
 rw[this]
 simp[lS,Function.comp_def]
theorem US{ins:List (Str×List Str)}{sms:List (Str×List Str×List Str)}{pr:Int}{g:D}(hi:1≤ins.length)(hi2:ins.length≤10)(hs:sms.length≤10)(nd:(ins.map (·.1)++sms.map (·.1)).Nodup)(ok:∀x∈ins.map (·.1)++sms.map (·.1),okS x=true)(hb:Bag g) :
  ∃(rd:List Str) (g':D),yy [.list (ins.map yw),.list (sms.map smD),.int pr] g=some (tS rd,g')∧CnS rd∧rd≠[]∧(∀r∈rd,r∈ins.map (·.1)++sms.map (·.1))∧Bag g':=by
 let A:=ins.map (·.1)
 let B:=sms.map (·.1)
 have lA:A.length=ins.length:=by simp[A]
 have lB:B.length=sms.length:=by simp[B]
 let Z:Option D→Option D→Option D→Option D→Option D→Option D→Env:=fun a b c d e f=>[none,some (.list (ins.map yw)),some (.list (sms.map smD)),some (.int pr),a,b,c,d,e,f,none,none]
 have s8:xLc (zG (xV 1)) (zh 10) vh (xOp ixD (xV 10) (xC (.int 0))) [10] (Z none none none none none none) g=some (lS A,g):=Ip yw (·.1) (fun _=>rfl) (fun _=>rfl) (by simp[Z]) rfl (by omega)
 obtain⟨many,g1,o1,o2,b1⟩:=aa3 (ns:=[2,1,2,3,4]) (g:=g) (by simp) (by simp) hb
 have hm:1≤many∧many≤4:=by
  simp only[List.mem_cons,List.not_mem_nil,or_false] at o2
  omega
 have s9:zw zO (za (zY (za (xC (.int 2)) (za (xC (.int 1)) (za (xC (.int 2)) (za (xC (.int 3)) (za (xC (.int 4)) zb)))))) zb) (Z none none none none none none) g=some (.int (many:Nat),g1):=zM (zd (z8 rfl (by simp)) rfl) o1
 have s4:xLc (zG (xV 2)) (zh 10) vh (xOp ixD (xV 10) (xC (.int 0))) [10] (Z none none none none (some (lS A)) (some (.int (many:Nat)))) g1=some (lS B,g1):=Ip smD (·.1) (fun _=>rfl) (fun _=>rfl) (by simp[Z]) rfl (by omega)
 obtain⟨t,g2,t1,t2,t3,b2⟩:=vP (many:=4) (g:=g1) (by decide) (by decide) b1
 -- the last one
 obtain⟨la,s5,laB,la1⟩:∃la:List Str,xIf (bT (xOp gtD (zw zm (za (xC (.int 4)) zb)) (xC (.int 0)))) (xSl (xV 4) (wv (xUn U6 (xC (.int 1)))) pNo) (zY zb) (Z (some (lS B)) none none none (some (lS A)) (some (.int (many:Nat)))) g1=some (lS la,g2)∧la.Sublist B∧la.length≤1:=by
  have c:bT (xOp gtD (zw zm (za (xC (.int 4)) zb)) (xC (.int 0))) (Z (some (lS B)) none none none (some (lS A)) (some (.int (many:Nat)))) g1=some (decide (0<t),g2):=zP (zu (zM rfl t1) rfl rfl)
  by_cases h:0<t
  ·rw[decide_eq_true h] at c
   refine⟨B.drop (B.length - 1),(YS c).trans ?_,List.drop_sublist _ _,by rw[List.length_drop];omega⟩
   show some (PyData.list (Jm (B.map PyData.str) (some (-1)) none),g2)=_
   rw[afu,List.length_map,←List.map_drop]
   rfl
  ·rw[decide_eq_false h] at c
   exact⟨[],(Ub c).trans (z8 rfl (by simp)),List.nil_sublist _,by simp⟩
 have ndA:A.Nodup:=(List.nodup_append.mp nd).1
 have ndB:B.Nodup:=(List.nodup_append.mp nd).2.1
 obtain⟨zs,g3,m1,m2,b3⟩:=jP PyData.str (d:=lS (A++B)) (xs:=A++B) (g:=g2) rfl (by rw[List.length_append];omega) b2
 have ndz:zs.Nodup:=m2.nodup_iff.mpr nd
 have zl:zs.length≤20:=by rw[m2.length_eq,List.length_append];omega
 have okla:∀y∈la,okS y=true:=fun y hy=>ok y (List.mem_append_right _ (laB.subset hy))
 have okz:∀y∈zs,okS y=true:=fun y hy=>ok y (m2.mem_iff.mp hy)
 have s6:xLc (zG (zw zC (za (xOp va (xV 8) (xV 4)) zb))) (zh 11) (bT (xOp (inD true) (xV 11) (xV 5))) (xV 11) [11] (Z (some (lS B)) (some (lS la)) none none (some (lS A)) (some (.int (many:Nat)))) g2=some (lS (zs.filter fun x=>!decide (x∈la)),g3):=by
  refine vK (fun x=>!decide (x∈la)) (xs:=zs) (zI (zM (zd (zu (d:=lS (A++B)) rfl rfl ?_) rfl) m1) rfl) (fun x hx=>⟨_,rfl,zP (zu rfl rfl (by rw[(ym (neg:=true) (okz x hx) okla).1];rfl)),fun _=>rfl⟩) (by omega)
  rw[lS,lS,abe (by simp only[List.length_map];omega),←List.map_append]
  rfl
 let R:=zs.filter fun x=>!decide (x∈la)
 let found:=la++R.take (many - la.length)
 have s7:xOp va (xV 5) (xSl (xV 6) pNo (wv (xCB Xg (za (xC (.int 0)) (za (xOp Ix (xV 9) (xCB wx (za (xV 5) zb))) zb))))) (Z (some (lS B)) (some (lS la)) (some (lS R)) none (some (lS A)) (some (.int (many:Nat)))) g3=some (lS found,g3):=by
  have cl:xCB Xg (za (xC (.int 0)) (za (xOp Ix (xV 9) (xCB wx (za (xV 5) zb))) zb)) (Z (some (lS B)) (some (lS la)) (some (lS R)) none (some (lS A)) (some (.int (many:Nat)))) g3=some (.int ((many - la.length:Nat):Nat),g3):=by
   refine yg (zd rfl (zd (zu (b:=.int (la.length:Nat)) rfl (yg (zd rfl rfl) ?_) rfl) rfl)) ail
   show some (PyData.int ((la.map PyData.str).length:Nat))=_
   rw[List.length_map]
  have rl:R.length≤20:=Nat.le_trans (List.length_filter_le _ _) zl
  refine zu (b:=lS (R.take (many - la.length))) rfl (Jp (zs:=R) (k:=many - la.length) rfl cl) ?_
  rw[lS,lS,abe (by simp only[List.length_map,List.length_take];omega),←List.map_append]
  rfl
 have fsub:∀x∈found,x∈A++B:=fun x hx=>by
  rcases List.mem_append.mp hx with h | h
  ·exact List.mem_append_right _ (laB.subset h)
  ·exact m2.mem_iff.mp (List.mem_filter.mp (List.mem_of_mem_take h)).1
 have fnd:found.Nodup:=by
  rw[List.nodup_append]
  refine⟨ndB.sublist laB,(ndz.sublist List.filter_sublist).sublist (List.take_sublist _ _),fun x hx y hy e=>?_⟩
  have:=(List.mem_filter.mp (List.mem_of_mem_take hy)).2
  subst e
  simp[hx] at this
 have fl:found.length≤20:=by
  have:=fnd.length_le_of_subset fsub
  have e:(A++B).length=A.length+B.length:=List.length_append
  omega
 have okf:∀x∈found,okS x=true:=fun x hx=>ok x (fsub x hx)
 have okB:∀x∈B,okS x=true:=fun x hx=>ok x (List.mem_append_right _ hx)
 let W:Env:=Z (some (lS B)) (some (lS la)) (some (lS R)) (some (lS found)) (some (lS A)) (some (.int (many:Nat)))
 -- the test
 obtain⟨b,hc⟩:∃b:Bool,bOr (bT (xOp gtD (xOp va (xV 3) (xCB wx (za (xLc (zG (xV 7)) (zh 11) (bT (xOp (inD false) (xV 11) (xV 4))) (xV 11) [11]) zb))) (xC (.int 9)))) (bT (xOp eqD (xV 7) (zY zb))) W g3=some (b,g3)∧(b=false→found≠[]):=by
  have c1:=vK (fi:=zG (xV 7)) (hg:=zh 11) (tt:=bT (xOp (inD false) (xV 11) (xV 4))) (ff:=xV 11) (vs:=[11]) (env:=W) (g:=g3) (g1:=g3) (fun x=>decide (x∈B)) (xs:=found) (zI (d:=lS found) rfl rfl) (fun x hx=>⟨_,rfl,zP (zu rfl rfl (by rw[(ym (neg:=false) (okf x hx) okB).1];rfl)),fun _=>rfl⟩) (by omega)
  have c2:bT (xOp gtD (xOp va (xV 3) (xCB wx (za (xLc (zG (xV 7)) (zh 11) (bT (xOp (inD false) (xV 11) (xV 4))) (xV 11) [11]) zb))) (xC (.int 9))) W g3=some (decide ((9:Int)<pr+((found.filter fun x=>decide (x∈B)).length:Nat)),g3):=by
   refine zP (zu (zu (b:=.int ((found.filter fun x=>decide (x∈B)).length:Nat)) rfl (yg (zd c1 rfl) ?_) rfl) rfl rfl)
   show some (PyData.int ((List.map PyData.str (found.filter fun x=>decide (x∈B))).length:Nat))=_
   rw[List.length_map]
  have c3:bT (xOp eqD (xV 7) (zY zb)) W g3=some (found.isEmpty,g3):=by
   refine zP (zu rfl (z8 rfl (by simp)) ?_)
   show eqD (lS found) (.list [])=_
   unfold lS
   rw[IW (Gd.lS okf)]
   simp
  refine⟨_,wC c2 fun _=>c3,fun h e=>?_⟩
  rw[e] at h
  simp at h
 obtain⟨hc,hne⟩:=hc
 have fin:∀rd:List Str,rd.Nodup→rd.length≤30→rd≠[]→(∀r∈rd,r∈A++B)→zg (sIf (bOr (bT (xOp gtD (xOp va (xV 3) (xCB wx (za (xLc (zG (xV 7)) (zh 11) (bT (xOp (inD false) (xV 11) (xV 4))) (xV 11) [11]) zb))) (xC (.int 9)))) (bT (xOp eqD (xV 7) (zY zb)))) (zg (z9 7 (xSl (xV 8) pNo (wv (xV 9)))) zv) zv) (zg (ya (xCB yq (za (jC yu (za (xV 7) zb)) zb))) zv) W g3=some (.rt (tS (srt rd)) g3)→∃(rd:List Str) (g':D),yy [.list (ins.map yw),.list (sms.map smD),.int pr] g=some (tS rd,g')∧CnS rd∧rd≠[]∧(∀r∈rd,r∈ins.map (·.1)++sms.map (·.1))∧Bag g':=fun rd h1 h2 h3 h4 h=>by
  refine⟨srt rd,g3,jK ?_,QM h1,fun z=>h3 (by
   have:=ZF rd
   rw[z] at this
   exact List.eq_nil_of_length_eq_zero this.symm),fun r hr=>h4 r (wt.mp hr),b3⟩
  exact(zk (jh s8 s9)).trans ((zk (zU s4)).trans ((zk (zU s5)).trans ((zk (zU s6)).trans ((zk (zU s7)).trans h))))
 cases b with
 | false =>
  refine fin found fnd (by omega) (hne rfl) fsub ((zk ((wB hc).trans rfl)).trans (zL (zZ (yg (d:=tS (srt found)) (zd (jo rfl (vi (l:=found) (by omega)).1) rfl) rfl))))
 | true =>
  have tl:(A.take many).length≤30:=by rw[List.length_take];omega
  refine fin (A.take many) (ndA.sublist (List.take_sublist _ _)) tl (fun z=>?_) (fun r hr=>List.mem_append_left _ (List.mem_of_mem_take hr)) ((zk ((Qn hc).trans ((zk (zU (Jp (zs:=A) (k:=many) rfl rfl))).trans rfl))).trans (zL (zZ (yg (d:=tS (srt (A.take many))) (zd (jo rfl (vi (l:=A.take many) (by omega)).1) rfl) rfl))))
  have:=congrArg List.length z
  rw[List.length_take,List.length_nil] at this
  omega
theorem adh{fi:IF}{t:BF}{k:Nat}{env:Env}{g g0:D}{xs:List Str}(h0:fi env g=some (xs.map .str,g0))(hb:Bag g0)(hl:xs.length≤100000)(hk:k<env.length)(hw:∀x:D,(zJ env [k]).set k (some x)=env.set k (some x))
  (ht:∀x∈xs,∀g,Bag g→∃b g',t (env.set k (some (.str x))) g=some (b,g')∧Bag g'):∃(ys:List Str) (g':D),xLc fi (zh k) t (xV k) [k] env g=some (lS ys,g')∧ys.Sublist xs∧Bag g':=by
 have lc:=VU (h:=zh k) (t:=t) (f:=xV k) (env:=zJ env [k]) PyData.str
  (fun rest ds g=>Bag g∧∃(ws done:List Str),done++rest=xs∧ds=ws.map .str∧ws.Sublist done)
  (fun x rest ds g ⟨hg,ws,done,e,eds,hs⟩=>by
   obtain⟨b,g',e1,e2⟩:=ht x (by rw[←e];simp) g hg
   have hv:xV k ((zJ env [k]).set k (some (.str x))) g'=some (.str x,g'):=vo (by rw[hw,List.getElem?_set_self hk])
   refine⟨_,b,g',rfl,by rw[hw];exact e1,fun _=>⟨_,g',hv,e2,ws++[x],done++[x],by simpa using e,by rw[eds];simp,hs.append (List.Sublist.refl _)⟩,fun _=>⟨e2,ws,done++[x],by simpa using e,eds,hs.trans (List.sublist_append_left _ _)⟩⟩)
  xs [] g0 ⟨hb,[],[],rfl,rfl,.refl _⟩
 obtain⟨r,g2,l1,l2,ws,done,e,eds,hs⟩:=lc
 rw[List.append_nil] at e
 subst e
 rw[List.nil_append] at eds
 subst eds
 have:=hs.length_le
 exact⟨ws,g2,Yp h0 l1 (by rw[List.length_map];omega),hs,l2⟩
def Qu(ins:List (Str×List Str))(sms:List (Str×List Str×List Str))(rd:List Str):List Str:=(((Sht.mk ins sms []).rows.filter fun r=>decide (r.1∈rd)).map (·.2)).flatten
theorem XZ{ins:List (Str×List Str)}{sms:List (Str×List Str×List Str)}{rd:List Str}{x:Str}:x∈Qu ins sms rd↔∃r∈(Sht.mk ins sms []).rows,r.1∈rd∧x∈r.2:=by
 unfold Qu
 rw[List.mem_flatten]
 constructor
 ·rintro⟨l,hl,hx⟩
  obtain⟨r,hr,rfl⟩:=List.mem_map.mp hl
  rw[List.mem_filter,decide_eq_true_eq] at hr
  exact⟨r,hr.1,hr.2,hx⟩
 ·rintro⟨r,h1,h2,h3⟩
  exact⟨r.2,List.mem_map.mpr ⟨r,List.mem_filter.mpr ⟨h1,decide_eq_true h2⟩,rfl⟩,h3⟩
theorem ae4{l:List (Str×List Str)}(h:∀r∈l,r.2.length≤7):(l.map (·.2)).flatten.length≤7*l.length:=by
 induction l with
 | nil=>simp
 | cons r l ih =>
  have:=ih fun r hr=>h r (List.mem_cons_of_mem _ hr)
  have:=h r (by simp)
  rw[List.map_cons,List.flatten_cons,List.length_append,List.length_cons]
  omega
theorem UT{ins:List (Str×List Str)}{sms:List (Str×List Str×List Str)}{rd:List Str}(h:∀r∈(Sht.mk ins sms []).rows,r.2.length≤7):(Qu ins sms rd).length≤7*(ins.length+sms.length):=by
 have h1:=ae4 (l:=(Sht.mk ins sms []).rows.filter fun r=>decide (r.1∈rd)) fun r hr=>h r (List.mem_filter.mp hr).1
 have h2:=List.length_filter_le (fun r:Str×List Str=>decide (r.1∈rd)) (Sht.mk ins sms []).rows
 have h3:(Sht.mk ins sms []).rows.length=ins.length+sms.length:=by simp[Sht.rows]
 unfold Qu
 omega
section
variable {ins:List (Str×List Str)} {sms:List (Str×List Str×List Str)} {rd:List Str} (hi2:ins.length≤10) (hs:sms.length≤10) (okn:∀r∈(Sht.mk ins sms []).rows,okS r.1=true) (oka:∀r∈(Sht.mk ins sms []).rows,r.2.length≤7) (okr:∀r∈rd,okS r=true)
include hi2 hs okn oka okr
theorem Iq{env:Env}{g:D}{i j m k:Nat}{dr:D}(hdr:dr=tS rd∨dr=lS rd)(e1:env[i]? = some (some (.list (ins.map yw))))(e2:env[j]? = some (some (.list (sms.map smD))))(e3:env[m]? = some (some dr))(hw:∀x:D,(zJ env [k]).set k (some x)=env.set k (some x))(hk:k<env.length)(hmk:m≠k) :
  vS (zy yl (za (xLc (zG (xOp va (xV i) (xV j))) (zh k) (bT (xOp (inD false) (xOp ixD (xV k) (xC (.int 0))) (xV m))) (xOp ixD (xV k) (xC (.int 1))) [k]) zb)) env g=some (lS (cnl (Qu ins sms rd)),g):=by
 have al:=UT (rd:=rd) oka
 have hin:∀ {x:Str},okS x=true→inD false (.str x) dr=some (.bool (decide (x∈rd))):=fun {x} hx=>by
  rcases hdr with rfl | rfl
  ·rw[(ym (neg:=false) hx okr).2];rfl
  ·rw[(ym (neg:=false) hx okr).1];rfl
 have rl:(Sht.mk ins sms []).all.length≤20:=by simp[Sht.all];omega
 have c1:=QN (fi:=zG (xOp va (xV i) (xV j))) (hg:=zh k) (tt:=bT (xOp (inD false) (xOp ixD (xV k) (xC (.int 0))) (xV m))) (ff:=xOp ixD (xV k) (xC (.int 1))) (vs:=[k]) (env:=env) (g:=g) (g1:=g) Q8 (fun r=>decide (r.1.1∈rd)) (fun r=>tS r.1.2) (xs:=(Sht.mk ins sms []).all)
  (zI (d:=.list ((Sht.mk ins sms []).all.map Q8)) (zu (vo e1) (vo e2) (by rw[abe (by simp only[List.length_map];omega),Sht.all_D])) rfl)
  (fun r hr=>⟨_,rfl,by
   have hv:xV k ((zJ env [k]).set k (some (Q8 r))) g=some (Q8 r,g):=vo (by rw[hw,List.getElem?_set_self hk])
   have hm:xV m ((zJ env [k]).set k (some (Q8 r))) g=some (dr,g):=vo (by rw[hw,List.getElem?_set_ne (Ne.symm hmk)];exact e3)
   have hr1:r.1∈(Sht.mk ins sms []).rows:=by rw[←Sht.all_rows];exact List.mem_map_of_mem hr
   exact zP (zu (zu hv rfl (ad9 r)) hm (hin (okn _ hr1))),fun _=>by
   have hv:xV k ((zJ env [k]).set k (some (Q8 r))) g=some (Q8 r,g):=vo (by rw[hw,List.getElem?_set_self hk])
   exact zu hv rfl (ada r)⟩) (by omega)
 have el:(((Sht.mk ins sms []).all.filter fun r=>decide (r.1.1∈rd)).map fun r=>tS r.1.2)=(((Sht.mk ins sms []).rows.filter fun r=>decide (r.1∈rd)).map (·.2)).map tS:=by
  rw[←Sht.all_rows,List.filter_map,List.map_map,List.map_map]
  rfl
 rw[el] at c1
 have hf:(((Sht.mk ins sms []).rows.filter fun r=>decide (r.1∈rd)).map (·.2)).length<16000000:=by
  have h2:=List.length_filter_le (fun r:Str×List Str=>decide (r.1∈rd)) (Sht.mk ins sms []).rows
  have h3:(Sht.mk ins sms []).rows.length=ins.length+sms.length:=by simp[Sht.rows]
  rw[List.length_map];omega
 have c2:=ZH (((Sht.mk ins sms []).rows.filter fun r=>decide (r.1∈rd)).map (·.2)) hf (by
  show(Qu ins sms rd).length<_
  omega)
 exact w9 (l:=Qu ins sms rd) (zB (zd c1 rfl) c2) (.inl rfl) (by omega)
theorem aa4{g:D}(hb:Bag g):∃(ax:List Str) (g':D),yN [.list (ins.map yw),.list (sms.map smD),tS rd] g=some (tS ax,g')∧CnS ax∧(∀x∈ax,x∈Qu ins sms rd)∧Bag g':=by
 have al:=UT (rd:=rd) oka
 have cl:=ZE (Qu ins sms rd)
 have c4:=Iq hi2 hs okn oka okr (env:=[none,some (.list (ins.map yw)),some (.list (sms.map smD)),some (tS rd),none,none,none,none]) (g:=g) (i:=1) (j:=2) (m:=3) (k:=7) (.inl rfl) rfl rfl rfl (fun _=>rfl) (by simp) (by decide)
 obtain⟨t,g1,t1,t2,t3,b1⟩:=vP (many:=6) (g:=g) (by decide) (by decide) hb
 let Z:Env:=[none,some (.list (ins.map yw)),some (.list (sms.map smD)),some (tS rd),some (lS (cnl (Qu ins sms rd))),some (.int t),none,none]
 have c:bT (xOp eqD (xV 5) (xC (.int 0))) Z g1=some (decide (t=0),g1):=zP (zu rfl rfl (QJ _ _))
 have start:∀d g',zg (sIf (bT (xOp eqD (xV 5) (xC (.int 0)))) (zg (ya (xCB yq (za (xV 4) zb))) zv) zv) (zg (ya (xCB yq (za (xLc (zG (xV 4)) (zh 6) (vr (bT (xOp gtD (xV 5) (xC (.int 1)))) (bT (xOp gtD (zw zm (za (xC (.int 3)) zb)) (xC (.int 0))))) (xV 6) [6]) zb))) zv) Z g1=some (.rt d g')→yN [.list (ins.map yw),.list (sms.map smD),tS rd] g=some (d,g'):=fun d g' h=>by
  refine jK ?_
  show Qs [none,some (.list (ins.map yw)),some (.list (sms.map smD)),some (tS rd),none,none,none,none] g=_
  exact(zk (zU c4)).trans ((zk (zU (zM rfl t1))).trans h)
 by_cases h:t=0
 ·rw[decide_eq_true h] at c
  exact⟨cnl (Qu ins sms rd),g1,start _ _ (zL ((Qn c).trans (zL (zZ (yg rfl rfl))))),J9 _,fun x hx=>wZ.mp hx,b1⟩
 ·rw[decide_eq_false h] at c
  obtain⟨ys,g2,y1,y2,b2⟩:=adh (fi:=zG (xV 4)) (t:=vr (bT (xOp gtD (xV 5) (xC (.int 1)))) (bT (xOp gtD (zw zm (za (xC (.int 3)) zb)) (xC (.int 0))))) (k:=6) (env:=Z) (g:=g1) (g0:=g1) (xs:=cnl (Qu ins sms rd)) (zI (d:=lS (cnl (Qu ins sms rd))) rfl rfl) b1 (by omega) (by simp[Z]) (fun _=>rfl) (fun x hx g hg=>by
   obtain⟨r,g',e1,e2,e3,e4⟩:=vP (many:=3) (g:=g) (by decide) (by decide) hg
   have q1:bT (xOp gtD (xV 5) (xC (.int 1))) (Z.set 6 (some (.str x))) g=some (decide ((1:Int)<t),g):=zP (zu rfl rfl rfl)
   have q2:bT (xOp gtD (zw zm (za (xC (.int 3)) zb)) (xC (.int 0))) (Z.set 6 (some (.str x))) g=some (decide (0<r),g'):=zP (zu (zM rfl e1) rfl rfl)
   cases hc:decide ((1:Int)<t) with
   | true =>
    rw[hc] at q1
    refine⟨decide (0<r),g',?_,e4⟩
    unfold vr
    rw[q1,Option.bind_some]
    exact(if_pos rfl).trans q2
   | false =>
    rw[hc] at q1
    refine⟨false,g,?_,hg⟩
    unfold vr
    rw[q1,Option.bind_some]
    exact if_neg (by simp))
  exact⟨ys,g2,start _ _ ((zk ((wB c).trans rfl)).trans (zL (zZ (yg (zd y1 rfl) rfl)))),List.Pairwise.sublist y2 (J9 _),fun x hx=>wZ.mp (y2.subset hx),b2⟩
theorem abl{dr:D}(hdr:dr=tS rd∨dr=lS rd){rich:Nat}(hr:1≤rich∧rich≤1000){g:D}(hb:Bag g):∃(ax:List Str) (g':D),vc [.list (ins.map yw),.list (sms.map smD),dr,.int (rich:Nat)] g=some (tS ax,g')∧CnS ax∧(∀x∈ax,x∈Qu ins sms rd)∧Bag g':=by
 have al:=UT (rd:=rd) oka
 have cl:=ZE (Qu ins sms rd)
 have c4:=Iq hi2 hs okn oka okr (env:=[none,some (.list (ins.map yw)),some (.list (sms.map smD)),some dr,some (.int (rich:Nat)),none,none,none]) (g:=g) (i:=1) (j:=2) (m:=3) (k:=7) hdr rfl rfl rfl (fun _=>rfl) (by simp) (by decide)
 let Z:Env:=[none,some (.list (ins.map yw)),some (.list (sms.map smD)),some dr,some (.int (rich:Nat)),some (lS (cnl (Qu ins sms rd))),none,none]
 obtain⟨ys,g2,y1,y2,b2⟩:=adh (fi:=zG (xV 5)) (t:=bT (xOp gtD (zw zm (za (xV 4) zb)) (xC (.int 0)))) (k:=6) (env:=Z) (g:=g) (g0:=g) (xs:=cnl (Qu ins sms rd)) (zI (d:=lS (cnl (Qu ins sms rd))) rfl rfl) hb (by omega) (by simp[Z]) (fun _=>rfl) (fun x hx g hg=>by
  obtain⟨r,g',e1,e2,e3,e4⟩:=vP (many:=(rich:Nat)) (g:=g) (by omega) (by omega) hg
  exact⟨decide (0<r),g',zP (zu (zM rfl e1) rfl rfl),e4⟩)
 refine⟨ys,g2,jK ?_,List.Pairwise.sublist y2 (J9 _),fun x hx=>wZ.mp (y2.subset hx),b2⟩
 show Q7 [none,some (.list (ins.map yw)),some (.list (sms.map smD)),some dr,some (.int (rich:Nat)),none,none,none] g=_
 exact(zk (zU c4)).trans (zL (zZ (yg (zd y1 rfl) rfl)))
end
section
variable {t h:BF} {env:Env} {g g1:D}
end
theorem afv{fl:LF}{env:Env}{g g1:D}{n:Int}(h1:fl env g=some ([.int n],g1))(h2:Zv n=true):jT fl env g=some (J4 0 n.toNat,g1):=by
 unfold jT
 rw[h1,Option.bind_some]
 dsimp only
 rw[if_pos h2]
theorem ae5{n:Nat}(h:n≤1000000):Zv (n:Int)=true:=by
 simp[Zv]
 omega
def Sp(ss:List (Str×List Str)):Prop:=∀s∈ss,okS s.1=true∧s.2.Nodup∧∀x∈s.2,x∈ax6
theorem Sp.gd{ss:List (Str×List Str)}(S:Sp ss):Gd 3 (.list (ss.map yw)):=.list fun d hd=>by
 obtain⟨s,hs,rfl⟩:=List.mem_map.mp hd
 refine .tuple fun d hd=>?_
 simp only[List.mem_cons,List.not_mem_nil,or_false] at hd
 rcases hd with rfl | rfl
 ·exact Gd.str (S s hs).1
 ·exact Gd.tS fun x hx=>agL ((S s hs).2.2 x hx)
structure PlOk(p:vX):Prop where
 s:StpOk p.steps
 w:WF p
 cn:∀q∈p.pairs,CnS q.2.2
 few:p.pairs.length≤64
section
variable {p:vX} (P:PlOk p)
include P
theorem PlOk.nm:∀x∈p.names,x∈ae3:=fun x hx=>by
 obtain⟨s,hs,rfl⟩:=List.mem_map.mp hx
 exact P.s.nm s hs
theorem PlOk.srt:Srt p:=⟨P.s.cn,P.cn⟩
theorem PlOk.ne:("" : Str)∉p.names:=fun h=>adf.2.2 (P.nm _ h)
end
structure TwOk(N:List Str)(ws:List (Str×Str)):Prop where
 un:ws.Pairwise UnP
 mem:∀q∈ws,q.1∈N∧q.2∈N∧q.1≠q.2
section
variable {ss ts:List (Str×List Str)} {ks:List ab2} (S:StpOk ss) (hl:ss.length≤8) (pm:ts.Perm ss) (dr:Drw [] ts ks)
include S hl pm dr
end
theorem V3{fl:LF}{env:Env}{g g1:D}{n:Nat}(h0:fl env g=some ([.int (n:Nat)],g1))(hn:n≤1000000):jT fl env g=some ((List.range n).map fun k=>.int (k:Nat),g1):=by
 rw[afv h0 (ae5 hn),Int.toNat_natCast,adK]
theorem PlOk.bare{ss:List (Str×List Str)}(S:StpOk ss)(hl:ss.length≤8):PlOk ⟨ss,[]⟩ :=
 ⟨S,⟨S.nd,fun q hq=>(by cases hq),.nil,by simpa[Plan.names] using hl,fun q hq=>(by cases hq),fun q hq=>(by cases hq),fun s hs=>(S.cn s hs).nd⟩,fun q hq=>(by cases hq),by simp⟩
abbrev Y9(ins:List (Str×List Str))(sms:List (Str×List Str×List Str)):List (Str×List Str):=(Sht.mk ins sms []).rows
structure ShP(ins:List (Str×List Str))(sms:List (Str×List Str×List Str))(nl:List Str):Prop where
 nd:((ins.map (·.1)++sms.map (·.1))++nl).Nodup
 nm:∀x∈(ins.map (·.1)++sms.map (·.1))++nl,x∈Gc
 ax:∀r∈Y9 ins sms,∀x∈r.2,x∈ax7
 cn:∀r∈Y9 ins sms,CnS r.2
 rcn:∀s∈sms,CnS s.2.2
 ord:∀pre s post,sms=pre++s::post→∀r∈s.2.2,r∈ins.map (·.1)∨r∈pre.map (·.1)
 sub:∀s∈sms,∀x∈s.2.1,∃r∈Y9 ins sms,r.1∈s.2.2∧x∈r.2
 rne:∀s∈sms,s.2.2≠[]
theorem ain:∀x∈Gc,okS x=true:=fun x hx=>ai7 x (adg x hx)
theorem aco{α:Type}{l pre post:List α}{z s:α}(h:l++[z]=pre++s::post):(post=[]∧s=z∧pre=l)∨∃post',post=post'++[z]∧l=pre++s::post':=by
 rcases List.eq_nil_or_concat post with rfl | ⟨p',y,rfl⟩
 ·left
  obtain⟨h1,h2⟩:=List.append_inj' h rfl
  exact⟨rfl,(List.cons.inj h2).1.symm,h1.symm⟩
 ·right
  rw[List.concat_eq_append] at h ⊢
  rw[show pre++s::(p'++[y])=(pre++s::p')++[y] by simp] at h
  obtain⟨h1,h2⟩:=List.append_inj' h rfl
  exact⟨p',by rw[(List.cons.inj h2).1],h1⟩
section
variable {ins:List (Str×List Str)} {sms:List (Str×List Str×List Str)} {nl:List Str}
theorem ShP.start{zs:List Str}(h:zs.Perm Gc):ShP [] [] zs where
 nd:=by simpa using h.nodup_iff.mpr aim
 nm:=fun x hx=>h.mem_iff.mp (by simpa using hx)
 ax:=by simp[Sht.rows]
 cn:=by simp[Sht.rows]
 rcn:=by simp
 ord:=fun pre s post e=>by simp at e
 sub:=by simp
 rne:=by simp
theorem ShP.input{z:Str}{A:List Str}(P:ShP ins [] (nl++[z]))(h1:CnS A)(h2:∀x∈A,x∈ax7):ShP (ins++[(z,A)]) [] nl where
 nd:=by
  have:=P.nd
  simp only[List.map_nil,List.append_nil,List.map_append,List.map_cons] at this ⊢
  have p:(ins.map (·.1)++(nl++[z])).Perm (ins.map (·.1)++[z]++nl):=by
   rw[List.append_assoc]
   exact List.Perm.append_left _ List.perm_append_comm
  exact p.nodup_iff.mp this
 nm:=fun x hx=>P.nm x (by
  simp only[List.map_nil,List.append_nil,List.map_append,List.map_cons,List.mem_append,List.mem_singleton] at hx ⊢
  rcases hx with(h | h) | h
  ·exact .inl h
  ·exact .inr (.inr h)
  ·exact .inr (.inl h))
 ax:=fun r hr=>by
  simp only[Sht.rows,List.map_nil,List.append_nil,List.mem_append,List.mem_singleton] at hr
  rcases hr with hr | rfl
  ·exact P.ax r (by simpa[Sht.rows] using hr)
  ·exact h2
 cn:=fun r hr=>by
  simp only[Sht.rows,List.map_nil,List.append_nil,List.mem_append,List.mem_singleton] at hr
  rcases hr with hr | rfl
  ·exact P.cn r (by simpa[Sht.rows] using hr)
  ·exact h1
 rcn:=by simp
 ord:=fun pre s post e=>by simp at e
 sub:=by simp
 rne:=by simp
theorem ShP.sum{z:Str}{A rd:List Str}(P:ShP ins sms (nl++[z]))(h1:CnS A)(h2:∀x∈A,x∈Qu ins sms rd)(h3:CnS rd)(h4:rd≠[])(h5:∀r∈rd,r∈ins.map (·.1)++sms.map (·.1)):ShP ins (sms++[(z,A,rd)]) nl where
 nd:=by
  have:=P.nd
  simp only[List.map_append,List.map_cons,List.map_nil] at this ⊢
  have p:(ins.map (·.1)++sms.map (·.1)++(nl++[z])).Perm (ins.map (·.1)++(sms.map (·.1)++[z])++nl):=by
   rw[←List.append_assoc (List.map _ ins),List.append_assoc _ [z]]
   exact List.Perm.append_left _ List.perm_append_comm
  exact p.nodup_iff.mp this
 nm:=fun x hx=>P.nm x (by
  simp only[List.map_append,List.map_cons,List.map_nil,List.mem_append,List.mem_singleton] at hx ⊢
  rcases hx with(h | h | h) | h
  ·exact .inl (.inl h)
  ·exact .inl (.inr h)
  ·exact .inr (.inr h)
  ·exact .inr (.inl h))
 ax:=fun r hr=>by
  simp only[Sht.rows,List.map_append,List.map_cons,List.map_nil,List.mem_append,List.mem_singleton] at hr
  rcases hr with hr | hr | rfl
  ·exact P.ax r (by simp only[Sht.rows,List.mem_append];exact .inl hr)
  ·exact P.ax r (by simp only[Sht.rows,List.mem_append];exact .inr hr)
  ·intro x hx
   obtain⟨r,hr,_,hx⟩:=XZ.mp (h2 x hx)
   exact P.ax r hr x hx
 cn:=fun r hr=>by
  simp only[Sht.rows,List.map_append,List.map_cons,List.map_nil,List.mem_append,List.mem_singleton] at hr
  rcases hr with hr | hr | rfl
  ·exact P.cn r (by simp only[Sht.rows,List.mem_append];exact .inl hr)
  ·exact P.cn r (by simp only[Sht.rows,List.mem_append];exact .inr hr)
  ·exact h1
 rcn:=fun s hs=>by
  rcases List.mem_append.mp hs with h | h
  ·exact P.rcn s h
  ·rw[List.mem_singleton.mp h];exact h3
 ord:=fun pre s post e=>by
  rcases aco e with⟨_,rfl,rfl⟩ | ⟨post',_,e2⟩
  ·intro r hr
   exact List.mem_append.mp (h5 r hr)
  ·exact P.ord pre s post' e2
 sub:=fun s hs x hx=>by
  have up:∀r∈Y9 ins sms,r∈Y9 ins (sms++[(z,A,rd)]):=fun r hr=>by
   simp only[Sht.rows,List.map_append,List.mem_append] at hr ⊢
   exact hr.imp id .inl
  rcases List.mem_append.mp hs with h | h
  ·obtain⟨r,q1,q2,q3⟩:=P.sub s h x hx
   exact⟨r,up r q1,q2,q3⟩
  ·rw[List.mem_singleton.mp h] at hx ⊢
   obtain⟨r,q1,q2,q3⟩:=XZ.mp (h2 x hx)
   exact⟨r,up r q1,q2,q3⟩
 rne:=fun s hs=>by
  rcases List.mem_append.mp hs with h | h
  ·exact P.rne s h
  ·rw[List.mem_singleton.mp h];exact h4
theorem ShP.okn(P:ShP ins sms nl):∀x∈ins.map (·.1)++sms.map (·.1),okS x=true:=fun x hx=>ain x (P.nm x (List.mem_append_left _ hx))
theorem ShP.ndn(P:ShP ins sms nl):(ins.map (·.1)++sms.map (·.1)).Nodup:=(List.nodup_append.mp P.nd).1
theorem ShP.okr(P:ShP ins sms nl):∀r∈Y9 ins sms,okS r.1=true:=fun r hr=>by
 have:r.1∈(Sht.mk ins sms []).tbs:=List.mem_map_of_mem hr
 rw[Sht.tbs_eq] at this
 exact P.okn _ this
theorem ShP.ax7l(P:ShP ins sms nl):∀r∈Y9 ins sms,r.2.length≤7:=fun r hr=>(P.cn r hr).nd.length_le_of_subset (P.ax r hr)
theorem ShP.len(P:ShP ins sms nl):ins.length+sms.length+nl.length≤12:=by
 have:=P.nd.length_le_of_subset P.nm
 simp only[List.length_append,List.length_map] at this
 exact this
theorem ShP.ok(P:ShP ins sms nl)(hi:ins.length≤6)(hs:sms.length≤6){ins':List (Str×List Str)}(p:ins'.Perm ins){outs:List Str}(o1:CnS outs)(o2:∀n∈outs,n∈sms.map (·.1))(o3:∀n∈sms.map (·.1),(∀s∈sms,n∉s.2.2)→n∈outs):ShOk ⟨ins',sms,outs⟩:=by
 have rp:∀r,r∈(Sht.mk ins' sms outs).rows↔r∈Y9 ins sms:=fun r=>by
  simp only[Sht.rows,List.mem_append]
  rw[p.mem_iff]
 have tp:((Sht.mk ins' sms outs).tbs).Perm (ins.map (·.1)++sms.map (·.1)):=by
  rw[Sht.tbs_eq]
  exact List.Perm.append_right _ (p.map _)
 have nd:=tp.nodup_iff.mpr P.ndn
 refine { nd:=nd,nm:=fun x hx=>adg x (P.nm x (List.mem_append_left _ (tp.mem_iff.mp hx))),ax:=fun r hr=>P.ax r ((rp r).mp hr),cn:=fun r hr=>P.cn r ((rp r).mp hr),fewi:=by rw[p.length_eq];exact hi,fews:=hs,rcn:=P.rcn,ord:=fun pre s post e r hr=>(P.ord pre s post e r hr).imp (fun h=>(p.map _).mem_iff.mpr h) id,sub:=?_,rne:=P.rne,ocn:=o1,out:=o2,unread:=o3 }
 intro s hs x hx
 obtain⟨r,q1,q2,q3⟩:=P.sub s hs x hx
 refine⟨r.1,q2,?_⟩
 unfold Sht.own
 rw[XW (v:=r.2) nd ((rp r).mpr q1)]
 exact q3
end
theorem ZJ{j:Nat}{env:Env}{g:D}{u:List Str}{z:Str}(h0:env[j]? = some (some (lS (u++[z])))):J7 j env g=some (.str z,env.set j (some (lS u)),g):=by
 unfold J7
 rw[h0]
 show((some ((u++[z]).map PyData.str)).bind _)=_
 rw[Option.bind_some]
 simp[lS]
theorem QR{i:Nat}{m:XM}{fa:LF}{env env1:Env}{g g1 g2 a:D}{ds xs:List D}(hm:m env g=some (a,env1,g1))(hf:fa env1 g1=some (ds,g2))(h0:env1[i]? = some (some (.list xs)))(hl:xs.length<16000000)(hd:ds.length+1<16000000):jL i m fa env g=some (.nx (env1.set i (some (.list (xs++[.tuple (a::ds)])))) g2):=by
 unfold jL
 rw[hm,Option.bind_some]
 show((fa env1 g1).bind _)=_
 rw[hf,Option.bind_some]
 show((env1[i]?.join.bind Ji).bind _)=_
 rw[h0]
 show(if sz xs.length&&sz (ds.length+1) then _ else none)=_
 rw[if_pos (by rw[VC hl,VC hd];rfl)]
theorem afw{ys:List Str}(h:ys≠[]){g:D}(hb:Bag g):lS ys∉yh g:=by
 obtain⟨a,m,k,cs,rfl,_⟩:=hb
 have e0:∀l:List Int,yD (l.map PyData.int)=[]:=fun l=>by
  induction l with
  | nil=>rfl
  | cons x l ih=>rw[List.map_cons,yD,ih];simp[yh]
 cases ys with
 | nil=>exact absurd rfl h
 | cons y ys =>
  unfold vN
  rw[yh]
  simp only[yD,yh,e0,List.append_nil,List.nil_append,List.mem_cons,List.mem_singleton,List.not_mem_nil,or_false]
  rintro(e | e)
  ·have:=PyData.list.inj e
   simp at this
  ·have:=PyData.list.inj e
   cases cs <;> simp at this
theorem agp{sms:List (Str×List Str×List Str)}{fi:IF}{env:Env}{g g0:D}{rl:List Str}{k r:Nat}{many:Nat}(h0:fi env g=some (sms.map smD,g0))(hb:Bag g0)(hl:sms.length≤100)(hm:1≤many∧many≤1000)(hk:k<env.length)(hw:∀x:D,(zJ env [k]).set k (some x)=env.set k (some x))(hr:env[r]? = some (some (lS rl)))(hrk:r≠k)(ok1:∀s∈sms,okS s.1=true)(ok2:∀x∈rl,okS x=true) :
  ∃(ws:List Str) (g':D),xLc fi (zh k) (bOr (bT (xOp (inD true) (xOp ixD (xV k) (xC (.int 0))) (xV r))) (bT (xOp eqD (zw zm (za (xC (.int (many:Nat))) zb)) (xC (.int 0))))) (xOp ixD (xV k) (xC (.int 0))) [k] env g=some (lS ws,g')∧ws.Sublist (sms.map (·.1))∧(∀s∈sms,s.1∉rl→s.1∈ws)∧Bag g':=by
 have lc:=VU (h:=zh k) (t:=bOr (bT (xOp (inD true) (xOp ixD (xV k) (xC (.int 0))) (xV r))) (bT (xOp eqD (zw zm (za (xC (.int (many:Nat))) zb)) (xC (.int 0))))) (f:=xOp ixD (xV k) (xC (.int 0))) (env:=zJ env [k]) smD
  (fun rest ds g=>Bag g∧∃(ws:List Str) (done:List (Str×List Str×List Str)),done++rest=sms∧ds=ws.map .str∧ws.Sublist (done.map (·.1))∧∀s∈done,s.1∉rl→s.1∈ws)
  (fun s rest ds g ⟨hg,ws,done,e,eds,hs,hu⟩=>by
   have hv:∀g',xOp ixD (xV k) (xC (.int 0)) (env.set k (some (smD s))) g'=some (.str s.1,g'):=fun g'=>zu (vo (by rw[List.getElem?_set_self hk])) rfl rfl
   have c1:bT (xOp (inD true) (xOp ixD (xV k) (xC (.int 0))) (xV r)) (env.set k (some (smD s))) g=some (!decide (s.1∈rl),g):=zP (zu (hv g) (vo (by rw[List.getElem?_set_ne (Ne.symm hrk)];exact hr)) (by rw[(ym (neg:=true) (ok1 s (by rw[←e];simp)) ok2).1];rfl))
   have take:∃b g',bOr (bT (xOp (inD true) (xOp ixD (xV k) (xC (.int 0))) (xV r))) (bT (xOp eqD (zw zm (za (xC (.int (many:Nat))) zb)) (xC (.int 0)))) (env.set k (some (smD s))) g=some (b,g')∧(b=false→s.1∈rl)∧Bag g':=by
    by_cases h:s.1∈rl
    ·obtain⟨x,g',e1,e2,e3,e4⟩:=vP (many:=(many:Nat)) (g:=g) (by omega) (by omega) hg
     have c2:bT (xOp eqD (zw zm (za (xC (.int (many:Nat))) zb)) (xC (.int 0))) (env.set k (some (smD s))) g=some (decide (x=0),g'):=zP (zu (zM rfl e1) rfl (QJ _ _))
     refine⟨decide (x=0),g',?_,fun _=>h,e4⟩
     unfold bOr
     rw[c1,Option.bind_some]
     simp only[h,decide_true,Bool.not_true]
     exact(if_neg (by simp)).trans c2
    ·refine⟨true,g,?_,(fun z=>nomatch z),hg⟩
     unfold bOr
     rw[c1,Option.bind_some]
     simp[h]
   obtain⟨b,g',t1,t2,t3⟩:=take
   refine⟨_,b,g',rfl,by rw[hw];exact t1,fun _=>⟨_,g',by rw[hw];exact hv g',t3,ws++[s.1],done++[s],by simpa using e,by rw[eds];simp,by rw[List.map_append];exact hs.append (List.Sublist.refl _),fun x hx hn=>?_⟩,fun hb=>⟨t3,ws,done++[s],by simpa using e,eds,by rw[List.map_append];exact hs.trans (List.sublist_append_left _ _),fun x hx hn=>?_⟩⟩
   ·rcases List.mem_append.mp hx with z | z
    ·exact List.mem_append_left _ (hu x z hn)
    ·rw[List.mem_singleton.mp z];simp
   ·rcases List.mem_append.mp hx with z | z
    ·exact hu x z hn
    ·rw[List.mem_singleton.mp z] at hn
     exact absurd (t2 hb) hn)
  sms [] g0 ⟨hb,[],[],rfl,rfl,.refl _,by simp⟩
 obtain⟨q,g2,l1,l2,ws,done,e,eds,hs,hu⟩:=lc
 rw[List.append_nil] at e
 subst e
 rw[List.nil_append] at eds
 subst eds
 have:=hs.length_le
 rw[List.length_map] at this
 exact⟨ws,g2,Yp h0 l1 (by rw[List.length_map];omega),hs,hu,l2⟩
abbrev ahA:XF:=zY (za (xC (.str "i")) (za (xC (.str "j")) (za (xC (.str "k")) (za (xC (.str "ab")) (za (xC (.str "zzzzzz")) (za (xC (.str "b")) (za (xC (.str "aaaaaa")) zb)))))))
abbrev agM:XF:=zY (za (xC (.str "t")) (za (xC (.str "u")) (za (xC (.str "v")) (za (xC (.str "x")) (za (xC (.str "y")) (za (xC (.str "p")) (za (xC (.str "q")) (za (xC (.str "r")) (za (xC (.str "s")) (za (xC (.str "end")) (za (xC (.str "add")) (za (xC (.str "abcdef")) zb))))))))))))
theorem adi(env:Env)(g:D):ahA env g=some (lS ax7,g):=rfl
theorem afx(env:Env)(g:D):agM env g=some (lS Gc,g):=rfl
theorem aio{m k:Nat}:Xg [.int 1,.int ((m:Nat) - (k:Nat):Int)]=some (.int (((max 1 (m - k):Nat)):Int)):=by
 show some (PyData.int (if((m:Int) - (k:Int))>1 then _ else _))=_
 split
 ·congr 2;omega
 ·congr 2;omega
theorem Za{env:Env}{g:D}(hb:Bag g):∃(zs:List Str) (g':D),VW zC agM env g=some (lS zs,g')∧zs.Perm Gc∧Bag g':=by
 obtain⟨zs,g',m1,m2,m3⟩:=jP PyData.str (d:=lS Gc) (xs:=Gc) (g:=g) rfl (by decide) hb
 have zn:zs≠[]:=fun e=>by
  have:=m2.length_eq
  rw[e] at this
  exact absurd this (by decide)
 have sc:∀l:List Str,(l.map PyData.str).all JS=true:=fun l=>by simp[JS]
 exact⟨zs,g',ac4 (afx env g) m1 ⟨Gc.map .str,zs.map .str,rfl,sc _,rfl,sc _,afw zn hb,afw zn m3⟩,m2,m3⟩
theorem QS{f:XF}{env:Env}{g g1:D}{l:List Str}(h:f env g=some (lS l,g1))(hl:l.length<16000000):xCB yq (za (jC yu (za f zb)) zb) env g=some (tS (srt l),g1) :=
 yg (zd (jo (zd h rfl) (vi hl).1) rfl) rfl
theorem aa5{as:List D}(l:List Str):WQ as (tS l):=fun e he=>by rw[JN] at he;cases he
theorem afy{as:List D}(i:Int):WQ as (.int i):=fun e he=>by simp[yh] at he
theorem jy{k:Nat}{xs:List Nat}{done:List Nat}(h:done++xs=List.range k):done.length+xs.length=k:=by
 have:=congrArg List.length h
 rwa[List.length_append,List.length_range] at this
theorem afz{k n:Nat}{xs done:List Nat}(h:done++n::xs=List.range k):n=done.length:=by
 have h1:(done++n::xs)[done.length]? = some n:=by simp
 rw[h,List.getElem?_range] at h1
 ·exact(Option.some.inj h1).symm
 ·have:=jy h
  simp at this
  omega
theorem Ir{ins:List (Str×List Str)}{sms:List (Str×List Str×List Str)}{nl:List Str}(P:ShP ins sms nl)(hi:ins.length≤6)(hs:sms.length≤6){many:Nat}(hm:1≤many∧many≤1000){env:Env}{g:D}(hb:Bag g){a b k r o:Nat}(he:∀j,j=k∨j=r∨j=o→j<env.length)(e1:env[a]? = some (some (.list (ins.map yw))))(e2:env[b]? = some (some (.list (sms.map smD))))(hk:∀x:D,(zJ env [k]).set k (some x)=env.set k (some x))(hk2:∀(x y:D),(zJ (env.set r (some y)) [k]).set k (some x)=(env.set r (some y)).set k (some x))
  (d1:a≠r∧a≠o∧b≠r∧b≠o∧b≠k∧r≠k∧r≠o∧o≠k∧a≠k):∃(S:Sht) (g':D),ShOk S∧S.sms=sms∧S.ins.Perm ins∧Bag g'∧zg (z9 r (zy yl (za (xLc (zG (xV b)) (zh k) vh (xOp ixD (xV k) (xC (.int 2))) [k]) zb))) (zg (z9 o (xLc (zG (xV b)) (zh k) (bOr (bT (xOp (inD true) (xOp ixD (xV k) (xC (.int 0))) (xV r))) (bT (xOp eqD (zw zm (za (xC (.int (many:Nat))) zb)) (xC (.int 0))))) (xOp ixD (xV k) (xC (.int 0))) [k])) (zg (ya (zV (za (xCB yq (za (zw zC (za (xV a) zb)) zb)) (za (xCB yq (za (xV b) zb)) (za (xCB yq (za (jC yu (za (xV o) zb)) zb)) zb))))) zv)) env g=some (.rt (shD S) g'):=by
 have rl:∀s∈sms,s.2.2.length≤12:=fun s h=>by
  obtain⟨pre,post,ep⟩:=List.append_of_mem h
  have sub:∀r∈s.2.2,r∈ins.map (·.1)++sms.map (·.1):=fun r hr=>by
   rcases P.ord pre s post ep r hr with z | z
   ·exact List.mem_append_left _ z
   ·refine List.mem_append_right _ ?_
    rw[ep,List.map_append]
    exact List.mem_append_left _ z
  have:=(P.rcn s h).nd.length_le_of_subset sub
  have e:(ins.map (·.1)++sms.map (·.1)).length=ins.length+sms.length:=by simp
  omega
 have fl:((sms.map (·.2.2)).flatten).length≤12*sms.length:=by
  have key:∀l:List (Str×List Str×List Str),(∀s∈l,s.2.2.length≤12)→((l.map (·.2.2)).flatten).length≤12*l.length:=by
   intro l
   induction l with
   | nil=>intro _;simp
   | cons s l ih =>
    intro h
    have h1:=ih fun s hs=>h s (List.mem_cons_of_mem _ hs)
    have h2:=h s (by simp)
    rw[List.map_cons,List.flatten_cons,List.length_append,List.length_cons]
    omega
  exact key sms rl
 have c1:=ja (fi:=zG (xV b)) (hg:=zh k) (ff:=xOp ixD (xV k) (xC (.int 2))) (vs:=[k]) (env:=env) (g:=g) (g1:=g) smD (fun s=>tS s.2.2) (xs:=sms) (zI (vo e2) rfl) (fun s hs=>⟨_,rfl,zu (vo (show((zJ env [k]).set k (some (smD s)))[k]? = _ by rw[hk,List.getElem?_set_self (he k (.inl rfl))])) rfl rfl⟩) (by omega)
 have c2:=ZH (sms.map (·.2.2)) (by rw[List.length_map];omega) (by omega)
 rw[List.map_map] at c2
 have okread:∀x∈(sms.map (·.2.2)).flatten,okS x=true:=fun x hx=>by
  obtain⟨l,hl,hx⟩:=List.mem_flatten.mp hx
  obtain⟨s,hs,rfl⟩:=List.mem_map.mp hl
  obtain⟨pre,post,ep⟩:=List.append_of_mem hs
  rcases P.ord pre s post ep x hx with z | z
  ·exact P.okn x (List.mem_append_left _ z)
  ·refine P.okn x (List.mem_append_right _ ?_)
   rw[ep,List.map_append]
   exact List.mem_append_left _ z
 let env2:=env.set r (some (lS (sms.map (·.2.2)).flatten))
 obtain⟨ws,g1,w1,w2,w3,w4⟩:=agp (sms:=sms) (fi:=zG (xV b)) (env:=env2) (g:=g) (g0:=g) (rl:=(sms.map (·.2.2)).flatten) (k:=k) (r:=r) (many:=many) (zI (vo (by show(env.set r _)[b]? = _;rw[List.getElem?_set_ne (by omega)];exact e2)) rfl) hb (by omega) hm (by show k<(env.set r _).length;rw[List.length_set];exact he k (.inl rfl)) (fun x=>hk2 x _) (by show(env.set r _)[r]? = _;rw[List.getElem?_set_self (he r (.inr (.inl rfl)))]) d1.2.2.2.2.2.1 (fun s hs=>P.okn _ (List.mem_append_right _ (List.mem_map_of_mem hs))) okread
 have wl:ws.length≤6:=by
  have:=w2.length_le
  rw[List.length_map] at this
  omega
 let env3:=env2.set o (some (lS ws))
 have l3:∀j,j≠r→j≠o→env3[j]? = env[j]? := fun j h1 h2=>by
  show((env.set r _).set o _)[j]? = _
  rw[List.getElem?_set_ne (Ne.symm h2),List.getElem?_set_ne (Ne.symm h1)]
 obtain⟨zs,g2,m1,m2,m3⟩:=jP yw (d:=.list (ins.map yw)) (xs:=ins) (g:=g1) rfl (by omega) w4
 have ndw:ws.Nodup:=by
  have:=(List.nodup_append.mp P.ndn).2.1
  exact this.sublist w2
 refine⟨⟨zs,sms,srt ws⟩,g2,P.ok hi hs m2 (QM ndw) (fun n hn=>w2.subset (wt.mp hn)) (fun n hn hu=>wt.mpr ?_),rfl,m2,m3,?_⟩
 ·obtain⟨s,hs,rfl⟩:=List.mem_map.mp hn
  refine w3 s hs fun z=>?_
  obtain⟨l,hl,hx⟩:=List.mem_flatten.mp z
  obtain⟨s',hs',rfl⟩:=List.mem_map.mp hl
  exact hu s' hs' hx
 ·refine(zk (zU (zB (zd c1 rfl) c2))).trans ((zk (zU w1)).trans (zL (zZ (zX (ds:=[.tuple (zs.map yw),.tuple (sms.map smD),tS (srt ws)]) (zd (yg (zd (zM (zd (vo ?_) rfl) m1) rfl) rfl) (zd (yg (zd (vo (d:=.list (sms.map smD)) ?_) rfl) rfl) (zd (QS (l:=ws) (vo ?_) (by omega)) rfl))) (by simp)))))
  ·exact(l3 a d1.1 d1.2.1).trans e1
  ·exact(l3 b d1.2.2.1 d1.2.2.2.1).trans e2
  ·show((env.set r _).set o _)[o]? = _
   rw[List.getElem?_set_self (by rw[List.length_set];exact he o (.inr (.inr rfl)))]
abbrev shI:SF:=zg (jL 8 (J7 4) (za (xIf (bT (xOp gtD (xV 5) (xC (.int 0)))) (zw yx (za (xV 3) (za (xC (.int 3)) zb))) (xCB yq (za (jC yu (za (xSl (xV 3) pNo (wv (xC (.int 3)))) zb)) zb))) zb)) zv
noncomputable abbrev shS:SF:=zg (z9 11 (jp yy (za (xV 8) (za (xV 9) (za (xV 10) zb))))) (zg (aaA 10 (Uk 9 (xCB wx (za (xLc (zG (xV 9)) (zh 12) (bT (xOp (inD false) (xOp ixD (xV 12) (xC (.int 0))) (xV 11))) (xV 12) [12]) zb)))) (zg (jL 9 (J7 4) (za (jp yN (za (xV 8) (za (xV 9) (za (xV 11) zb)))) (za (xV 11) zb))) zv))
def shE(most wide:Nat)(AX nl:List Str)(k:Option D)(ins:List (Str×List Str))(sms:List (Str×List Str×List Str))(pr:Int):Env:=[none,some (.int (most:Nat)),some (.int (wide:Nat)),some (lS AX),some (lS nl),k,none,none,some (.list (ins.map yw)),some (.list (sms.map smD)),some (.int pr),none,none]
theorem afA{most wide:Nat}(h1:1≤most∧most≤6)(hw:wide≤100){g:D}(hb:Bag g):∃(S:Sht) (g':D),vj [.int (most:Nat),.int (wide:Nat)] g=some (shD S,g')∧ShOk S∧1≤S.sms.length∧S.sms.length≤most∧1≤S.ins.length∧S.ins.length≤4∧Bag g':=by
 -- axes
 obtain⟨zs,g1,m1,m2,b1⟩:=jP PyData.str (d:=lS ax7) (xs:=ax7) (g:=g) rfl (by decide) hb
 obtain⟨q,g2,o1,o2,b2⟩:=aa3 (ns:=[0,1,0,2]) (g:=g1) (by simp) (by simp) b1
 let Z0:Env:=[none,some (.int (most:Nat)),some (.int (wide:Nat)),none,none,none,none,none,none,none,none,none,none]
 have s3:xSl (zw zC (za ahA zb)) pNo (wv (xCB Xg (za (xC (.int 1)) (za (xOp Ix (xV 2) (zw zO (za (zY (za (xC (.int 0)) (za (xC (.int 1)) (za (xC (.int 0)) (za (xC (.int 2)) zb))))) zb))) zb)))) Z0 g=some (lS (zs.take (max 1 (wide - q))),g2) :=
  Jp (zs:=zs) (k:=max 1 (wide - q)) (zM (zd (adi _ _) rfl) m1) (yg (zd rfl (zd (zu rfl (zM (zd (z8 rfl (by simp)) rfl) o1) rfl) rfl)) aio)
 let AX:=zs.take (max 1 (wide - q))
 have ndA:AX.Nodup:=(m2.nodup_iff.mpr nd7).sublist (List.take_sublist _ _)
 have subA:∀x∈AX,x∈ax7:=fun x hx=>m2.mem_iff.mp (List.mem_of_mem_take hx)
 have lA:AX.length≤7:=ndA.length_le_of_subset subA
 -- names
 let Z1:Env:=Z0.set 3 (some (lS AX))
 obtain⟨ns,g3,n1,n2,b3⟩:=Za (env:=Z1) (g:=g2) b2
 -- inputs
 obtain⟨t,g4,t1,t2,t3,b4⟩:=vP (many:=4) (g:=g3) (by decide) (by decide) b3
 have rt:jT (za (xOp va (xC (.int 1)) (zw zm (za (xC (.int 4)) zb))) zb) (shE most wide AX ns none [] [] 0) g3=some ((List.range (1+t.toNat)).map fun k=>.int (k:Nat),g4):=by
  refine V3 (n:=1+t.toNat) (zd (zu rfl (zM rfl t1) ?_) rfl) (by omega)
  show some (PyData.int (1+t))=_
  rw[show((1+t.toNat:Nat):Int)=1+t by omega]
 obtain⟨e5,g5,f1,ins,nl,done,ed,rfl,P,il,b5⟩:=yM (h:=zh 5) (wp:=[5]) (body:=shI) (fun k:Nat=>PyData.int (k:Nat))
  (fun xs env g=>∃(ins:List (Str×List Str)) (nl:List Str) (done:List Nat),done++xs=List.range (1+t.toNat)∧env=shE most wide AX nl none ins [] 0∧ShP ins [] nl∧ins.length+nl.length=12∧ins.length=done.length∧Bag g)
  (fun k xs env g ⟨ins,nl,done,ed,ee,P,le,ld,hg⟩=>by
   subst ee
   have tr:=jy ed
   have hk:=afz ed
   simp only[List.length_cons] at tr
   rcases List.eq_nil_or_concat nl with rfl | ⟨u,z,rfl⟩
   ·simp at le;omega
   rw[List.concat_eq_append] at P le ⊢
   have pop:J7 4 (shE most wide AX (u++[z]) (some (.int (k:Nat))) ins [] 0) g=some (.str z,shE most wide AX u (some (.int (k:Nat))) ins [] 0,g):=ZJ rfl
   have il:ins.length≤12:=by simp at le;omega
   have axs:∃(A:List Str) (g':D),xIf (bT (xOp gtD (xV 5) (xC (.int 0)))) (zw yx (za (xV 3) (za (xC (.int 3)) zb))) (xCB yq (za (jC yu (za (xSl (xV 3) pNo (wv (xC (.int 3)))) zb)) zb)) (shE most wide AX u (some (.int (k:Nat))) ins [] 0) g=some (tS A,g')∧CnS A∧(∀x∈A,x∈ax7)∧Bag g':=by
    have c:bT (xOp gtD (xV 5) (xC (.int 0))) (shE most wide AX u (some (.int (k:Nat))) ins [] 0) g=some (decide ((0:Int)<(k:Nat)),g):=zP (zu rfl rfl rfl)
    by_cases h:(0:Int)<(k:Nat)
    ·rw[decide_eq_true h] at c
     obtain⟨ys,g',y1,y2,y3,y4,y5⟩:=aa1 (d:=lS AX) (xs:=AX) (most:=3) (g:=g) rfl (by omega) ndA hg
     exact⟨ys,g',(YS c).trans (zM rfl y1),y2,fun x hx=>subA x (y3 x hx),y5⟩
    ·rw[decide_eq_false h] at c
     refine⟨srt (AX.take 3),g,(Ub c).trans (QS (l:=AX.take 3) (Jp (zs:=AX) (k:=3) rfl rfl) (by rw[List.length_take];omega)),QM (ndA.sublist (List.take_sublist _ _)),fun x hx=>subA x (List.mem_of_mem_take (wt.mp hx)),hg⟩
   obtain⟨A,g',a1,a2,a3,a4⟩:=axs
   refine⟨_,_,g',rfl,(zk (QR (env1:=shE most wide AX u (some (.int (k:Nat))) ins [] 0) (xs:=ins.map yw) pop (zd a1 rfl) rfl (by rw[List.length_map];omega) (by simp))).trans rfl,ins++[(z,A)],u,done++[k],by simpa using ed,?_,P.input a2 a3,by simp at le ⊢;omega,by simp[ld],a4⟩
   simp[shE,zJ,yw])
  (List.range (1+t.toNat)) (shE most wide AX ns none [] [] 0) g4 ⟨[],ns,[],rfl,rfl,ShP.start n2,by have:=n2.length_eq;simp at this ⊢;rw[this];rfl,rfl,b4⟩
 obtain⟨il0,b5⟩:=b5
 have i4:ins.length=1+t.toNat:=by
  have:=jy ed
  simp at this
  omega
 -- sums
 obtain⟨t',g6,t1',t2',t3',b6⟩:=vP (many:=(most:Nat)) (g:=g5) (by omega) (by omega) b5
 have rt2:jT (za (xOp va (xC (.int 1)) (zw zm (za (xV 1) zb))) zb) (shE most wide AX nl none ins [] 0) g5=some ((List.range (1+t'.toNat)).map fun k=>.int (k:Nat),g6):=by
  refine V3 (n:=1+t'.toNat) (zd (zu rfl (zM rfl t1') ?_) rfl) (by omega)
  show some (PyData.int (1+t'))=_
  rw[show((1+t'.toNat:Nat):Int)=1+t' by omega]
 obtain⟨e7,g7,f2,sms,nl2,pr,done2,ed2,rfl,P2,sl,b7⟩:=yM (h:=zh 5) (wp:=[5,11,12]) (body:=shS) (fun k:Nat=>PyData.int (k:Nat))
  (fun xs env g=>∃(sms:List (Str×List Str×List Str)) (nl:List Str) (pr:Int) (done:List Nat),done++xs=List.range (1+t'.toNat)∧env=shE most wide AX nl none ins sms pr∧ShP ins sms nl∧ins.length+sms.length+nl.length=12∧sms.length=done.length∧Bag g)
  (fun k xs env g ⟨sms,nl,pr,done,ed,ee,P,le,ld,hg⟩=>by
   subst ee
   have tr:=jy ed
   simp only[List.length_cons] at tr
   rcases List.eq_nil_or_concat nl with rfl | ⟨u,z,rfl⟩
   ·simp at le;omega
   rw[List.concat_eq_append] at P le ⊢
   obtain⟨rd,ga,r1,r2,r3,r4,r5⟩:=US (ins:=ins) (sms:=sms) (pr:=pr) (g:=g) (by omega) (by omega) (by omega) P.ndn P.okn hg
   have okrd:∀r∈rd,okS r=true:=fun r hr=>P.okn r (r4 r hr)
   let Y:List Str→Int→Env:=fun nl pr=>[none,some (.int (most:Nat)),some (.int (wide:Nat)),some (lS AX),some (lS nl),some (.int (k:Nat)),none,none,some (.list (ins.map yw)),some (.list (sms.map smD)),some (.int pr),some (tS rd),none]
   have q1:jp yy (za (xV 8) (za (xV 9) (za (xV 10) zb))) (shE most wide AX (u++[z]) (some (.int (k:Nat))) ins sms pr) g=some (tS rd,ga):=WR rfl r1 (aa5 rd)
   have c1:=QN (fi:=zG (xV 9)) (hg:=zh 12) (tt:=bT (xOp (inD false) (xOp ixD (xV 12) (xC (.int 0))) (xV 11))) (ff:=xV 12) (vs:=[12]) (env:=Y (u++[z]) pr) (g:=ga) (g1:=ga) smD (fun s=>decide (s.1∈rd)) smD (xs:=sms) (zI (d:=.list (sms.map smD)) rfl rfl) (fun s hs=>⟨_,rfl,zP (zu (zu rfl rfl rfl) rfl (by rw[(ym (neg:=false) (P.okn _ (List.mem_append_right _ (List.mem_map_of_mem hs))) okrd).2];rfl)),fun _=>rfl⟩) (by omega)
   have q2:Uk 9 (xCB wx (za (xLc (zG (xV 9)) (zh 12) (bT (xOp (inD false) (xOp ixD (xV 12) (xC (.int 0))) (xV 11))) (xV 12) [12]) zb)) (Y (u++[z]) pr) ga=some (.int ((sms.filter fun s=>decide (s.1∈rd)).length:Nat),ga):=aeY rfl (yg (zd c1 rfl) (by show some (PyData.int (List.length _:Nat))=_;rw[List.length_map])) (afy _)
   obtain⟨A,gb,a1,a2,a3,a4⟩:=aa4 (ins:=ins) (sms:=sms) (rd:=rd) (by omega) (by omega) P.okr P.ax7l okrd (g:=ga) r5
   let pr2:Int:=pr+((sms.filter fun s=>decide (s.1∈rd)).length:Nat)
   have q3:aaA 10 (Uk 9 (xCB wx (za (xLc (zG (xV 9)) (zh 12) (bT (xOp (inD false) (xOp ixD (xV 12) (xC (.int 0))) (xV 11))) (xV 12) [12]) zb))) (Y (u++[z]) pr) ga=some (.nx (Y (u++[z]) pr2) ga):=by
    unfold aaA
    rw[show xV 10 (Y (u++[z]) pr) ga=some (.int pr,ga) from rfl,Option.bind_some,q2]
    rfl
   have pop:J7 4 (Y (u++[z]) pr2) ga=some (.str z,Y u pr2,ga):=ZJ rfl
   have q4:jp yN (za (xV 8) (za (xV 9) (za (xV 11) zb))) (Y u pr2) ga=some (tS A,gb):=WR rfl a1 (aa5 A)
   refine⟨_,_,gb,rfl,(zk (e:=Y (u++[z]) pr) (g1:=ga) (zU q1)).trans ((zk q3).trans ((zk (QR (env1:=Y u pr2) (xs:=sms.map smD) pop (zd q4 (zd rfl rfl)) rfl (by rw[List.length_map];omega) (by simp))).trans rfl)),sms++[(z,A,rd)],u,pr2,done++[k],by simpa using ed,?_,P.sum a2 a3 r2 r3 r4,by simp at le ⊢;omega,by simp[ld],a4⟩
   simp[shE,zJ,smD,Y])
  (List.range (1+t'.toNat)) (shE most wide AX nl none ins [] 0) g6 ⟨[],nl,0,[],rfl,rfl,P,by simpa using il,rfl,b6⟩
 obtain⟨sl0,b7⟩:=b7
 have s4:sms.length=1+t'.toNat:=by
  have:=jy ed2
  simp at this
  omega
 obtain⟨S,g8,so1,so2,so3,b8,fin⟩:=Ir P2 (by omega) (by omega) (many:=5) (by omega) (env:=shE most wide AX nl2 none ins sms pr) (g:=g7) b7 (a:=8) (b:=9) (k:=12) (r:=6) (o:=7) (fun j hj=>by simp[shE];omega) rfl rfl (fun x=>rfl) (fun x y=>rfl) (by decide)
 refine⟨S,g8,jK ?_,so1,by rw[so2];omega,by rw[so2];omega,by rw[so3.length_eq];omega,by rw[so3.length_eq];omega,b8⟩
 show XR Z0 g=_
 exact(zk (zU s3)).trans ((zk (zU n1)).trans ((zk (e:=shE most wide AX ns none [] [] 0) (g1:=g3) (aeH (z8 rfl (by simp)) (z8 rfl (by simp)) rfl)).trans ((zk (yT rt f1)).trans ((zk (yT rt2 f2)).trans fin))))
def Is(row:List Nat):D:=.tuple (row.map fun k:Nat=>.int (k:Nat))
def abm(web:List (List Nat)):D:=.tuple (web.map Is)
def afB(web:List (List Nat)):Prop:=∀pre row post,web=pre++row::post→row.Nodup∧∀k∈row,k<pre.length
abbrev wbI:SF:=zg (jL 10 (J7 5) (za (xIf (bT (xOp eqD (xV 6) (xC (.int 0)))) (xCB yq (za (jC yu (za (xSl (xV 4) pNo (wv (xOp va (xC (.int 1)) (zw zm (za (xV 12) zb))))) zb)) zb)) (zw yx (za (xV 4) (za (xC (.int 2)) zb)))) zb)) zv
noncomputable abbrev wbS:SF:=zg (z9 13 (xLc (zG (xV 7)) (zh 6) vh (xOp ixD (xOp ixD (xV 11) (xV 6)) (xC (.int 0))) [6])) (zg (sIf (bOr (bT (xOp eqD (xV 13) (zY zb))) (bT (xOp gtD (zw zm (za (xC (.int 3)) zb)) (xC (.int 0))))) (zg (yI 13 (xOp ixD (zw zO (za (xV 10) zb)) (xC (.int 0)))) zv) zv) (zg (jL 11 (J7 5) (za (jp vc (za (xV 10) (za (xV 11) (za (xV 13) (za (xV 3) zb))))) (za (xCB yq (za (jC yu (za (xV 13) zb)) zb)) zb))) zv))
def wbE(web:List (List Nat))(wide rich many:Nat)(AX nl:List Str)(k row:Option D)(ins:List (Str×List Str))(sms:List (Str×List Str×List Str))(rd:Option D):Env:=[none,some (abm web),some (.int (wide:Nat)),some (.int (rich:Nat)),some (lS AX),some (lS nl),k,row,none,none,some (.list (ins.map yw)),some (.list (sms.map smD)),some (.int (many:Nat)),rd]
theorem ahB{web:List (List Nat)}(wo:afB web)(w1:1≤web.length∧web.length≤6){wide rich:Nat}(hw:wide≤100)(hr:1≤rich∧rich≤1000){g:D}(hb:Bag g):∃(S:Sht) (g':D),we [abm web,.int (wide:Nat),.int (rich:Nat)] g=some (shD S,g')∧ShOk S∧S.sms.length=web.length∧1≤S.ins.length∧Bag g':=by
 obtain⟨zs,g1,m1,m2,b1⟩:=jP PyData.str (d:=lS ax7) (xs:=ax7) (g:=g) rfl (by decide) hb
 let Z0:Env:=[none,some (abm web),some (.int (wide:Nat)),some (.int (rich:Nat)),none,none,none,none,none,none,none,none,none,none]
 have s3:xSl (zw zC (za ahA zb)) pNo (wv (xV 2)) Z0 g=some (lS (zs.take wide),g1):=Jp (zs:=zs) (k:=wide) (zM (zd (adi _ _) rfl) m1) rfl
 let AX:=zs.take wide
 have ndA:AX.Nodup:=(m2.nodup_iff.mpr nd7).sublist (List.take_sublist _ _)
 have subA:∀x∈AX,x∈ax7:=fun x hx=>m2.mem_iff.mp (List.mem_of_mem_take hx)
 have lA:AX.length≤7:=ndA.length_le_of_subset subA
 let Z1:Env:=Z0.set 4 (some (lS AX))
 obtain⟨ns,g3,n1,n2,b3⟩:=Za (env:=Z1) (g:=g1) b1
 obtain⟨many,gm,o1,o2,bm⟩:=aa3 (ns:=[1,2,5]) (g:=g3) (by simp) (by simp) b3
 have hm:1≤many∧many≤5:=by
  simp only[List.mem_cons,List.not_mem_nil,or_false] at o2
  omega
 obtain⟨t,g4,t1,t2,t3,b4⟩:=vP (many:=6) (g:=gm) (by decide) (by decide) bm
 have rt:jT (za (xOp va (xC (.int 1)) (zw zm (za (xC (.int 6)) zb))) zb) (wbE web wide rich many AX ns none none [] [] none) gm=some ((List.range (1+t.toNat)).map fun k=>.int (k:Nat),g4):=by
  refine V3 (n:=1+t.toNat) (zd (zu rfl (zM rfl t1) ?_) rfl) (by omega)
  show some (PyData.int (1+t))=_
  rw[show((1+t.toNat:Nat):Int)=1+t by omega]
 obtain⟨e5,g5,f1,ins,nl,done,ed,rfl,P,il,il0,b5⟩:=yM (h:=zh 6) (wp:=[6]) (body:=wbI) (fun k:Nat=>PyData.int (k:Nat))
  (fun xs env g=>∃(ins:List (Str×List Str)) (nl:List Str) (done:List Nat),done++xs=List.range (1+t.toNat)∧env=wbE web wide rich many AX nl none none ins [] none∧ShP ins [] nl∧ins.length+nl.length=12∧ins.length=done.length∧Bag g)
  (fun k xs env g ⟨ins,nl,done,ed,ee,P,le,ld,hg⟩=>by
   subst ee
   have tr:=jy ed
   simp only[List.length_cons] at tr
   rcases List.eq_nil_or_concat nl with rfl | ⟨u,z,rfl⟩
   ·simp at le;omega
   rw[List.concat_eq_append] at P le ⊢
   have pop:J7 5 (wbE web wide rich many AX (u++[z]) (some (.int (k:Nat))) none ins [] none) g=some (.str z,wbE web wide rich many AX u (some (.int (k:Nat))) none ins [] none,g):=ZJ rfl
   have il:ins.length≤12:=by simp at le;omega
   have axs:∃(A:List Str) (g':D),xIf (bT (xOp eqD (xV 6) (xC (.int 0)))) (xCB yq (za (jC yu (za (xSl (xV 4) pNo (wv (xOp va (xC (.int 1)) (zw zm (za (xV 12) zb))))) zb)) zb)) (zw yx (za (xV 4) (za (xC (.int 2)) zb))) (wbE web wide rich many AX u (some (.int (k:Nat))) none ins [] none) g=some (tS A,g')∧CnS A∧(∀x∈A,x∈ax7)∧Bag g':=by
    have c:bT (xOp eqD (xV 6) (xC (.int 0))) (wbE web wide rich many AX u (some (.int (k:Nat))) none ins [] none) g=some (decide (((k:Nat):Int)=0),g):=zP (zu rfl rfl (QJ _ _))
    by_cases h:((k:Nat):Int)=0
    ·rw[decide_eq_true h] at c
     obtain⟨r,g',e1,e2,e3,e4⟩:=vP (many:=(many:Nat)) (g:=g) (by omega) (by omega) hg
     have cc:xOp va (xC (.int 1)) (zw zm (za (xV 12) zb)) (wbE web wide rich many AX u (some (.int (k:Nat))) none ins [] none) g=some (.int ((1+r.toNat:Nat):Nat),g'):=by
      refine zu rfl (zM rfl e1) ?_
      show some (PyData.int (1+r))=_
      rw[show((1+r.toNat:Nat):Int)=1+r by omega]
     exact⟨srt (AX.take (1+r.toNat)),g',(YS c).trans (QS (l:=AX.take (1+r.toNat)) (Jp (zs:=AX) (k:=1+r.toNat) rfl cc) (by rw[List.length_take];omega)),QM (ndA.sublist (List.take_sublist _ _)),fun x hx=>subA x (List.mem_of_mem_take (wt.mp hx)),e4⟩
    ·rw[decide_eq_false h] at c
     obtain⟨ys,g',y1,y2,y3,y4,y5⟩:=aa1 (d:=lS AX) (xs:=AX) (most:=2) (g:=g) rfl (by omega) ndA hg
     exact⟨ys,g',(Ub c).trans (zM rfl y1),y2,fun x hx=>subA x (y3 x hx),y5⟩
   obtain⟨A,g',a1,a2,a3,a4⟩:=axs
   refine⟨_,_,g',rfl,(zk (QR (env1:=wbE web wide rich many AX u (some (.int (k:Nat))) none ins [] none) (xs:=ins.map yw) pop (zd a1 rfl) rfl (by rw[List.length_map];omega) (by simp))).trans rfl,ins++[(z,A)],u,done++[k],by simpa using ed,?_,P.input a2 a3,by simp at le ⊢;omega,by simp[ld],a4⟩
   simp[wbE,zJ,yw])
  (List.range (1+t.toNat)) (wbE web wide rich many AX ns none none [] [] none) g4 ⟨[],ns,[],rfl,rfl,ShP.start n2,by have:=n2.length_eq;simp at this ⊢;rw[this];rfl,rfl,b4⟩
 have i4:ins.length=1+t.toNat:=by
  have:=jy ed
  simp at this
  omega
 obtain⟨e7,g7,f2,sms,nl2,done2,ed2,rfl,P2,sl,sl0,b7⟩:=yM (h:=zh 7) (wp:=[6,13,7]) (body:=wbS) Is
  (fun xs env g=>∃(sms:List (Str×List Str×List Str)) (nl:List Str) (done:List (List Nat)),done++xs=web∧env=wbE web wide rich many AX nl none none ins sms none∧ShP ins sms nl∧ins.length+sms.length+nl.length=12∧sms.length=done.length∧Bag g)
  (fun row xs env g ⟨sms,nl,done,ed,ee,P,le,ld,hg⟩=>by
   subst ee
   obtain⟨rnd,rlt⟩:=wo done row xs ed.symm
   have tr:=congrArg List.length ed
   simp only[List.length_append,List.length_cons] at tr
   rcases List.eq_nil_or_concat nl with rfl | ⟨u,z,rfl⟩
   ·simp at le;omega
   rw[List.concat_eq_append] at P le ⊢
   have rlen:row.length≤6:=by
    have:=rnd.length_le_of_subset (l₂:=List.range done.length) fun k hk=>List.mem_range.mpr (rlt k hk)
    rw[List.length_range] at this
    omega
   let nmAt:Nat→Str:=fun k=>(sms.getD k default).1
   have at':∀k∈row,sms[k]? = some (sms.getD k default):=fun k hk=>by
    have:=rlt k hk
    rw[List.getD_eq_getElem?_getD,List.getElem?_eq_getElem (by omega)]
    rfl
   have c1:=ja (fi:=zG (xV 7)) (hg:=zh 6) (ff:=xOp ixD (xOp ixD (xV 11) (xV 6)) (xC (.int 0))) (vs:=[6]) (env:=wbE web wide rich many AX (u++[z]) none (some (Is row)) ins sms none) (g:=g) (g1:=g) (fun k:Nat=>PyData.int (k:Nat)) (fun k=>PyData.str (nmAt k)) (xs:=row) (zI (d:=Is row) rfl rfl) (fun k hk=>⟨_,rfl,zu (zu rfl rfl (ixL (k:=k) (by rw[List.getElem?_map,at' k hk];rfl))) rfl rfl⟩) (by omega)
   let R0:=row.map nmAt
   have c1:xLc (zG (xV 7)) (zh 6) vh (xOp ixD (xOp ixD (xV 11) (xV 6)) (xC (.int 0))) [6] (wbE web wide rich many AX (u++[z]) none (some (Is row)) ins sms none) g=some (lS R0,g):=by
    rw[c1];simp[lS,R0,Function.comp_def]
   have R0s:∀r∈R0,r∈sms.map (·.1):=fun r hr=>by
    obtain⟨k,hk,rfl⟩:=List.mem_map.mp hr
    exact List.mem_map_of_mem (List.mem_of_getElem? (at' k hk))
   have nds:(sms.map (·.1)).Nodup:=(List.nodup_append.mp P.ndn).2.1
   have R0n:R0.Nodup:=by
    refine List.pairwise_map.mpr (rnd.imp_of_mem fun {a b} ha hb hne e=>hne ?_)
    have la:=rlt a ha
    have lb:=rlt b hb
    have ea:(sms.map (·.1))[a]? = some (nmAt a):=by rw[List.getElem?_map,at' a ha];rfl
    have eb:(sms.map (·.1))[b]? = some (nmAt b):=by rw[List.getElem?_map,at' b hb];rfl
    have:=(List.getElem?_inj (by rw[List.length_map];omega) nds (i:=a) (j:=b)).mp (by rw[ea,eb,e])
    exact this
   have okR0:∀x∈R0,okS x=true:=fun x hx=>P.okn x (List.mem_append_right _ (R0s x hx))
   let Y:List Str→Option D→Env:=fun nl rd=>wbE web wide rich many AX nl none (some (Is row)) ins sms rd
   -- an input,or none
   have inp:∃(R:List Str) (g':D),sIf (bOr (bT (xOp eqD (xV 13) (zY zb))) (bT (xOp gtD (zw zm (za (xC (.int 3)) zb)) (xC (.int 0))))) (zg (yI 13 (xOp ixD (zw zO (za (xV 10) zb)) (xC (.int 0)))) zv) zv (Y (u++[z]) (some (lS R0))) g=some (.nx (Y (u++[z]) (some (lS R))) g')∧R.Nodup∧R≠[]∧(∀r∈R,r∈ins.map (·.1)++sms.map (·.1))∧R.length≤7∧Bag g':=by
    have app:∀g,Bag g→∃(R:List Str) (g':D),zg (yI 13 (xOp ixD (zw zO (za (xV 10) zb)) (xC (.int 0)))) zv (Y (u++[z]) (some (lS R0))) g=some (.nx (Y (u++[z]) (some (lS R))) g')∧R.Nodup∧R≠[]∧(∀r∈R,r∈ins.map (·.1)++sms.map (·.1))∧R.length≤7∧Bag g':=fun g hg=>by
     obtain⟨d,g',e1,e2,e3⟩:=aa2 (ds:=ins.map yw) (g:=g) (by intro e;have:=congrArg List.length e;rw[List.length_map,List.length_nil] at this;omega) (by rw[List.length_map];omega) hg
     obtain⟨r,hr,rfl⟩:=List.mem_map.mp e2
     refine⟨R0++[r.1],g',(zk (jv (i:=13) (ds:=R0.map .str) (d:=.str r.1) (g1:=g') rfl (zu (zM rfl e1) rfl rfl) (by simp[R0];omega))).trans (by simp[Y,wbE,lS,zv]),?_,by simp,fun x hx=>?_,by simp[R0];omega,e3⟩
     ·rw[List.nodup_append]
      refine⟨R0n,by simp,fun x hx y hy e=>?_⟩
      rw[List.mem_singleton.mp hy] at e
      exact(List.nodup_append.mp P.ndn).2.2 r.1 (List.mem_map_of_mem hr) x (R0s x hx) e.symm
     ·rcases List.mem_append.mp hx with h | h
      ·exact List.mem_append_right _ (R0s x h)
      ·rw[List.mem_singleton.mp h]
       exact List.mem_append_left _ (List.mem_map_of_mem hr)
    have ce:bT (xOp eqD (xV 13) (zY zb)) (Y (u++[z]) (some (lS R0))) g=some (R0.isEmpty,g):=by
     refine zP (zu rfl (z8 rfl (by simp)) ?_)
     show eqD (lS R0) (.list [])=_
     unfold lS
     rw[IW (Gd.lS okR0)]
     simp
    cases hR:R0.isEmpty with
    | true =>
     rw[hR] at ce
     obtain⟨R,g',q⟩:=app g hg
     have c:bOr (bT (xOp eqD (xV 13) (zY zb))) (bT (xOp gtD (zw zm (za (xC (.int 3)) zb)) (xC (.int 0)))) (Y (u++[z]) (some (lS R0))) g=some (true,g):=by
      unfold bOr
      rw[ce,Option.bind_some]
      exact if_pos rfl
     exact⟨R,g',(Qn c).trans q.1,q.2⟩
    | false =>
     rw[hR] at ce
     obtain⟨x,ga,e1,e2,e3,e4⟩:=vP (many:=3) (g:=g) (by decide) (by decide) hg
     have c:bOr (bT (xOp eqD (xV 13) (zY zb))) (bT (xOp gtD (zw zm (za (xC (.int 3)) zb)) (xC (.int 0)))) (Y (u++[z]) (some (lS R0))) g=some (decide (0<x),ga):=by
      unfold bOr
      rw[ce,Option.bind_some]
      exact(if_neg (by simp)).trans (zP (zu (zM rfl e1) rfl rfl))
     by_cases hx:0<x
     ·rw[decide_eq_true hx] at c
      obtain⟨R,g',q⟩:=app ga e4
      exact⟨R,g',(Qn c).trans q.1,q.2⟩
     ·rw[decide_eq_false hx] at c
      exact⟨R0,ga,(wB c).trans rfl,R0n,(by intro e;rw[e] at hR;cases hR),fun r hr=>List.mem_append_right _ (R0s r hr),by simp[R0];omega,e4⟩
   obtain⟨R,ga,i1,i2,i3,i4',i5,i6⟩:=inp
   have okR:∀r∈R,okS r=true:=fun r hr=>P.okn r (i4' r hr)
   obtain⟨A,gb,a1,a2,a3,a4⟩:=abl (ins:=ins) (sms:=sms) (rd:=R) (by omega) (by omega) P.okr P.ax7l okR (dr:=lS R) (.inr rfl) (rich:=rich) hr (g:=ga) i6
   have pop:J7 5 (Y (u++[z]) (some (lS R))) ga=some (.str z,Y u (some (lS R)),ga):=ZJ rfl
   have q4:jp vc (za (xV 10) (za (xV 11) (za (xV 13) (za (xV 3) zb)))) (Y u (some (lS R))) ga=some (tS A,gb):=WR rfl a1 (aa5 A)
   have a3':∀x∈A,x∈Qu ins sms (srt R):=fun x hx=>by
    obtain⟨r,q1,q2,q3⟩:=XZ.mp (a3 x hx)
    exact XZ.mpr ⟨r,q1,wt.mpr q2,q3⟩
   refine⟨_,_,gb,rfl,(zk (e:=Y (u++[z]) (some (lS R0))) (g1:=g) (zU c1)).trans ((zk i1).trans ((zk (QR (env1:=Y u (some (lS R))) (xs:=sms.map smD) pop (zd q4 (zd (QS (l:=R) rfl (by omega)) rfl)) rfl (by rw[List.length_map];omega) (by simp))).trans rfl)),sms++[(z,A,srt R)],u,done++[row],by simpa using ed,?_,P.sum a2 a3' (QM i2) (fun e=>i3 (by
     have:=ZF R
     rw[e] at this
     exact List.eq_nil_of_length_eq_zero this.symm)) (fun r hr=>i4' r (wt.mp hr)),by simp at le ⊢;omega,by simp[ld],a4⟩
   simp[wbE,zJ,smD,Y])
  web (wbE web wide rich many AX nl none none ins [] none) g5 ⟨[],nl,[],rfl,rfl,P,by simpa using il,rfl,b5⟩
 have s4:sms.length=web.length:=by
  rw[List.append_nil] at ed2
  rw[sl0,ed2]
 obtain⟨S,g8,so1,so2,so3,b8,fin⟩:=Ir P2 (by omega) (by omega) (many:=12) (by omega) (env:=wbE web wide rich many AX nl2 none none ins sms none) (g:=g7) b7 (a:=10) (b:=11) (k:=7) (r:=8) (o:=9) (fun j hj=>by simp[wbE];omega) rfl rfl (fun x=>rfl) (fun x y=>rfl) (by decide)
 refine⟨S,g8,jK ?_,so1,by rw[so2];omega,by rw[so3.length_eq];omega,b8⟩
 show UI Z0 g=_
 have par:JC [10,11,12] (za (zY zb) (za (zY zb) (za (zw zO (za (zY (za (xC (.int 1)) (za (xC (.int 2)) (za (xC (.int 5)) zb)))) zb)) zb))) (Z1.set 5 (some (lS ns))) g3=some (.nx (wbE web wide rich many AX ns none none [] [] none) gm):=by
  unfold JC
  rw[zd (a:=.list []) (g1:=g3) (z8 rfl (by simp)) (zd (a:=.list []) (g1:=g3) (z8 rfl (by simp)) (zd (zM (zd (z8 rfl (by simp)) rfl) o1) rfl))]
  rfl
 exact(zk (zU s3)).trans ((zk (zU n1)).trans ((zk par).trans ((zk (yT rt f1)).trans ((zk (yT (zI (d:=abm web) rfl rfl) f2)).trans fin))))
theorem afC{S:Sht}(O:ShOk S){l:List Str}(h:∀x∈l,x∈S.nms)(hl:l.length≤20):Sh 400 (tS l)∧Gd 1 (tS l):=by
 refine⟨(Sh.tuple (m:=12) (ds:=l.map .str) fun d hd=>?_).mono (by rw[List.length_map];omega),Gd.tS fun x hx=>O.ok_nms (h x hx)⟩
 obtain⟨x,hx,rfl⟩:=List.mem_map.mp hd
 exact aia x (O.nm x (O.mem_tbs (h x hx)))
theorem V4{S:Sht}(O:ShOk S){l:List Str}(h:∀x∈l,x∈S.nms)(hl:l.length≤20):zQ [tS l,tS l]=some (.bool true):=ae2 (afC O h hl).2 (afC O h hl).1
structure LotOk(S:Sht)(l:List Str):Prop where
 cn:CnS l
 nm:∀x∈l,x∈S.nms
theorem LotOk.len{S:Sht}(O:ShOk S){l:List Str}(h:LotOk S l):l.length≤6:=Nat.le_trans (h.cn.nd.length_le_of_subset h.nm) O.nms_len
theorem ShOk.cl_ok{S:Sht}(O:ShOk S)(l:List Str):LotOk S (S.cl l):=⟨O.cl_cn l,fun x hx=>O.cl_nm hx⟩
theorem Iu{fk fv:XF}{r:PXF}{env:Env}{g g1 g2 g3 k v:D}{ks:List Key}{rows:List (List Key×D)}(h1:fk env g=some (k,g1))(h2:QD k=some ks)(h3:fv env g1=some (v,g2))(h4:r env g2=some (rows,g3)):QH fk fv r env g=some ((ks,v)::rows,g3):=by
 unfold QH
 rw[h1,Option.bind_some,h2,Option.bind_some,h3,Option.bind_some,h4]
 rfl
theorem ae6{r:PXF}{env:Env}{g g1:D}{rows:List (List Key×D)}(h:r env g=some (rows,g1))(hl:rows.length≤15):Yq r env g=some (agH rows,g1):=by
 unfold Yq
 rw[h,Option.bind_some]
 exact if_pos (decide_eq_true hl)
theorem adk{ns:List Str}(nd:ns.Nodup)(sub:∀x∈ns,x∈(["a", "b", "x"]:List Str)):ShOk ⟨ns.map fun x=>(x,(["i"]:List Str)),[],[]⟩:=by
 have nl:ns.length≤3:=nd.length_le_of_subset sub
 have e:(Sht.mk (ns.map fun x=>(x,(["i"]:List Str))) [] []).tbs=ns:=by simp[Sht.tbs,Sht.rows,Function.comp_def]
 have rw':∀r∈(Sht.mk (ns.map fun x=>(x,(["i"]:List Str))) [] []).rows,r.2=(["i"]:List Str):=fun r hr=>by
  simp only[Sht.rows,List.map_nil,List.append_nil] at hr
  obtain⟨x,_,rfl⟩:=List.mem_map.mp hr
  rfl
 have in15:∀x∈(["a", "b", "x"]:List Str),x∈adW:=by decide +kernel
 have in7:("i" : Str)∈ax7:=by decide +kernel
 exact { nd:=by rw[e];exact nd,nm:=fun x hx=>in15 x (sub x (by rw[e] at hx;exact hx)),ax:=fun r hr x hx=>by rw[rw' r hr,List.mem_singleton] at hx;rw[hx];exact in7,cn:=fun r hr=>by rw[rw' r hr];exact List.pairwise_singleton _ _,fewi:=by simp;omega,fews:=by simp,rcn:=by simp,ord:=fun pre s post e=>by simp at e,sub:=by simp,rne:=by simp,ocn:=List.Pairwise.nil,out:=by simp,unread:=by simp[Sht.nms] }
theorem agq{g:D}(hb:Bag g):∃(S:Sht) (x y g':D),vY [] g=some (.tuple [shD S,x,y],g')∧ShOk S∧S.sms=[]∧Bag g':=by
 obtain⟨zs,g1,m1,m2,b1⟩:=jP PyData.str (d:=lS ["a", "b", "x"]) (xs:=["a", "b", "x"]) (g:=g) rfl (by decide) hb
 obtain⟨t,g2,t1,t2,t3,b2⟩:=vP (many:=3) (g:=g1) (by decide) (by decide) b1
 let ns:=zs.take t.toNat
 have nd:ns.Nodup:=(m2.nodup_iff.mpr (by decide +kernel)).sublist (List.take_sublist _ _)
 have sub:∀x∈ns,x∈(["a", "b", "x"]:List Str):=fun x hx=>m2.mem_iff.mp (List.mem_of_mem_take hx)
 have nl:ns.length≤3:=nd.length_le_of_subset sub
 let ins:List (Str×List Str):=ns.map fun x=>(x,(["i"]:List Str))
 have c0:xSl (zw zC (za (zY (za (xC (.str "a")) (za (xC (.str "b")) (za (xC (.str "x")) zb)))) zb)) pNo (wv (zw zm (za (xC (.int 3)) zb))) [none,none,none,none,none] g=some (lS ns,g2):=by
  refine Jp (zs:=zs) (k:=t.toNat) (zM (zd (z8 rfl (by simp)) rfl) m1) (zM rfl ?_)
  rw[show((t.toNat:Nat):Int)=t by omega]
  exact t1
 have c1:=ja (fi:=zG (xSl (zw zC (za (zY (za (xC (.str "a")) (za (xC (.str "b")) (za (xC (.str "x")) zb)))) zb)) pNo (wv (zw zm (za (xC (.int 3)) zb))))) (hg:=zh 3) (ff:=zV (za (xV 3) (za (zV (za (xC (.str "i")) zb)) zb))) (vs:=[3]) (env:=[none,none,none,none,none]) (g:=g) (g1:=g2) PyData.str (fun x=>yw (x,(["i"]:List Str))) (xs:=ns) (zI c0 rfl) (fun x hx=>⟨_,rfl,zX (zd rfl (zd (zX rfl (by simp)) rfl)) (by simp)⟩) (by omega)
 have c1:xCB yq (za (xLc (zG (xSl (zw zC (za (zY (za (xC (.str "a")) (za (xC (.str "b")) (za (xC (.str "x")) zb)))) zb)) pNo (wv (zw zm (za (xC (.int 3)) zb))))) (zh 3) vh (zV (za (xV 3) (za (zV (za (xC (.str "i")) zb)) zb))) [3]) zb) [none,none,none,none,none] g=some (.tuple (ins.map yw),g2):=by
  refine yg (zd c1 rfl) ?_
  show some (PyData.tuple (ns.map fun x=>yw (x,(["i"]:List Str))))=_
  simp[ins,Function.comp_def]
 obtain⟨dd,hdd⟩:∃dd,∀(env:Env) (g:D),Yq (QH (zV (za (xC (.int 0)) zb)) (xC (.int 5)) (QH (zV (za (xC (.int 1)) zb)) (xC (.int 7)) acV)) env g=some (dd,g):=⟨_,fun _ _=>ae6 (Iu (zX rfl (by simp)) rfl rfl (Iu (zX rfl (by simp)) rfl rfl rfl)) (by simp)⟩
 have c2:=ja (fi:=zG (xV 1)) (hg:=jS 2 (yf (zh 3) (yf (zh 4) j9))) (ff:=zV (za (xV 3) (za (Yq (QH (zV (za (xC (.int 0)) zb)) (xC (.int 5)) (QH (zV (za (xC (.int 1)) zb)) (xC (.int 7)) acV))) zb))) (vs:=[3,4]) (env:=[none,some (.tuple (ins.map yw)),none,none,none]) (g:=g2) (g1:=g2) yw (fun r=>J0 (fun _:List Str=>dd) r) (xs:=ins) (zI (d:=.tuple (ins.map yw)) rfl rfl) (fun r hr=>⟨_,rfl,zX (zd rfl (zd (hdd _ _) rfl)) (by simp)⟩) (by simp[ins];omega)
 have c3:=V0 (enc:=fun _:List Str=>dd) (l:=ins) (by simpa[ins,Function.comp_def] using nd) (by simp[ins];omega)
 have c4:∃x,∀env:Env,env[1]? = some (some (.tuple (ins.map yw)))→xIf (bT (xOp neD (xV 1) (zV zb))) (ac6 (ac5 (xC (.str "i")) (xC (.int 2)) aeV)) xE0 env g2=some (x,g2):=by
  have gd:Gd 3 (.tuple (ins.map yw)):=.tuple fun d hd=>by
   obtain⟨r,hr,rfl⟩:=List.mem_map.mp hd
   exact(adk nd sub).gd_row (by simp only[Sht.rows,List.map_nil,List.append_nil];exact hr)
  have ne:neD (.tuple (ins.map yw)) (.tuple [])=some (.bool (!ins.isEmpty)):=by
   rw[IV gd (Gd.tuple (n:=0) (ds:=[]) (by simp))]
   cases ins <;> simp[PyData.eqv,PyData.eqvAll]
  cases h:!ins.isEmpty with
  | true =>
   rw[h] at ne
   exact⟨_,fun env he=>(YS (zP (zu (vo he) (zX rfl (by simp)) ne))).trans rfl⟩
  | false =>
   rw[h] at ne
   exact⟨_,fun env he=>(Ub (zP (zu (vo he) (zX rfl (by simp)) ne))).trans rfl⟩
 obtain⟨x,c4⟩:=c4
 refine⟨⟨ins,[],[]⟩,x,.dict (alD (fun _:List Str=>dd) ins),g2,jK ?_,adk nd sub,rfl,b2⟩
 show Y2 [none,none,none,none,none] g=_
 exact(zk (zU c1)).trans ((zk (zU (yg (zd c2 rfl) c3))).trans (zL (zZ (zX (zd (zX (zd rfl (zd (zX rfl (by simp)) (zd (zX rfl (by simp)) rfl))) (by simp)) (zd (c4 _ rfl) (zd rfl rfl))) (by simp)))))
theorem agr{S:Sht}(O:ShOk S){g:D}(hb:Bag g):∃(ls:List (List Str)) (g':D),vZ [shD S] g=some (.list (ls.map tS),g')∧(∀l∈ls,LotOk S l)∧ls≠[]∧ls.length≤20∧Bag g':=by
 have n6:=O.nms_len
 obtain⟨zs,g1,m1,m2,b1⟩:=jP PyData.str (d:=lS S.nms) (xs:=S.nms) (g:=g) rfl (by omega) hb
 have it:xSl (zw zC (za (xV 3) zb)) pNo (wv (xC (.int 3))) [none,some (shD S),none,some (lS S.nms),some (.list []),none] g=some (lS (zs.take 3),g1):=Jp (zs:=zs) (k:=3) (zM rfl m1) rfl
 have loop:=yM (h:=zh 2) (wp:=[2]) (body:=zg (yI 4 (zy yH (za (xV 1) (za (xV 2) zb)))) zv) PyData.str
  (fun xs env g=>g=g1∧∃(ls:List (List Str)),env=[none,some (shD S),none,some (lS S.nms),some (.list (ls.map tS)),none]∧(∀l∈ls,LotOk S l)∧ls.length+xs.length≤3∧∀x∈xs,x∈S.nms)
  (fun x xs env g ⟨hg,ls,he,h1,h2,h3⟩=>by
   subst hg he
   simp only[List.length_cons] at h2
   refine⟨_,_,_,rfl,(zk (jv (i:=4) (ds:=ls.map tS) rfl (zB rfl (UQ O (h3 x (by simp)))) (by rw[List.length_map];omega))).trans rfl,rfl,ls++[S.cl (x::S.rdrs x)],by simp[zJ],fun l hl=>?_,by simp;omega,fun y hy=>h3 y (List.mem_cons_of_mem _ hy)⟩
   rcases List.mem_append.mp hl with h | h
   ·exact h1 l h
   ·rw[List.mem_singleton.mp h];exact O.cl_ok _)
  (zs.take 3) [none,some (shD S),none,some (lS S.nms),some (.list []),none] g1 ⟨rfl,[],rfl,by simp,by rw[List.length_take];simp;omega,fun x hx=>m2.mem_iff.mp (List.mem_of_mem_take hx)⟩
 obtain⟨e,g',l1,rfl,ls,rfl,h1,h2,_⟩:=loop
 have lc:=VU (h:=zh 5) (t:=vh) (f:=zw yx (za (xV 3) (za (xC (.int 6)) zb))) (env:=[none,some (shD S),none,some (lS S.nms),some (.list (ls.map tS)),none]) (fun k:Nat=>PyData.int (k:Nat))
  (fun rest ds g=>Bag g∧∃ms:List (List Str),ds=ms.map tS∧(∀l∈ms,LotOk S l)∧ms.length+rest.length=3)
  (fun k rest ds g ⟨hg,ms,e,q1,q2⟩=>by
   obtain⟨ys,g',y1,y2,y3,y4,y5⟩:=aa1 (d:=lS S.nms) (xs:=S.nms) (most:=6) (g:=g) rfl (by omega) O.nds hg
   refine⟨_,true,g,rfl,rfl,fun _=>⟨tS ys,g',zM rfl y1,y5,ms++[ys],by rw[e];simp,fun l hl=>?_,by simp at q2 ⊢;omega⟩,(fun z=>nomatch z)⟩
   rcases List.mem_append.mp hl with h | h
   ·exact q1 l h
   ·rw[List.mem_singleton.mp h];exact⟨y2,y3⟩)
  (List.range 3) [] g' ⟨b1,[],rfl,by simp,by simp⟩
 obtain⟨r,g2,q1,b2,ms,q2,q3,q4⟩:=lc
 rw[List.nil_append] at q2
 subst q2
 simp only[List.length_nil,Nat.add_zero] at q4 h2
 refine⟨ls++ms,g2,jK ?_,fun l hl=>(List.mem_append.mp hl).elim (h1 l) (q3 l),fun e=>?_,by simp;omega,b2⟩
 ·show Y3 [none,some (shD S),none,none,none,none] g=_
  refine(zk (jh (zB rfl (Jv O)) (z8 rfl (by simp)))).trans ((zk (yT (zI it rfl) l1)).trans (zL (zZ (zu (b:=.list (ms.map tS)) rfl (Yp (V3 (n:=3) rfl (by omega)) q1 (by simp;omega)) ?_))))
  rw[abe (by simp only[List.length_map];omega),←List.map_append]
 ·have:=congrArg List.length e
  simp at this
  rw[this.2] at q4
  simp at q4
abbrev UnQ(q r:Qq Str):Prop:=¬(q.1=r.1∧q.2.1=r.2.1)∧¬(q.1=r.2.1∧q.2.1=r.1)
theorem UnQ.sym{q r:Qq Str}(h:UnQ q r):UnQ r q:=⟨fun z=>h.1 ⟨z.1.symm,z.2.symm⟩,fun z=>h.2 ⟨z.2.symm,z.1.symm⟩⟩
theorem UnQ.swap{q q' r:Qq Str}(h:UnQ q r)(e:(q'.1=q.1∧q'.2.1=q.2.1)∨(q'.1=q.2.1∧q'.2.1=q.1)):UnQ q' r:=by
 rcases e with⟨e1,e2⟩ | ⟨e1,e2⟩
 ·unfold UnQ;rw[e1,e2];exact h
 ·unfold UnQ;rw[e1,e2];exact⟨fun z=>h.2 ⟨z.2,z.1⟩,fun z=>h.1 ⟨z.2,z.1⟩⟩
theorem PlOk.at{p:vX}(P:PlOk p){q:Qq Str}(hq:q∈p.pairs):∃s∈p.steps,∃t∈p.steps,s.1=q.1∧t.1=q.2.1∧(∀x∈q.2.2,x∈s.2)∧∀x∈q.2.2,x∈t.2:=by
 have e:=P.w.ends q hq
 obtain⟨s,hs,es⟩:=List.mem_map.mp e.1
 obtain⟨t,ht,et⟩:=List.mem_map.mp e.2.1
 exact⟨s,hs,t,ht,es,et,P.w.sub q hq s hs (.inl es),P.w.sub q hq t ht (.inr et)⟩
theorem PlOk.put{p:vX}(P:PlOk p){l1 l2:List (Qq Str)}{q q':Qq Str}(e:p.pairs=l1++q::l2)(ee:(q'.1=q.1∧q'.2.1=q.2.1)∨(q'.1=q.2.1∧q'.2.1=q.1))(cn:CnS q'.2.2)
  (sub:∀s∈p.steps,(s.1=q.1∨s.1=q.2.1)→∀x∈q'.2.2,x∈s.2) {prs:List (Qq Str)} (pm:prs.Perm (l1++q'::l2)):PlOk ⟨p.steps,prs⟩:=by
 have mem:∀r∈prs,r=q'∨r∈p.pairs:=fun r hr=>by
  have:=pm.mem_iff.mp hr
  rw[e]
  simp at this ⊢
  rcases this with h | h | h
  ·exact .inr (.inl h)
  ·exact .inl h
  ·exact .inr (.inr (.inr h))
 have hq:q∈p.pairs:=by rw[e];simp
 have eq:=P.w.ends q hq
 have un:(l1++q'::l2).Pairwise UnQ:=by
  have u:=P.w.uniq
  rw[e,List.pairwise_append,List.pairwise_cons] at u
  rw[List.pairwise_append,List.pairwise_cons]
  refine⟨u.1,⟨fun r hr=>UnQ.swap (u.2.1.1 r hr) ee,u.2.1.2⟩,fun a ha b hb=>?_⟩
  rcases List.mem_cons.mp hb with h | h
  ·subst h
   exact(UnQ.swap (UnQ.sym (u.2.2 a ha q (by simp))) ee).sym
  ·exact u.2.2 a ha b (by simp[h])
 have len:prs.length=p.pairs.length:=by rw[pm.length_eq,e];simp
 refine⟨P.s,⟨P.w.nd,fun r hr=>?_,un.perm pm.symm fun h=>h.sym,P.w.few,fun r hr=>?_,fun r hr s hs h x hx=>?_,P.w.loops⟩,fun r hr=>?_,by show prs.length≤64;rw[len];exact P.few⟩
 ·rcases mem r hr with h | h
  ·subst h
   rcases ee with⟨e1,e2⟩ | ⟨e1,e2⟩
   ·rw[e1,e2];exact eq
   ·rw[e1,e2];exact⟨eq.2.1,eq.1,fun z=>eq.2.2 z.symm⟩
  ·exact P.w.ends r h
 ·rcases mem r hr with h | h
  ·subst h;exact cn.nd
  ·exact P.w.lots r h
 ·rcases mem r hr with h2 | h2
  ·subst h2
   refine sub s hs ?_ x hx
   rcases ee with⟨e1,e2⟩ | ⟨e1,e2⟩
   ·rw[e1,e2] at h;exact h
   ·rw[e1,e2] at h;exact h.symm
  ·exact P.w.sub r h2 s hs h x hx
 ·rcases mem r hr with h | h
  ·subst h;exact cn
  ·exact P.cn r h
abbrev aa6(w:Str×Str)(q:Qq Str):Prop:=(q.1=w.1∧q.2.1=w.2)∨(q.1=w.2∧q.2.1=w.1)
structure PrsOk(ss:List (Str×List Str))(ws:List (Str×Str))(prs:List (Qq Str)):Prop where
 len:prs.length=ws.length
 mem:∀q∈prs,(∃w∈ws,aa6 w q)∧CnS q.2.2∧∀s∈ss,(s.1=q.1∨s.1=q.2.1)→∀x∈q.2.2,x∈s.2
 un:prs.Pairwise UnQ
theorem ags{w v:Str×Str}{q r:Qq Str}(h:UnP w v)(h1:aa6 w q)(h2:aa6 v r):UnQ q r:=by
 rcases h1 with⟨e1,e2⟩ | ⟨e1,e2⟩
 ·rcases h2 with⟨f1,f2⟩ | ⟨f1,f2⟩
  ·unfold UnQ;rw[e1,e2,f1,f2];exact h
  ·unfold UnQ;rw[e1,e2,f1,f2];exact⟨h.2,h.1⟩
 ·rcases h2 with⟨f1,f2⟩ | ⟨f1,f2⟩
  ·unfold UnQ;rw[e1,e2,f1,f2];exact⟨fun z=>h.2 ⟨z.2,z.1⟩,fun z=>h.1 ⟨z.2,z.1⟩⟩
  ·unfold UnQ;rw[e1,e2,f1,f2];exact⟨fun z=>h.1 ⟨z.2,z.1⟩,fun z=>h.2 ⟨z.2,z.1⟩⟩
theorem PrsOk.snoc{ss:List (Str×List Str)}{ws:List (Str×Str)}{prs:List (Qq Str)}(A:PrsOk ss ws prs){w:Str×Str}{q:Qq Str}(pw:(ws++[w]).Pairwise UnP)(e:aa6 w q)(cn:CnS q.2.2)(sub:∀s∈ss,(s.1=q.1∨s.1=q.2.1)→∀x∈q.2.2,x∈s.2):PrsOk ss (ws++[w]) (prs++[q]):=by
 refine⟨by simp[A.len],fun r hr=>?_,?_⟩
 ·rcases List.mem_append.mp hr with h | h
  ·obtain⟨⟨v,hv,ev⟩,h2⟩:=A.mem r h
   exact⟨⟨v,List.mem_append_left _ hv,ev⟩,h2⟩
  ·simp at h
   subst h
   exact⟨⟨w,by simp,e⟩,cn,sub⟩
 ·rw[List.pairwise_append]
  refine⟨A.un,by simp,fun r hr z hz=>?_⟩
  simp at hz
  subst hz
  obtain⟨⟨v,hv,ev⟩,_⟩:=A.mem r hr
  exact ags ((List.pairwise_append.mp pw).2.2 v hv w (by simp)) ev e
theorem PrsOk.plan{ss:List (Str×List Str)}(S:StpOk ss)(hl:ss.length≤8){ws:List (Str×Str)}(W:TwOk (ss.map (·.1)) ws)(wl:ws.length≤64){prs prs':List (Qq Str)}(A:PrsOk ss ws prs)(pm:prs'.Perm prs):PlOk ⟨ss,prs'⟩:=by
 have m:∀q∈prs',q∈prs:=fun q hq=>pm.mem_iff.mp hq
 refine⟨S,⟨S.nd,fun q hq=>?_,A.un.perm pm.symm fun h=>h.sym,by simpa[Plan.names] using hl,fun q hq=>((A.mem q (m q hq)).2.1).nd,fun q hq=>(A.mem q (m q hq)).2.2,fun s hs=>(S.cn s hs).nd⟩,fun q hq=>(A.mem q (m q hq)).2.1,by show prs'.length≤64;rw[pm.length_eq,A.len];exact wl⟩
 obtain⟨w,hw,e⟩:=(A.mem q (m q hq)).1
 obtain⟨h1,h2,h3⟩:=W.mem w hw
 rcases e with⟨e1,e2⟩ | ⟨e1,e2⟩
 ·rw[e1,e2];exact⟨h1,h2,h3⟩
 ·rw[e1,e2];exact⟨h2,h1,fun z=>h3 z.symm⟩
theorem agt{i:Nat}{f:SF}{env:Env}{g g2 d:D}{ds:List D}(h0:env[i]? = some (some (.list ds)))(h1:f (env.set i none) (.list ds)=some (.rt d g2)):adt i f env g=some (.rt d g):=by
 unfold adt
 rw[h0]
 show((f (env.set i none) (.list ds)).bind fun r=>_)=_
 rw[h1]
 rfl
def l52(W T S N Ls Lo K To Ax Ma A B:Option D):Env:=[none,none,W,T,S,N,Ls,Lo,K,To,Ax,Ma,A,B]
abbrev acp:SF:=zg (sIf (v8 (bT (zy zQ (za (zy Je (za (xV 4) (za (xV 5) zb))) (za (zy yH (za (xV 4) (za (xV 5) zb))) zb))))) (zg (ya (xC (.bool false))) zv) zv) zv
abbrev agN:SF:=zg (sIf (v8 (bT (zy zQ (za (zy wI (za (xV 4) (za (xV 7) (za (xV 10) (za (xV 11) zb))))) (za (zy vJ (za (xV 4) (za (xV 7) (za (xV 10) (za (xV 11) zb))))) zb))))) (zg (ya (xC (.bool false))) zv) zv) zv
abbrev afD:SF:=zg (vd (zG (zV (za (xC (.bool true)) (za (xC (.bool false)) zb)))) (zh 11) [11] agN) zv
abbrev afE:SF:=zg (z9 9 (zy yd (za (xV 4) (za (xV 7) zb)))) (zg (sIf (bOr (v8 (bT (zy zQ (za (xV 9) (za (zy z6 (za (xV 4) (za (xV 7) zb))) zb))))) (v8 (bT (zy zQ (za (zy yd (za (xV 4) (za (xV 9) zb))) (za (xV 9) zb)))))) (zg (ya (xC (.bool false))) zv) zv) (zg (vd (zG (xSl (zw zC (za (zy yV (za (xV 4) zb)) zb)) pNo (wv (xC (.int 2))))) (zh 10) [10,11] afD) zv))
noncomputable abbrev acq:SF:=zg (jb 12 13 (zy z6 (za (xV 4) (za (zw zO (za (xV 6) zb)) zb))) (zy z6 (za (xV 4) (za (zw zO (za (xV 6) zb)) zb)))) (zg (sIf (vr (bT (xOp neD (xV 12) (zV zb))) (vr (bT (xOp neD (xV 13) (zV zb))) (vr (bT (xOp eqD (xLc (zG (xV 12)) (zh 5) (bT (xOp (inD false) (xV 5) (xV 13))) (xV 5) [5]) (zY zb))) (bT (zy yv (za (xV 4) (za (xV 12) (za (xV 13) zb)))))))) (zg (ya (xC (.bool false))) zv) zv) zv)
noncomputable abbrev ahC:SF:=zg (z9 4 (xIf (bT (xOp eqD (zw zm (za (xC (.int 2)) zb)) (xC (.int 0)))) (zw vj (za (xC (.int 6)) (za (xC (.int 5)) zb))) (zw we (za (zw zO (za (xV 2) zb)) (za (xC (.int 4)) (za (xC (.int 4)) zb)))))) (zg (vd (zG (zy ye (za (xV 4) zb))) (zh 5) [5] acp) (zg (z9 6 (zw vZ (za (xV 4) zb))) (zg (vd (zG (xV 6)) (zh 7) [10,7,11,9] afE) (zg (vd (jT (za (xC (.int 6)) zb)) (zh 8) [8,5,12,13] acq) zv))))
section
variable {S:Sht} (O:ShOk S)
include O
theorem ShOk.axes_ok:∀x∈S.axes,okS x=true:=fun x hx=>by
 obtain⟨l,hl,hx⟩:=List.mem_flatten.mp (wZ.mp hx)
 obtain⟨r,hr,rfl⟩:=List.mem_map.mp hl
 exact ok7 x (O.ax r (List.mem_append_left _ hr) x hx)
theorem ae7{W T:Option D}{g:D}:wu (zh 5) [5] acp (S.nms.map .str) (l52 W T (some (shD S)) none none none none none none none none none) g=some (.nx (l52 W T (some (shD S)) none none none none none none none none none) g):=by
 have:=yM (h:=zh 5) (wp:=[5]) (body:=acp) PyData.str
  (fun xs env g'=>g'=g∧env=l52 W T (some (shD S)) none none none none none none none none none∧∀x∈xs,x∈S.nms)
  (fun n xs env g' ⟨hg,he,hx⟩=>by
   subst hg he
   have hn:=hx n (by simp)
   have al:=V4 O (l:=S.cl (n::S.rdrs n)) (fun x h=>O.cl_nm h) (Nat.le_trans (O.cl_len _) (by omega))
   exact⟨_,_,_,rfl,(zk ((wB (wN (c:=true) (zP (zB (zd (zB rfl (ae0 O hn)) (zd (zB rfl (UQ O hn)) rfl)) al)))).trans rfl)).trans rfl,rfl,rfl,fun y hy=>hx y (List.mem_cons_of_mem _ hy)⟩)
  S.nms (l52 W T (some (shD S)) none none none none none none none none none) g ⟨rfl,rfl,fun x hx=>hx⟩
 obtain⟨e,g',l1,rfl,rfl,_⟩:=this
 exact l1
theorem afF{W T:Option D}{ls:List (List Str)}(hls:∀l∈ls,LotOk S l){Ls:D}{g:D}(hb:Bag g):∃g',wu (zh 7) [10,7,11,9] afE (ls.map tS) (l52 W T (some (shD S)) none (some Ls) none none none none none none none) g=some (.nx (l52 W T (some (shD S)) none (some Ls) none none none none none none none) g')∧Bag g':=by
 have:=yM (h:=zh 7) (wp:=[10,7,11,9]) (body:=afE) tS
  (fun xs env g'=>Bag g'∧env=l52 W T (some (shD S)) none (some Ls) none none none none none none none∧∀l∈xs,LotOk S l)
  (fun l xs env g ⟨hg,he,hx⟩=>by
   subst he
   have hl:=hx l (by simp)
   have l6:=hl.len O
   have c1:=V2 O (d:=tS l) (.inr rfl) hl.nm (by omega)
   have c2:=QP O (d:=tS l) (.inr rfl) hl.nm (by omega)
   have c3:=V2 O (d:=tS (S.cl l)) (.inr rfl) (fun x h=>O.cl_nm h) (Nat.le_trans (O.cl_len _) (by omega))
   rw[O.cl_cl hl.nm] at c3
   have al:=V4 O (l:=S.cl l) (fun x h=>O.cl_nm h) (Nat.le_trans (O.cl_len _) (by omega))
   have ax42:S.axes.length≤7:=by
    have:∀x∈S.axes,x∈ax7:=fun x hx=>by
     obtain⟨l,hl,hx⟩:=List.mem_flatten.mp (wZ.mp hx)
     obtain⟨r,hr,rfl⟩:=List.mem_map.mp hl
     exact O.ax r (List.mem_append_left _ hr) x hx
    exact(J9 _).nd.length_le_of_subset this
   obtain⟨zs,g1,m1,m2,b1⟩:=jP PyData.str (d:=tS S.axes) (xs:=S.axes) (g:=g) rfl (by omega) hg
   let Z:Option D→Option D→Env:=fun a m=>l52 W T (some (shD S)) none (some Ls) (some (tS l)) none (some (tS (S.cl l))) a m none none
   have ax:=yM (h:=zh 10) (wp:=[10,11]) (body:=afD) PyData.str
    (fun xs env g'=>g'=g1∧env=Z none none∧∀x∈xs,okS x=true)
    (fun a xs env g' ⟨hg,he,hx⟩=>by
     subst hg he
     have ha:=hx a (by simp)
     have mm:=yM (h:=zh 11) (wp:=[11]) (body:=agN) PyData.bool
      (fun xs env g''=>g''=g'∧env=Z (some (.str a)) none)
      (fun m xs env g'' ⟨hg,he⟩=>by
       subst hg he
       have st:=afo O hl.cn.nd hl.nm ha m
       have st2:=ae1 O hl.cn.nd hl.nm ha m
       have al:=V4 O (l:=S.stp l a m) (fun x h=>hl.nm x (List.mem_filter.mp (wt.mp h)).1) (by
        have:=List.length_filter_le (Yy S l a m) l
        unfold Sht.stp
        rw[ZF];omega)
       exact⟨_,_,_,rfl,(zk ((wB (wN (c:=true) (zP (zB (zd (zB rfl st) (zd (zB rfl st2) rfl)) al)))).trans rfl)).trans rfl,rfl,rfl⟩)
      [true,false] (Z (some (.str a)) none) g' ⟨rfl,rfl⟩
     obtain⟨e,g'',q1,rfl,rfl⟩:=mm
     exact⟨_,_,_,rfl,(zk (yT (zI (zX rfl (by simp)) rfl) q1)).trans rfl,rfl,rfl,fun y hy=>hx y (List.mem_cons_of_mem _ hy)⟩)
    (zs.take 2) (Z none none) g1 ⟨rfl,rfl,fun x hx=>O.axes_ok x (m2.mem_iff.mp (List.mem_of_mem_take hx))⟩
   obtain⟨e,g',q1,rfl,rfl,_⟩:=ax
   refine⟨_,Z none none,g',rfl,(zk (e:=Z none none) (g1:=g) (zU (zB rfl c1))).trans ((zk (e:=Z none none) (g1:=g) ((wB (wC (c:=false) (c2:=false) (wN (c:=true) (zP (zB (zd rfl (zd (zB rfl c2) rfl)) al))) fun _=>wN (c:=true) (zP (zB (zd (zB rfl c3) (zd rfl rfl)) al)))).trans rfl)).trans ((zk (yT (zI (Jp (zs:=zs) (k:=2) (zM (zd (zB rfl (I8 O)) rfl) m1) rfl) rfl) q1)).trans rfl)),b1,rfl,fun y hy=>hx y (List.mem_cons_of_mem _ hy)⟩)
  ls (l52 W T (some (shD S)) none (some Ls) none none none none none none none) g ⟨hb,rfl,hls⟩
 obtain⟨e,g',l1,hb',rfl,_⟩:=this
 exact⟨g',l1,hb'⟩
theorem adl{ls:List (List Str)}(hls:∀l∈ls,LotOk S l)(ne:ls≠[])(hn:ls.length≤20){g:D}(hb:Bag g):∃l g',zO [.list (ls.map tS)] g=some (tS l,g')∧LotOk S l∧Bag g':=by
 obtain⟨d,g',e1,e2,e3⟩:=aa2 (ds:=ls.map tS) (g:=g) (by simpa using ne) (by rw[List.length_map];omega) hb
 obtain⟨l,hl,rfl⟩:=List.mem_map.mp e2
 exact⟨l,g',e1,hls l hl,e3⟩
theorem ae8{W T:Option D}{ls:List (List Str)}(hls:∀l∈ls,LotOk S l)(ne:ls≠[])(hn:ls.length≤20){g:D}(hb:Bag g):∃g',wu (zh 8) [8,5,12,13] acq ((List.range 6).map fun k:Nat=>.int (k:Nat)) (l52 W T (some (shD S)) none (some (.list (ls.map tS))) none none none none none none none) g=some (.nx (l52 W T (some (shD S)) none (some (.list (ls.map tS))) none none none none none none none) g')∧Bag g':=by
 have:=yM (h:=zh 8) (wp:=[8,5,12,13]) (body:=acq) (fun k:Nat=>PyData.int (k:Nat))
  (fun xs env g'=>Bag g'∧env=l52 W T (some (shD S)) none (some (.list (ls.map tS))) none none none none none none none)
  (fun k xs env g ⟨hg,he⟩=>by
   subst he
   obtain⟨l,g1,a1,a2,b1⟩:=adl O hls ne hn hg
   obtain⟨m,g2,a3,a4,b2⟩:=adl O hls ne hn b1
   have c1:=QP O (d:=tS l) (.inr rfl) a2.nm (by have:=a2.len O;omega)
   have c2:=QP O (d:=tS m) (.inr rfl) a4.nm (by have:=a4.len O;omega)
   have k1:=O.cl_ok l
   have k2:=O.cl_ok m
   let Z:Env:=l52 W T (some (shD S)) none (some (.list (ls.map tS))) none (some (.int (k:Nat))) none none none (some (tS (S.cl l))) (some (tS (S.cl m)))
   have test:∃b,vr (bT (xOp neD (xV 12) (zV zb))) (vr (bT (xOp neD (xV 13) (zV zb))) (vr (bT (xOp eqD (xLc (zG (xV 12)) (zh 5) (bT (xOp (inD false) (xV 5) (xV 13))) (xV 5) [5]) (zY zb))) (bT (zy yv (za (xV 4) (za (xV 12) (za (xV 13) zb))))))) Z g2=some (b,g2)∧b=false:=by
    have neT:∀ {l:List Str},LotOk S l→neD (tS l) (.tuple [])=some (.bool (!l.isEmpty)):=fun {l} h=>by
     rw[IV (Gd.tS fun x hx=>O.ok_nms (h.nm x hx)) (Gd.tuple (n:=0) (ds:=[]) (by simp))]
     cases l <;> simp[tS,PyData.eqv,PyData.eqvAll]
    have lc:=vK (fi:=zG (xV 12)) (hg:=zh 5) (tt:=bT (xOp (inD false) (xV 5) (xV 13))) (ff:=xV 5) (vs:=[5]) (env:=Z) (g:=g2) (g1:=g2) (fun x=>decide (x∈S.cl m)) (xs:=S.cl l) (zI (d:=tS (S.cl l)) rfl rfl) (fun x hx=>⟨_,rfl,zP (zu rfl rfl (by rw[(ym (neg:=false) (O.ok_nms (O.cl_nm hx)) fun y hy=>O.ok_nms (O.cl_nm hy)).2];rfl)),fun _=>rfl⟩) (by have:=O.cl_len l;omega)
    have e3:bT (xOp eqD (xLc (zG (xV 12)) (zh 5) (bT (xOp (inD false) (xV 5) (xV 13))) (xV 5) [5]) (zY zb)) Z g2=some (((S.cl l).filter fun x=>decide (x∈S.cl m)).isEmpty,g2):=by
     refine zP (zu lc (z8 rfl (by simp)) ?_)
     unfold lS
     rw[IW (Gd.lS fun y hy=>O.ok_nms (O.cl_nm (List.mem_filter.mp hy).1))]
     simp
    refine⟨_,JV (c2:=!(S.cl m).isEmpty&&(((S.cl l).filter fun x=>decide (x∈S.cl m)).isEmpty&&false)) (zP (zu rfl (zX rfl (by simp)) (neT k1))) fun _=>JV (zP (zu rfl (zX rfl (by simp)) (neT k2))) fun _=>JV (c2:=false) e3 fun he=>zP (zB rfl (Gb O k1.nm k2.nm (by have:=k1.len O;omega) (by have:=k2.len O;omega) fun x hx hy=>?_)),by simp⟩
    have:=List.isEmpty_iff.mp he
    have hm:x∈(S.cl l).filter fun x=>decide (x∈S.cl m):=List.mem_filter.mpr ⟨hx,decide_eq_true hy⟩
    rw[this] at hm
    cases hm
   obtain⟨b,t1,rfl⟩:=test
   exact⟨_,Z,g2,rfl,(zk (e:=Z) (g1:=g2) (jh (zB (zd rfl (zd (zM rfl a1) rfl)) c1) (zB (zd rfl (zd (zM rfl a3) rfl)) c2))).trans ((zk ((wB t1).trans rfl)).trans rfl),b2,rfl⟩)
  (List.range 6) (l52 W T (some (shD S)) none (some (.list (ls.map tS))) none none none none none none none) g ⟨hb,rfl⟩
 obtain⟨e,g',l1,hb',rfl⟩:=this
 exact⟨g',l1,hb'⟩
end
def YA:List (List (List Nat)):=[[[],[0],[],[2],[0,3],[1,2]],[[],[0],[0,1],[1,2],[0]],[[],[],[0,1],[0],[1,3]]]
def UU:List (List Nat)→Nat→Bool
 | [],_=>true
 | row::r,n=>decide row.Nodup&&(row.all fun k=>decide (k<n))&&UU r (n+1)
theorem afG{web:List (List Nat)}(h:UU web 0=true):afB web:=by
 have key:∀(web:List (List Nat)) (n:Nat),UU web n=true→∀pre row post,web=pre++row::post→row.Nodup∧∀k∈row,k<n+pre.length:=by
  intro web
  induction web with
  | nil=>intro n _ pre row post e;simp at e
  | cons r0 web ih =>
   intro n h pre row post e
   unfold UU at h
   simp only[Bool.and_eq_true,decide_eq_true_eq,List.all_eq_true] at h
   cases pre with
   | nil =>
    cases e
    exact⟨h.1.1,fun k hk=>by have:=h.1.2 k hk;simpa using this⟩
   | cons p pre =>
    injection e with e1 e2
    have:=ih (n+1) h.2 pre row post e2
    exact⟨this.1,fun k hk=>by have:=this.2 k hk;simp;omega⟩
 intro pre row post e
 have:=key web 0 h pre row post e
 exact⟨this.1,fun k hk=>by simpa using this.2 k hk⟩
theorem ae9:∀w∈YA,afB w∧1≤w.length∧w.length≤6:=by
 have h:YA.all (fun w=>UU w 0&&decide (1≤w.length)&&decide (w.length≤6))=true:=by decide +kernel
 intro w hw
 have:=List.all_eq_true.mp h w hw
 simp only[Bool.and_eq_true,decide_eq_true_eq] at this
 exact⟨afG this.1.1,this.1.2,this.2⟩
theorem aa7{env:Env}{g:D}(hb:Bag g)(h2:env[2]? = some (some (.list (YA.map abm)))):∃(S:Sht) (g':D),xIf (bT (xOp eqD (zw zm (za (xC (.int 2)) zb)) (xC (.int 0)))) (zw vj (za (xC (.int 6)) (za (xC (.int 5)) zb))) (zw we (za (zw zO (za (xV 2) zb)) (za (xC (.int 4)) (za (xC (.int 4)) zb)))) env g=some (shD S,g')∧ShOk S∧Bag g':=by
 obtain⟨t,g1,t1,t2,t3,b1⟩:=vP (many:=2) (g:=g) (by decide) (by decide) hb
 have c:bT (xOp eqD (zw zm (za (xC (.int 2)) zb)) (xC (.int 0))) env g=some (decide (t=0),g1):=zP (zu (zM rfl t1) rfl (QJ _ _))
 by_cases h:t=0
 ·rw[decide_eq_true h] at c
  obtain⟨S,g',e1,O,_,_,_,_,b2⟩:=afA (most:=6) (wide:=5) (by omega) (by omega) b1
  exact⟨S,g',(YS c).trans (zM rfl e1),O,b2⟩
 ·rw[decide_eq_false h] at c
  obtain⟨d,g2,e1,e2,b2⟩:=aa2 (ds:=YA.map abm) (g:=g1) (by decide) (by decide) b1
  obtain⟨w,hw,rfl⟩:=List.mem_map.mp e2
  obtain⟨w1,w2,w3⟩:=ae9 w hw
  obtain⟨S,g',e3,O,_,_,b3⟩:=ahB w1 ⟨w2,w3⟩ (wide:=4) (rich:=4) (by omega) (by omega) b2
  exact⟨S,g',(Ub c).trans (zM (zd (zM (zd (vo h2) rfl) e1) rfl) e3),O,b3⟩
end KP
namespace KP
open PySem PySem.Spec PyProof.Rows L2 PL
noncomputable def afH:SF:=((zg (sIf (vr (bT (xOp eqD (zw zm (za (xC (.int 6)) zb)) (xC (.int 0)))) (v8 (bT (zy zQ (za (zy yd (za (xOp ixD (zw vY zb) (xC (.int 0))) (za (zV zb) zb))) (za (zV zb) zb)))))) (zg (ya (xC (.bool false))) zv) zv) (zg (z9 2 (zY (za (zV (za (zV zb) (za (zV (za (xC (.int 0)) zb)) (za (zV zb) (za (zV (za (xC (.int 2)) zb)) (za (zV (za (xC (.int 0)) (za (xC (.int 3)) zb))) (za (zV (za (xC (.int 1)) (za (xC (.int 2)) zb))) zb))))))) (za (zV (za (zV zb) (za (zV (za (xC (.int 0)) zb)) (za (zV (za (xC (.int 0)) (za (xC (.int 1)) zb))) (za (zV (za (xC (.int 1)) (za (xC (.int 2)) zb))) (za (zV (za (xC (.int 0)) zb)) zb)))))) (za (zV (za (zV zb) (za (zV zb) (za (zV (za (xC (.int 0)) (za (xC (.int 1)) zb))) (za (zV (za (xC (.int 0)) zb)) (za (zV (za (xC (.int 1)) (za (xC (.int 3)) zb))) zb)))))) zb))))) (zg (vd (jT (za (xC (.int 2)) zb)) (zh 3) [10,8,7,6,11,5,12,13,4,9,3] (zg (z9 4 (xIf (bT (xOp eqD (zw zm (za (xC (.int 2)) zb)) (xC (.int 0)))) (zw vj (za (xC (.int 6)) (za (xC (.int 5)) zb))) (zw we (za (zw zO (za (xV 2) zb)) (za (xC (.int 4)) (za (xC (.int 4)) zb)))))) (zg (vd (zG (zy ye (za (xV 4) zb))) (zh 5) [5] (zg (sIf (v8 (bT (zy zQ (za (zy Je (za (xV 4) (za (xV 5) zb))) (za (zy yH (za (xV 4) (za (xV 5) zb))) zb))))) (zg (ya (xC (.bool false))) zv) zv) zv)) (zg (z9 6 (zw vZ (za (xV 4) zb))) (zg (vd (zG (xV 6)) (zh 7) [10,7,11,9] (zg (z9 9 (zy yd (za (xV 4) (za (xV 7) zb)))) (zg (sIf (bOr (v8 (bT (zy zQ (za (xV 9) (za (zy z6 (za (xV 4) (za (xV 7) zb))) zb))))) (v8 (bT (zy zQ (za (zy yd (za (xV 4) (za (xV 9) zb))) (za (xV 9) zb)))))) (zg (ya (xC (.bool false))) zv) zv) (zg (vd (zG (xSl (zw zC (za (zy yV (za (xV 4) zb)) zb)) pNo (wv (xC (.int 2))))) (zh 10) [10,11] (zg (vd (zG (zV (za (xC (.bool true)) (za (xC (.bool false)) zb)))) (zh 11) [11] (zg (sIf (v8 (bT (zy zQ (za (zy wI (za (xV 4) (za (xV 7) (za (xV 10) (za (xV 11) zb))))) (za (zy vJ (za (xV 4) (za (xV 7) (za (xV 10) (za (xV 11) zb))))) zb))))) (zg (ya (xC (.bool false))) zv) zv) zv)) zv)) zv)))) (zg (vd (jT (za (xC (.int 6)) zb)) (zh 8) [8,5,12,13] (zg (jb 12 13 (zy z6 (za (xV 4) (za (zw zO (za (xV 6) zb)) zb))) (zy z6 (za (xV 4) (za (zw zO (za (xV 6) zb)) zb)))) (zg (sIf (vr (bT (xOp neD (xV 12) (zV zb))) (vr (bT (xOp neD (xV 13) (zV zb))) (vr (bT (xOp eqD (xLc (zG (xV 12)) (zh 5) (bT (xOp (inD false) (xV 5) (xV 13))) (xV 5) [5]) (zY zb))) (bT (zy yv (za (xV 4) (za (xV 12) (za (xV 13) zb)))))))) (zg (ya (xC (.bool false))) zv) zv) zv))) zv)))))) (zg (ya (xC (.bool true))) zv)))))
theorem ahD:B_law=adt 1 afH:=rfl
abbrev aa8:BF:=(vr (bT (xOp eqD (zw zm (za (xC (.int 6)) zb)) (xC (.int 0)))) (v8 (bT (zy zQ (za (zy yd (za (xOp ixD (zw vY zb) (xC (.int 0))) (za (zV zb) zb))) (za (zV zb) zb))))))
theorem acr{env:Env}{g:D}(hb:Bag g):∃g',aa8 env g=some (false,g')∧Bag g':=by
 obtain⟨t,g1,t1,t2,t3,b1⟩:=vP (many:=6) (g:=g) (by decide) (by decide) hb
 have c:bT (xOp eqD (zw zm (za (xC (.int 6)) zb)) (xC (.int 0))) env g=some (decide (t=0),g1):=zP (zu (zM rfl t1) rfl (QJ _ _))
 by_cases h:t=0
 ·rw[decide_eq_true h] at c
  obtain⟨S,x,y,g2,e1,O,sn,b2⟩:=agq b1
  have c1:=V2 O (lot:=[]) (d:=tS []) (.inr rfl) (by simp) (by simp)
  have cn:S.cl []=[]:=by
   rw[List.eq_nil_iff_forall_not_mem]
   intro z hz
   have:=O.cl_nm hz
   unfold Sht.nms at this
   rw[sn] at this
   cases this
  rw[cn] at c1
  refine⟨g2,?_,b2⟩
  unfold aa8 vr
  rw[c,Option.bind_some]
  refine(if_pos rfl).trans (wN (c:=true) (zP (zB (ds:=[tS [],tS []]) (zd (zB (ds:=[shD S,tS []]) (zd (zu (zM rfl e1) rfl (aik _ _)) (zd (zX rfl (by simp)) rfl)) c1) (zd (zX rfl (by simp)) rfl)) (V4 O (l:=[]) (by simp) (by simp)))))
 ·rw[decide_eq_false h] at c
  refine⟨g1,?_,b1⟩
  unfold aa8 vr
  rw[c,Option.bind_some]
  exact if_neg (by simp)
theorem aea{g:D}(hg:Bag g):∃g',afH (l52 none none none none none none none none none none none none) g=some (.rt (.bool true) g'):=by
 obtain⟨g1,f1,b1⟩:=acr (env:=l52 none none none none none none none none none none none none) hg
 let W:D:=.list (YA.map abm)
 have l1:=yM (h:=zh 3) (wp:=[10,8,7,6,11,5,12,13,4,9,3]) (body:=ahC) (fun k:Nat=>.int (k:Nat))
  (fun xs env g'=>Bag g'∧env=l52 (some W) none none none none none none none none none none none)
  (fun k xs env g ⟨hg,he⟩=>by
   subst he
   obtain⟨S,g1,s1,O,b1⟩:=aa7 (env:=l52 (some W) (some (.int (k:Nat))) none none none none none none none none none none) hg rfl
   have n1:=ae7 O (W:=some W) (T:=some (.int (k:Nat))) (g:=g1)
   obtain⟨ls,g2,q1,q2,q3,q4,b2⟩:=agr O b1
   obtain⟨g3,r1,b3⟩:=afF O (W:=some W) (T:=some (.int (k:Nat))) q2 (Ls:=.list (ls.map tS)) b2
   obtain⟨g4,r2,b4⟩:=ae8 O (W:=some W) (T:=some (.int (k:Nat))) q2 q3 q4 b3
   refine⟨_,l52 (some W) (some (.int (k:Nat))) (some (shD S)) none (some (.list (ls.map tS))) none none none none none none none,g4,rfl,?_,b4,?_⟩
   ·exact(zk (e:=l52 (some W) (some (.int (k:Nat))) (some (shD S)) none none none none none none none none none) (g1:=g1) (zU s1)).trans ((zk (yT (zI (zB rfl (Jv O)) rfl) n1)).trans ((zk (e:=l52 (some W) (some (.int (k:Nat))) (some (shD S)) none (some (.list (ls.map tS))) none none none none none none none) (g1:=g2) (zU (zM rfl q1))).trans ((zk (yT (zI (d:=.list (ls.map tS)) rfl rfl) r1)).trans ((zk (yT (V3 (n:=6) rfl (by omega)) r2)).trans rfl))))
   ·simp[l52,zJ])
  (List.range 2) (l52 (some W) none none none none none none none none none none none) g1 ⟨b1,rfl⟩
 obtain⟨_,g2,l1,hg1,rfl⟩:=l1
 refine⟨g2,?_⟩
 refine(zk (e:=l52 none none none none none none none none none none none none) (g1:=g1) ((wB f1).trans rfl)).trans ?_
 refine(zk (e:=l52 (some W) none none none none none none none none none none none) (g1:=g1) (zU (d:=W) (g1:=g1) ?_)).trans ?_
 ·exact z8 (ds:=YA.map abm) (zd (zX (zd (zX rfl (by simp)) (zd (zX rfl (by simp)) (zd (zX rfl (by simp)) (zd (zX rfl (by simp)) (zd (zX rfl (by simp)) (zd (zX rfl (by simp)) rfl)))))) (by simp)) (zd (zX (zd (zX rfl (by simp)) (zd (zX rfl (by simp)) (zd (zX rfl (by simp)) (zd (zX rfl (by simp)) (zd (zX rfl (by simp)) rfl))))) (by simp)) (zd (zX (zd (zX rfl (by simp)) (zd (zX rfl (by simp)) (zd (zX rfl (by simp)) (zd (zX rfl (by simp)) (zd (zX rfl (by simp)) rfl))))) (by simp)) rfl))) (by decide)
 ·exact(zk (yT (V3 (n:=2) rfl (by omega)) l1)).trans (zL (zZ rfl))
theorem pure52(ns:List Int)(hl:ns.length≤63):∃g,B_law (lawE 14 ns) .none=some (.rt (.bool true) g):=by
 obtain⟨g',h⟩:=aea (g:=vN 0 1234567891 0 (ns.map Z7)) ⟨_,_,_,_,rfl,by rw[List.length_map];exact hl⟩
 refine⟨.none,?_⟩
 rw[ahD]
 exact agt (g2:=g') (ds:=[.int 0,.int 1234567891,.int 0,.list ((ns.map Z7).map PyData.int)]) rfl h
end KP
set_option maxHeartbeats 1000000
namespace KP
open PySem PySem.Spec PyProof.Rows L2
theorem eV[TheW]{Γ:List Fl}{i:Nat}(h:Γ[i]? = some .sh:=by rfl):RfE Γ (tVar i) (xV i):=yO h
theorem bV[TheW]{Γ:List Fl}{i:Nat}(h:Γ[i]? = some .sh:=by rfl):RfB Γ (tVar i) (xV i):=RfE.b (yO h)
section
local macro_rules | `(tactic| trivial) => `(tactic| first | exact Or.inl rfl | exact Or.inr rfl)
variable {P:Program} {w:World} {K:PySem.W.Frag} {mg:Str→Option Value} {base:Heap} {f:Addr} {fd:FuncData} {k:Nat} [TheW] [Tied P w]
end
end KP
set_option maxHeartbeats 1000000
namespace KP
open PySem PySem.Spec PyProof.Rows L2
section
local macro_rules | `(tactic| trivial) => `(tactic| first | exact Or.inl rfl | exact Or.inr rfl)
variable {P:Program} {w:World} {K:PySem.W.Frag} {mg:Str→Option Value} {base:Heap} {f:Addr} {fd:FuncData} {k:Nat} [TheW] [Tied P w]
end
end KP
set_option maxHeartbeats 1000000
namespace KP
open PySem PySem.Spec PyProof.Rows L2
section
local macro_rules | `(tactic| trivial) => `(tactic| first | exact Or.inl rfl | exact Or.inr rfl)
variable {P:Program} {w:World} {K:PySem.W.Frag} {mg:Str→Option Value} {base:Heap} {f:Addr} {fd:FuncData} {k:Nat} [TheW] [Tied P w]
abbrev X0:List Str:=["sheet", "found", "name", "axes", "reads"]
theorem Ws:FnScope X0 ["sheet"] (defScope wO):=⟨rfl,rfl,rfl,by decide +kernel,rfl,by decide +kernel,by decide +kernel⟩
theorem Ge(F:Fun K "table_axes" "table_axes" wO f fd):FnG P w K mg base (k+1) f fd ["sheet"] (spP 1 yU):=by
 refine yc (Γ:=[.sh,.dd,.dd,.dd,.dd]) (Γ':=[.sh,.dd,.dd,.dd,.dd]) (Γk:=[.sh,.dd,.dd,.dd,.dd]) F Ws rfl (by decide) rfl (by decide) ?_
 intro A s0 H0 lo gl ce qu fu co fr bl outer stack ex pn hgu hr
 have nd:=Ws.nd
 have h1:A.units+1<cLine:=by have:=hr.un;omega
 refine⟨_,(pss_cons (aeA (i:=1) (own:=[("name",2),("axes",3)]) (g:=(gTup K 2 (gCons (gName 2) (gCons (gName 3) gNil)))) (tt:=tYes) (tk:=(tVar 2)) (tv:=(tVar 3)) rfl nd rfl rfl (aeB rfl rfl rfl (by decide +kernel)) (zS (pe_ix yW (pv 0) (pe_int) (fun _ _=>rfl))) (blkOk_by (N:=X0) (sc:=defScope wO) (by decide +kernel)) (fun _ _ _ _ _=>(pg_tup rfl (pgs_cons (pg_name (i:=2) nd rfl (by trivial)) (pgs_cons (pg_name (i:=3) nd rfl (by trivial)) pgs_nil)))) (fun _ _ _ _ _=>pts_nil) (fun _ _ _ _ _=>(pv 2)) (fun _ _ _ _ _=>(pv 3))) (pss_cons (ps_for PassesOwn.never rfl (zS (pe_ix yW (pv 0) (pe_int) (fun _ _=>rfl))) (pg_tup rfl (pgs_cons (pg_name (i:=2) nd rfl (by trivial)) (pgs_cons (pg_name (i:=3) nd rfl (by trivial)) (pgs_cons (pg_name (i:=4) nd rfl (by trivial)) pgs_nil)))) (pss_cons (ps_asg (pv 3) (pg_sub (pv 1) (pv 2) (set_dict h1))) pss_nil)) (pss_one (IE 1 (ps_ret (pv 1)))))),?_⟩
 exact(zt (ah8 (ahW (Γ0:=[.sh,.dd,.dd,.dd,.dd]) (yi (zF yj bV (RfE.b (zx 0)))) (ZM (vQ (zE (by decide) (by decide)) (vQ (zE (by decide) (by decide)) YE))) jf eV eV (by decide) (by decide) (by decide)) (by decide) (by decide)) (zt (je [3,2,4] (Γb:=[.sh,.od 1,.sh,.sh,.sh]) (Γk':=[.sh,.od 1,.sh,.sh,.sh]) (yi (zF yj bV (RfE.b (zx 1)))) (ZM (vQ (zE (by decide) (by decide)) (vQ (zE (by decide) (by decide)) (vQ (zE (by decide) (by decide)) YE)))) (zt (IM (i:=1) (by rfl) eV eV) zD) (by decide) (by decide) (by decide)) (zt (aaI 1 (by rfl) (yn eV)) zD)))
abbrev VH:List Str:=["sheet", "name", "axes", "reads"]
theorem Va:FnScope VH ["sheet"] (defScope vT):=⟨rfl,rfl,rfl,by decide +kernel,rfl,by decide +kernel,by decide +kernel⟩
theorem Zs(F:Fun K "sums_by_name" "sums_by_name" vT f fd):FnG P w K mg base (k+1) f fd ["sheet"] (spP 1 yt):=by
 refine yc (Γ:=[.sh,.dd,.dd,.dd]) (Γ':=[.sh,.dd,.dd,.dd]) (Γk:=[.sh,.dd,.dd,.dd]) F Va rfl (by decide) rfl (by decide) ?_
 intro A s0 H0 lo gl ce qu fu co fr bl outer stack ex pn hgu hr
 have nd:=Va.nd
 refine⟨_,(pss_one (ps_ret (ID (pe_dc (own:=[("name",1),("axes",2),("reads",3)]) (g:=(gTup K 3 (gCons (gName 1) (gCons (gName 2) (gCons (gName 3) gNil))))) (tt:=tYes) (tk:=(tVar 1)) (tv:=(tVar 3)) rfl nd (zS (pe_ix yW (pv 0) (pe_int) (fun _ _=>rfl))) (blkOk_by (N:=VH) (sc:=defScope vT) (by decide +kernel)) (fun _ _ _ _ _=>(pg_tup rfl (pgs_cons (pg_name (i:=1) nd rfl (by trivial)) (pgs_cons (pg_name (i:=2) nd rfl (by trivial)) (pgs_cons (pg_name (i:=3) nd rfl (by trivial)) pgs_nil))))) (fun _ _ _ _ _=>pts_nil) (fun _ _ _ _ _=>(pv 1)) (fun _ _ _ _ _=>(pv 3)))))),?_⟩
 exact(zt (yn (ahK (Γ0:=[.sh,.dd,.dd,.dd]) (yi (zF yj bV (RfE.b (zx 1)))) (ZM (vQ (zE (by decide) (by decide)) (vQ (zE (by decide) (by decide)) (vQ (zE (by decide) (by decide)) YE)))) jf eV eV (by decide) (by decide) (by decide))) zD)
abbrev acs:List Str:=["sheet", "name"]
theorem abn:FnScope acs ["sheet", "name"] (defScope JF):=⟨rfl,rfl,rfl,by decide +kernel,rfl,by decide +kernel,by decide +kernel⟩
theorem abo(F:Fun K "need_sum" "need_sum" JF f fd)(g_isinstance:mg "isinstance" = none)(g_str:mg "str" = none)(c_sums_by_name:Cal P w K mg base k "sums_by_name" ["sheet"] (spP 1 yt)):FnG P w K mg base (k+1) f fd ["sheet", "name"] (spP 2 JL):=by
 refine yc (Γ:=[.sh,.sh]) (Γ':=[.sh,.sh]) (Γk:=[.sh,.sh]) F abn rfl (by decide) rfl (by decide) ?_
 intro A s0 H0 lo gl ce qu fu co fr bl outer stack ex pn hgu hr
 have h1:A.units+1<cLine:=by have:=hr.un;omega
 refine⟨(tSeq (tIfS (tOr (tNot (tB (tCB (rIsi K) (tCons (tVar 1) (tCons (tC (.ty "str")) tNil))))) (tB (tOp (aau true) (tVar 1) (tCall (spP 1 yt) [] (fun _ _ _=>False) (tCons (tVar 0) tNil))))) (tSeq (II) tNext) tNext) tNext),(pss_cons (ps_if (PW.pt (pw_or (pt_not (pt_val (pe_callB call_isi rfl g_isinstance boot_isinstance (pa_cons (pv 1) (pa_cons (pe_bltn rfl g_str boot_str rfl) pa_nil))))) (pw_or1 (pt_cmp (VS h1 (pv 1) (zr c_sums_by_name (Nat.le_refl _) hgu hr rfl (pa_cons (pv 0) pa_nil))))))) (pss_one (aaF)) pss_nil) pss_nil),?_⟩
 exact(zt (JP (Vh (Qg (t_B (RfE.b (aev "str" bV)))) (t_B (RfE.b (zF (Zx (neg:=true)) bV (RfE.b (zN (ze zz) (zc eV zp))))))) (zt (acJ) zD) zD) zD)
abbrev act:List Str:=["sheet", "name"]
theorem abp:FnScope act ["sheet", "name"] (defScope JG):=⟨rfl,rfl,rfl,by decide +kernel,rfl,by decide +kernel,by decide +kernel⟩
theorem abq(F:Fun K "own_axes" "own_axes" JG f fd)(g_isinstance:mg "isinstance" = none)(g_str:mg "str" = none)(c_table_axes:Cal P w K mg base k "table_axes" ["sheet"] (spP 1 yU)):FnG P w K mg base (k+1) f fd ["sheet", "name"] (spP 2 jw):=by
 refine yc (Γ:=[.sh,.sh]) (Γ':=[.sh,.sh]) (Γk:=[.sh,.sh]) F abp rfl (by decide) rfl (by decide) ?_
 intro A s0 H0 lo gl ce qu fu co fr bl outer stack ex pn hgu hr
 have h1:A.units+1<cLine:=by have:=hr.un;omega
 refine⟨(tSeq (tIfS (tOr (tNot (tB (tCB (rIsi K) (tCons (tVar 1) (tCons (tC (.ty "str")) tNil))))) (tB (tOp (aau true) (tVar 1) (tCall (spP 1 yU) [] (fun _ _ _=>False) (tCons (tVar 0) tNil))))) (tSeq (II) tNext) tNext) (tSeq (tRet (tOp W7 (tCall (spP 1 yU) [] (fun _ _ _=>False) (tCons (tVar 0) tNil)) (tVar 1))) tNext)),(pss_cons (ps_if (PW.pt (pw_or (pt_not (pt_val (pe_callB call_isi rfl g_isinstance boot_isinstance (pa_cons (pv 1) (pa_cons (pe_bltn rfl g_str boot_str rfl) pa_nil))))) (pw_or1 (pt_cmp (VS h1 (pv 1) (zr c_table_axes (Nat.le_refl _) hgu hr rfl (pa_cons (pv 0) pa_nil))))))) (pss_one (aaF)) pss_nil) (pss_one (ps_ret (jH h1 (zr c_table_axes (Nat.le_refl _) hgu hr rfl (pa_cons (pv 0) pa_nil)) (pv 1) (fun _ _=>rfl))))),?_⟩
 exact(zt (JP (Vh (Qg (t_B (RfE.b (aev "str" bV)))) (t_B (RfE.b (zF (Zx (neg:=true)) bV (RfE.b (zN (ze zz) (zc eV zp))))))) (zt (acJ) zD) zD) (zt (yn (zF wz (RfE.b (zN (ze zz) (zc eV zp))) bV)) zD))
abbrev Qb:List Str:=["sheet", "name", "axes", "read", "table", "axis"]
theorem VI:FnScope Qb ["sheet", "name"] (defScope vL):=⟨rfl,rfl,rfl,by decide +kernel,rfl,by decide +kernel,by decide +kernel⟩
theorem UV(F:Fun K "summed_axes" "summed_axes" vL f fd)(g_set:mg "set" = none)(g_sorted:mg "sorted" = none)(g_tuple:mg "tuple" = none)(c_need_sum:Cal P w K mg base k "need_sum" ["sheet", "name"] (spP 2 JL))(c_table_axes:Cal P w K mg base k "table_axes" ["sheet"] (spP 1 yU))(c_sums_by_name:Cal P w K mg base k "sums_by_name" ["sheet"] (spP 1 yt)):FnG P w K mg base (k+1) f fd ["sheet", "name"] (spP 2 y7):=by
 refine yc (Γ:=[.sh,.sh,.dd,.dd,.dd,.dd]) (Γ':=[.sh,.sh,.dd,.dd,.dd,.dd]) (Γk:=[.sh,.sh,.dd,.dd,.dd,.dd]) F VI rfl (by decide) rfl (by decide) ?_
 intro A s0 H0 lo gl ce qu fu co fr bl outer stack ex pn hgu hr
 have nd:=VI.nd
 have h1:A.units+1<cLine:=by have:=hr.un;omega
 have h65:A.units+65<cLine:=by have:=hr.un;omega
 have h100:A.units+100<cLine:=by have:=hr.un;omega
 refine⟨_,(pss_cons (ps_expr (zr c_need_sum (Nat.le_refl _) hgu hr rfl (pa_cons (pv 0) (pa_cons (pv 1) pa_nil)))) (pss_cons (ps_set (i:=2) nd rfl (by trivial) (zr c_table_axes (Nat.le_refl _) hgu hr rfl (pa_cons (pv 0) pa_nil))) (pss_cons (ps_set (i:=3) nd rfl (by trivial) (aeP rfl rfl g_set (pe_lc2 (own:=[("table",4),("axis",5)]) (vs1:=[5]) (g:=(gName 4)) (tt:=tYes) (wi1:=(Zi K (tOp W7 (tVar 2) (tVar 4)))) (g1:=(gName 5)) (tt1:=tYes) (te:=(tVar 5)) rfl nd (zS (jH h1 (zr c_sums_by_name (Nat.le_refl _) hgu hr rfl (pa_cons (pv 0) pa_nil)) (pv 1) (fun _ _=>rfl))) (blkOk_by (N:=Qb) (sc:=defScope vL) (by decide +kernel)) (by decide) (fun _ _ _ _ _=>(pg_name (i:=4) nd rfl (by trivial))) (fun _ _ _ _ _=>pts_nil) (fun _ _ _ _ _=>(zS (jH h1 (pv 2) (pv 4) (fun _ _=>rfl)))) (fun _ _ _ _ _=>(pg_name (i:=5) nd rfl (by trivial))) (fun _ _ _ _ _=>pts_nil) (fun _ _ _ _ _=>(pv 5))))) (pss_one (ps_ret (pe_callTy yQ rfl g_tuple boot_tuple (pa_cons (pe_lc (own:=[("axis",5)]) (g:=(gName 5)) (tt:=(tTest (tOp (jD K true) (tVar 5) (tOp W7 (tVar 2) (tVar 1))))) (te:=(tVar 5)) rfl nd (zS (pe_callB (adC rfl h100) rfl g_sorted boot_sorted (pa_cons (pv 3) pa_nil))) (blkOk_by (N:=Qb) (sc:=defScope vL) (by decide +kernel)) (fun _ _ _ _ _=>(pg_name (i:=5) nd rfl (by trivial))) (fun _ _ _ _ _=>(pts_one (pt_cmpR (vR h65) (pv 5) (jH h1 (pv 2) (pv 1) (fun _ _=>rfl)) (by rfl)))) (fun _ _ _ _ _=>(pv 5))) pa_nil))))))),?_⟩
 exact(zt (aeC (zN (ze (ze zz)) (zc eV (zc eV zp)))) (zt (vW (zN (ze zz) (zc eV zp)) (by decide) (by decide)) (zt (ahk (ag2 (RfE.b (RfN.e (agB (Γ0:=[.sh,.sh,.sh,.dd,.dd,.dd]) (Γ2:=[.sh,.sh,.sh,.dd,.sh,.dd]) (yi (zF wz (RfE.b (zN (ze zz) (zc eV zp))) bV)) (zE (by decide) (by decide)) jf (yi (zF wz bV bV)) (zE (by decide) (by decide)) jf eV (by decide) (by decide) (by decide) (by decide) (by decide) (by decide) (by decide) (by decide))))) (by decide) (by decide) (by decide)) (zt (yn (vg yo (zA (RfE.b (RfN.e (vO (Γ0:=[.sh,.sh,.sh,.st,.dd,.dd]) (yi (RfN.e (aeQ (i:=3) (by rfl)))) (zE (by decide) (by decide)) (zR (RfE.b (zF (yR (neg:=true)) bV (RfE.b (zF wz bV bV))))) eV (by decide) (by decide) (by decide)))) zH))) zD))))
abbrev acu:List Str:=["sheet", "again", "name", "summed"]
theorem Zb:FnScope acu ["sheet", "again", "name"] (defScope JH):=⟨rfl,rfl,rfl,by decide +kernel,rfl,by decide +kernel,by decide +kernel⟩
theorem abr(F:Fun K "loops_of" "loops_of" JH f fd)(g_set:mg "set" = none)(g_sorted:mg "sorted" = none)(g_tuple:mg "tuple" = none)(c_summed_axes:Cal P w K mg base k "summed_axes" ["sheet", "name"] (spP 2 y7))(c_own_axes:Cal P w K mg base k "own_axes" ["sheet", "name"] (spP 2 jw)):FnG P w K mg base (k+1) f fd ["sheet", "again", "name"] (spP 3 j5):=by
 refine yc (Γ:=[.sh,.sh,.sh,.dd]) (Γ':=[.sh,.sh,.sh,.dd]) (Γk:=[.sh,.sh,.sh,.dd]) F Zb rfl (by decide) rfl (by decide) ?_
 intro A s0 H0 lo gl ce qu fu co fr bl outer stack ex pn hgu hr
 have nd:=Zb.nd
 have h1:A.units+1<cLine:=by have:=hr.un;omega
 have h100:A.units+100<cLine:=by have:=hr.un;omega
 refine⟨_,(pss_cons (ps_set (i:=3) nd rfl (by trivial) (zr c_summed_axes (Nat.le_refl _) hgu hr rfl (pa_cons (pv 0) (pa_cons (pv 2) pa_nil)))) (pss_one (ps_ret (pe_callTy yQ rfl g_tuple boot_tuple (pa_cons (jX rfl h100 rfl g_sorted rfl g_set (pe_lst (StX.pa_star (zr c_own_axes (Nat.le_refl _) hgu hr rfl (pa_cons (pv 0) (pa_cons (pv 2) pa_nil))) (StX.pa_star (pv 3) (StX.pa_star (pe_dget2 h1 (pv 1) (pv 2) (zT pa_nil) ⟨rfl,rfl,rfl,rfl⟩) pa_nil))))) pa_nil))))),?_⟩
 exact(zt (vW (zN (ze (ze zz)) (zc eV (zc eV zp))) (by decide) (by decide)) (zt (yn (vg yo (zA (RfE.b (RfN.e (Jr (RfE.b (RfN.e (yC (J3 (RfE.b (zN (ze (ze zz)) (zc eV (zc eV zp)))) (J3 bV (J3 (RfE.b (ahl eV eV (yA zp))) zp))))))))) zH))) zD))
abbrev Vb:List Str:=["sheet", "reads", "read", "name", "some"]
theorem Qv:FnScope Vb ["sheet"] (defScope vB):=⟨rfl,rfl,rfl,by decide +kernel,rfl,by decide +kernel,by decide +kernel⟩
theorem YB(F:Fun K "meeting_pairs" "meeting_pairs" vB f fd)(g_sorted:mg "sorted" = none)(c_sums_by_name:Cal P w K mg base k "sums_by_name" ["sheet"] (spP 1 yt)):FnG P w K mg base (k+1) f fd ["sheet"] (spP 1 wg):=by
 refine yc (Γ:=[.sh,.dd,.dd,.dd,.dd]) (Γ':=[.sh,.dd,.dd,.dd,.dd]) (Γk:=[.sh,.dd,.dd,.dd,.dd]) F Qv rfl (by decide) rfl (by decide) ?_
 intro A s0 H0 lo gl ce qu fu co fr bl outer stack ex pn hgu hr
 have nd:=Qv.nd
 have h1:A.units+1<cLine:=by have:=hr.un;omega
 have h100:A.units+100<cLine:=by have:=hr.un;omega
 refine⟨_,(pss_cons (ps_set (i:=1) nd rfl (by trivial) (zr c_sums_by_name (Nat.le_refl _) hgu hr rfl (pa_cons (pv 0) pa_nil))) (pss_one (ps_ret (pe_callB (vF h100) rfl g_sorted boot_sorted (pa_cons (pe_lc2 (own:=[("name",3),("some",4),("read",2)]) (vs1:=[2]) (g:=(gTup K 2 (gCons (gName 3) (gCons (gName 4) gNil)))) (tt:=tYes) (wi1:=(Zi K (tVar 4))) (g1:=(gName 2)) (tt1:=(tB (tOp (aau false) (tVar 2) (tVar 1)))) (te:=(yP (tCons (tVar 2) (tCons (tVar 3) tNil)))) rfl nd (pi_items (pv 1)) (blkOk_by (N:=Vb) (sc:=defScope vB) (by decide +kernel)) (by decide) (fun _ _ _ _ _=>(pg_tup rfl (pgs_cons (pg_name (i:=3) nd rfl (by trivial)) (pgs_cons (pg_name (i:=4) nd rfl (by trivial)) pgs_nil)))) (fun _ _ _ _ _=>pts_nil) (fun _ _ _ _ _=>(zS (pv 4))) (fun _ _ _ _ _=>(pg_name (i:=2) nd rfl (by trivial))) (fun _ _ _ _ _=>(pts_one (pt_cmp (aer h1 (pv 2) (pv 1))))) (fun _ _ _ _ _=>(zT (pa_cons (pv 2) (pa_cons (pv 3) pa_nil))))) pa_nil))))),?_⟩
 exact(zt (vW (zN (ze zz) (zc eV zp)) (by decide) (by decide)) (zt (yn (RfN.e (WJ yS (zA (RfE.b (RfN.e (agB (Γ0:=[.sh,.sh,.dd,.dd,.dd]) (Γ2:=[.sh,.sh,.dd,.sh,.sh]) (ag3 eV) (aeh (vQ (zE (by decide) (by decide)) (vQ (zE (by decide) (by decide)) YE))) jf (yi eV) (zE (by decide) (by decide)) (t_B (RfE.b (zF (Zx (neg:=false)) bV bV))) (yA (zc eV (zc eV zp))) (by decide) (by decide) (by decide) (by decide) (by decide) (by decide) (by decide) (by decide)))) zH)))) zD))
abbrev X1:List Str:=["sheet", "name", "reader", "axes", "reads"]
theorem Wu:FnScope X1 ["sheet", "name"] (defScope wP):=⟨rfl,rfl,rfl,by decide +kernel,rfl,by decide +kernel,by decide +kernel⟩
theorem Gf(F:Fun K "readers_of" "readers_of" wP f fd)(g_sorted:mg "sorted" = none)(c_own_axes:Cal P w K mg base k "own_axes" ["sheet", "name"] (spP 2 jw)):FnG P w K mg base (k+1) f fd ["sheet", "name"] (spP 2 yJ):=by
 refine yc (Γ:=[.sh,.sh,.dd,.dd,.dd]) (Γ':=[.sh,.sh,.dd,.dd,.dd]) (Γk:=[.sh,.sh,.dd,.dd,.dd]) F Wu rfl (by decide) rfl (by decide) ?_
 intro A s0 H0 lo gl ce qu fu co fr bl outer stack ex pn hgu hr
 have nd:=Wu.nd
 have h65:A.units+65<cLine:=by have:=hr.un;omega
 have h100:A.units+100<cLine:=by have:=hr.un;omega
 refine⟨_,(pss_cons (ps_expr (zr c_own_axes (Nat.le_refl _) hgu hr rfl (pa_cons (pv 0) (pa_cons (pv 1) pa_nil)))) (pss_one (ps_ret (pe_callB (vF h100) rfl g_sorted boot_sorted (pa_cons (pe_lc (own:=[("reader",2),("axes",3),("reads",4)]) (g:=(gTup K 3 (gCons (gName 2) (gCons (gName 3) (gCons (gName 4) gNil))))) (tt:=(tTest (tOp (jD K false) (tVar 1) (tVar 4)))) (te:=(tVar 2)) rfl nd (zS (pe_ix yW (pv 0) (pe_int) (fun _ _=>rfl))) (blkOk_by (N:=X1) (sc:=defScope wP) (by decide +kernel)) (fun _ _ _ _ _=>(pg_tup rfl (pgs_cons (pg_name (i:=2) nd rfl (by trivial)) (pgs_cons (pg_name (i:=3) nd rfl (by trivial)) (pgs_cons (pg_name (i:=4) nd rfl (by trivial)) pgs_nil))))) (fun _ _ _ _ _=>(pts_one (pt_cmpR (wn h65) (pv 1) (pv 4) (by rfl)))) (fun _ _ _ _ _=>(pv 2))) pa_nil))))),?_⟩
 exact(zt (aeC (zN (ze (ze zz)) (zc eV (zc eV zp)))) (zt (yn (RfN.e (WJ yS (zA (RfE.b (RfN.e (vO (Γ0:=[.sh,.sh,.dd,.dd,.dd]) (yi (zF yj bV (RfE.b (zx 1)))) (ZM (vQ (zE (by decide) (by decide)) (vQ (zE (by decide) (by decide)) (vQ (zE (by decide) (by decide)) YE)))) (zR (RfE.b (zF (yR (neg:=false)) bV bV))) eV (by decide) (by decide) (by decide)))) zH)))) zD))
abbrev aa9:List Str:=["links", "lot", "found", "line", "name"]
theorem Wv:FnScope aa9 ["links", "lot"] (defScope jM):=⟨rfl,rfl,rfl,by decide +kernel,rfl,by decide +kernel,by decide +kernel⟩
theorem Gg(F:Fun K "reached_by" "reached_by" jM f fd)(g_list:mg "list" = none):FnG P w K mg base (k+1) f fd ["links", "lot"] (spP 2 wY):=by
 refine yc (Γ:=[.sh,.sh,.dd,.dd,.dd]) (Γ':=[.sh,.sh,.dd,.dd,.dd]) (Γk:=[.sh,.sh,.dd,.dd,.dd]) F Wv rfl (by decide) rfl (by decide) ?_
 intro A s0 H0 lo gl ce qu fu co fr bl outer stack ex pn hgu hr
 have nd:=Wv.nd
 have h1:A.units+1<cLine:=by have:=hr.un;omega
 have h64:A.units+64<cLine:=by have:=hr.un;omega
 refine⟨_,(pss_cons (ps_par (i:=2) (j:=3) rfl nd rfl rfl (by decide) rfl rfl (pa_cons pe_dnewK (pa_cons (pe_callTy call_list_of rfl g_list boot_list (pa_cons (pv 1) pa_nil)) pa_nil)) (by rfl)) (pss_cons (ps_while PassesOwn.never (pt_cmpR (op_neD h64) (pv 3) (pe_lst pa_nil) (by rfl)) (pss_cons (ps_for PassesOwn.never rfl (zS (pe_dget2 h1 (pv 0) (pe_bm0 PySem.F.plainAttrs_list PySem.F.slot_list_pop PySem.F.type_list_pop mt_pop (pv 3)) (pe_lst pa_nil) ⟨rfl,rfl,rfl,rfl⟩)) (pg_name (i:=4) nd rfl (by trivial)) (pss_cons (ps_if (pt_cmp (VS h1 (pv 4) (pv 2))) (pss_cons (ps_asg (pe_bl) (pg_sub (pv 2) (pv 4) (set_dict h1))) (pss_cons (ps_expr (pe_bm PySem.F.plainAttrs_list PySem.F.slot_list_append PySem.F.type_list_append mt_append (pv 3) (pa_cons (pv 4) pa_nil))) pss_nil)) pss_nil) pss_nil)) pss_nil)) (pss_one (IE 2 (ps_ret (pv 2)))))),?_⟩
 exact(zt (ZB (wD (RfD.v aeD) (wD (RfN.v (WJ aej (zA bV zH))) Xk)) (by decide) (by decide) (by decide) (by decide) (by decide) (by decide)) (zt (acy (Γb:=[.sh,.sh,.od 1,.ow,.dd]) (Γk':=[.sh,.sh,.od 1,.ow,.dd]) Uu [4] (zR (RfE.b (zF (jV) (vt (by rfl)) (RfE.b (RfN.e (yC zp)))))) (zt (ahn [4] (Γb:=[.sh,.sh,.od 1,.ow,.sh]) (Γk':=[.sh,.sh,.od 1,.ow,.sh]) (ag4 eV (Uf (j:=3) (by rfl)) (RfN.e (yC zp))) (zE (by decide) (by decide)) (zt (JP (t_B (RfE.b (aeT (neg:=true) (i:=2) (by rfl) eV))) (zt (IM (i:=2) (by rfl) eV (Yi true)) (zt (Jz (i:=3) (by rfl) eV) zD)) zD) zD) (by decide) (by decide) (by decide)) zD) (by decide) (by decide) (by decide)) (zt (aaI 2 (by rfl) (yn eV)) zD)))
abbrev X2:List Str:=["sheet", "lot", "between", "later", "earlier", "maker", "reader", "behind", "ahead", "name"]
theorem Ww:FnScope X2 ["sheet", "lot"] (defScope wQ):=⟨rfl,rfl,rfl,by decide +kernel,rfl,by decide +kernel,by decide +kernel⟩
theorem Gh(F:Fun K "closed_lot" "closed_lot" wQ f fd)(g_set:mg "set" = none)(g_sorted:mg "sorted" = none)(g_tuple:mg "tuple" = none)(c_meeting_pairs:Cal P w K mg base k "meeting_pairs" ["sheet"] (spP 1 wg))(c_reached_by:Cal P w K mg base k "reached_by" ["links", "lot"] (spP 2 wY)):FnG P w K mg base (k+1) f fd ["sheet", "lot"] (spP 2 yd):=by
 refine yc (Γ:=[.sh,.sh,.dd,.dd,.dd,.dd,.dd,.dd,.dd,.dd]) (Γ':=[.sh,.sh,.dd,.dd,.dd,.dd,.dd,.dd,.dd,.dd]) (Γk:=[.sh,.sh,.dd,.dd,.dd,.dd,.dd,.dd,.dd,.dd]) F Ww rfl (by decide) rfl (by decide) ?_
 intro A s0 H0 lo gl ce qu fu co fr bl outer stack ex pn hgu hr
 have nd:=Ww.nd
 have h1:A.units+1<cLine:=by have:=hr.un;omega
 have h100:A.units+100<cLine:=by have:=hr.un;omega
 refine⟨_,(pss_cons (ps_par (i:=3) (j:=4) rfl nd rfl rfl (by decide) rfl rfl (pa_cons pe_dnewK (pa_cons pe_dnewK pa_nil)) (by rfl)) (pss_cons (ps_for PassesOwn.never rfl (zS (zr c_meeting_pairs (Nat.le_refl _) hgu hr rfl (pa_cons (pv 0) pa_nil))) (pg_tup rfl (pgs_cons (pg_name (i:=5) nd rfl (by trivial)) (pgs_cons (pg_name (i:=6) nd rfl (by trivial)) pgs_nil))) (pss_cons (ps_expr (pe_bm PySem.F.plainAttrs_list PySem.F.slot_list_append PySem.F.type_list_append mt_append (pe_bm PySem.F.plainAttrs_dict PySem.F.slot_dict_setdefault PySem.F.type_dict_setdefault Vu (pv 3) (pa_cons (pv 5) (pa_cons (pe_lst pa_nil) pa_nil))) (pa_cons (pv 6) pa_nil))) (pss_cons (ps_expr (pe_bm PySem.F.plainAttrs_list PySem.F.slot_list_append PySem.F.type_list_append mt_append (pe_bm PySem.F.plainAttrs_dict PySem.F.slot_dict_setdefault PySem.F.type_dict_setdefault Vu (pv 4) (pa_cons (pv 6) (pa_cons (pe_lst pa_nil) pa_nil))) (pa_cons (pv 5) pa_nil))) pss_nil))) (pss_cons (IE 3 (IE 4 (ps_asg (pe_tup (pa_cons (zr c_reached_by (Nat.le_refl _) hgu hr rfl (pa_cons (pv 3) (pa_cons (pv 1) pa_nil))) (pa_cons (zr c_reached_by (Nat.le_refl _) hgu hr rfl (pa_cons (pv 4) (pa_cons (pv 1) pa_nil))) pa_nil))) (pg_tup rfl (pgs_cons (pg_name (i:=7) nd rfl (by trivial)) (pgs_cons (pg_name (i:=8) nd rfl (by trivial)) pgs_nil)))))) (pss_cons (ps_setLc (i:=2) (own:=[("name",9)]) (g:=(gName 9)) (tt:=(tB (tOp (aau false) (tVar 9) (tVar 8)))) (te:=(tVar 9)) rfl nd rfl rfl (sw_true rfl rfl rfl (by decide +kernel)) (pi_keys (pv 7)) (blkOk_by (N:=X2) (sc:=defScope wQ) (by decide +kernel)) (fun _ _ _ _ _=>(pg_name (i:=9) nd rfl (by trivial))) (fun _ _ _ _ _=>(pts_one (pt_cmp (aer h1 (pv 9) (pv 8))))) (fun _ _ _ _ _=>(pv 9))) (pss_one (ps_ret (pe_callTy yQ rfl g_tuple boot_tuple (pa_cons (jX rfl h100 rfl g_sorted rfl g_set (pe_lst (StX.pa_star (pv 1) (StX.pa_star (pv 2) pa_nil)))) pa_nil)))))))),?_⟩
 exact(zt (ZB (wD (RfD.v (acT (n:=1))) (wD (RfD.v (acT (n:=1))) Xk)) (by decide) (by decide) (by decide) (by decide) (by decide) (by decide)) (zt (je [5,6] (Γb:=[.sh,.sh,.dd,.od 2,.od 2,.sh,.sh,.dd,.dd,.dd]) (Γk':=[.sh,.sh,.dd,.od 2,.od 2,.sh,.sh,.dd,.dd,.dd]) (yi (zN (ze zz) (zc eV zp))) (ZM (vQ (zE (by decide) (by decide)) (vQ (zE (by decide) (by decide)) YE))) (zt (GN (i:=3) (by rfl) eV eV) (zt (GN (i:=4) (by rfl) eV eV) zD)) (by decide) (by decide) (by decide)) (zt (acG 3 (by rfl) (acG 4 (by rfl) (QF (RfE.k (zN (ze (ze zz)) (zc eV (zc eV zp)))) (RfE.k (zN (ze (ze zz)) (zc eV (zc eV zp)))) (by decide) (by decide) (by decide) (by decide)))) (zt (wm (vO (Γ0:=[.sh,.sh,.dd,.sh,.sh,.dd,.dd,.sh,.sh,.dd]) (ah2 eV) (zE (by decide) (by decide)) (t_B (RfE.b (zF (Zx (neg:=false)) bV bV))) eV (by decide) (by decide) (by decide)) (by decide) (by decide)) (zt (yn (vg yo (zA (RfE.b (RfN.e (Jr (RfE.b (RfN.e (yC (J3 bV (J3 (vt (by rfl)) zp)))))))) zH))) zD)))))
abbrev afI:List Str:=["sheet", "name"]
theorem aeb:FnScope afI ["sheet", "name"] (defScope Vy):=⟨rfl,rfl,rfl,by decide +kernel,rfl,by decide +kernel,by decide +kernel⟩
theorem aec(F:Fun K "lot_of" "lot_of" Vy f fd)(c_closed_lot:Cal P w K mg base k "closed_lot" ["sheet", "lot"] (spP 2 yd))(c_readers_of:Cal P w K mg base k "readers_of" ["sheet", "name"] (spP 2 yJ)):FnG P w K mg base (k+1) f fd ["sheet", "name"] (spP 2 Je):=by
 refine yc (Γ:=[.sh,.sh]) (Γ':=[.sh,.sh]) (Γk:=[.sh,.sh]) F aeb rfl (by decide) rfl (by decide) ?_
 intro A s0 H0 lo gl ce qu fu co fr bl outer stack ex pn hgu hr
 refine⟨_,(pss_one (ps_ret (zr c_closed_lot (Nat.le_refl _) hgu hr rfl (pa_cons (pv 0) (pa_cons (zT (pa_cons (pv 1) (StX.pa_star (zr c_readers_of (Nat.le_refl _) hgu hr rfl (pa_cons (pv 0) (pa_cons (pv 1) pa_nil))) pa_nil))) pa_nil))))),?_⟩
 exact(zt (yn (zN (ze (ze zz)) (zc eV (zc (yA (zc eV (J3 (RfE.b (zN (ze (ze zz)) (zc eV (zc eV zp)))) zp))) zp)))) zD)
abbrev X3:List Str:=["sheet", "lot", "name", "reader"]
theorem Wx:FnScope X3 ["sheet", "lot", "name"] (defScope wR):=⟨rfl,rfl,rfl,by decide +kernel,rfl,by decide +kernel,by decide +kernel⟩
theorem Gi(F:Fun K "is_read_in" "is_read_in" wR f fd)(g_any:mg "any" = none)(c_readers_of:Cal P w K mg base k "readers_of" ["sheet", "name"] (spP 2 yJ)):FnG P w K mg base (k+1) f fd ["sheet", "lot", "name"] (spP 3 wc):=by
 refine yc (Γ:=[.sh,.sh,.sh,.dd]) (Γ':=[.sh,.sh,.sh,.dd]) (Γk:=[.sh,.sh,.sh,.dd]) F Wx rfl (by decide) rfl (by decide) ?_
 intro A s0 H0 lo gl ce qu fu co fr bl outer stack ex pn hgu hr
 have nd:=Wx.nd
 have h65:A.units+65<cLine:=by have:=hr.un;omega
 refine⟨_,(pss_one (ps_ret (pe_callB (cr_any rfl) rfl g_any boot_any (pa_cons (pe_lc (own:=[("reader",3)]) (g:=(gName 3)) (tt:=tYes) (te:=((tOp (jD K false) (tVar 3) (tVar 1)))) rfl nd (zS (zr c_readers_of (Nat.le_refl _) hgu hr rfl (pa_cons (pv 0) (pa_cons (pv 2) pa_nil)))) (blkOk_by (N:=X3) (sc:=defScope wR) (by decide +kernel)) (fun _ _ _ _ _=>(pg_name (i:=3) nd rfl (by trivial))) (fun _ _ _ _ _=>pts_nil) (fun _ _ _ _ _=>(pe_cmpR (wn h65) (pv 3) (pv 1) (by rfl)))) pa_nil)))),?_⟩
 exact(zt (yn (vg afP (zA (RfE.b (RfN.e (vO (Γ0:=[.sh,.sh,.sh,.dd]) (yi (zN (ze (ze zz)) (zc eV (zc eV zp)))) (zE (by decide) (by decide)) jf ((zF (yR (neg:=false)) bV bV)) (by decide) (by decide) (by decide)))) zH))) zD)
abbrev Iv:List Str:=["sheet", "lot", "axis", "name"]
theorem UW:FnScope Iv ["sheet", "lot", "axis"] (defScope Jt):=⟨rfl,rfl,rfl,by decide +kernel,rfl,by decide +kernel,by decide +kernel⟩
theorem acv(F:Fun K "lacking" "lacking" Jt f fd)(c_loops_of:Cal P w K mg base k "loops_of" ["sheet", "again", "name"] (spP 3 j5)):FnG P w K mg base (k+1) f fd ["sheet", "lot", "axis"] (spP 3 Ju):=by
 refine yc (Γ:=[.sh,.sh,.sh,.dd]) (Γ':=[.sh,.sh,.sh,.dd]) (Γk:=[.sh,.sh,.sh,.dd]) F UW rfl (by decide) rfl (by decide) ?_
 intro A s0 H0 lo gl ce qu fu co fr bl outer stack ex pn hgu hr
 have nd:=UW.nd
 have h65:A.units+65<cLine:=by have:=hr.un;omega
 refine⟨_,(pss_one (ps_ret (pe_lc (own:=[("name",3)]) (g:=(gName 3)) (tt:=(tTest (tOp (jD K true) (tVar 2) (tCall (spP 3 j5) [] (fun _ _ _=>False) (tCons (tVar 0) (tCons (aep tDNewK) (tCons (tVar 3) tNil))))))) (te:=(tVar 3)) rfl nd (zS (pv 1)) (blkOk_by (N:=Iv) (sc:=defScope Jt) (by decide +kernel)) (fun _ _ _ _ _=>(pg_name (i:=3) nd rfl (by trivial))) (fun _ _ _ _ _=>(pts_one (pt_cmpR (vR h65) (pv 2) (zr c_loops_of (Nat.le_refl _) hgu hr rfl (pa_cons (pv 0) (pa_cons (ID pe_dnewK) (pa_cons (pv 3) pa_nil)))) (by rfl)))) (fun _ _ _ _ _=>(pv 3))))),?_⟩
 exact(zt (yn (RfN.e (vO (Γ0:=[.sh,.sh,.sh,.dd]) (yi eV) (zE (by decide) (by decide)) (zR (RfE.b (zF (yR (neg:=true)) bV (RfE.b (zN (ze (ze (ze zz))) (zc eV (zc (acU) (zc eV zp)))))))) eV (by decide) (by decide) (by decide)))) zD)
abbrev UX:List Str:=["sheet", "lot", "axis", "may_again", "summing", "name"]
theorem Zc:FnScope UX ["sheet", "lot", "axis", "may_again"] (defScope jY):=⟨rfl,rfl,rfl,by decide +kernel,rfl,by decide +kernel,by decide +kernel⟩
theorem abt(F:Fun K "stops_in" "stops_in" jY f fd)(g_sorted:mg "sorted" = none)(g_tuple:mg "tuple" = none)(c_summed_axes:Cal P w K mg base k "summed_axes" ["sheet", "name"] (spP 2 y7))(c_is_read_in:Cal P w K mg base k "is_read_in" ["sheet", "lot", "name"] (spP 3 wc))(c_lacking:Cal P w K mg base k "lacking" ["sheet", "lot", "axis"] (spP 3 Ju)):FnG P w K mg base (k+1) f fd ["sheet", "lot", "axis", "may_again"] (spP 4 wI):=by
 refine yc (Γ:=[.sh,.sh,.sh,.sh,.dd,.dd]) (Γ':=[.sh,.sh,.sh,.sh,.dd,.dd]) (Γk:=[.sh,.sh,.sh,.sh,.dd,.dd]) F Zc rfl (by decide) rfl (by decide) ?_
 intro A s0 H0 lo gl ce qu fu co fr bl outer stack ex pn hgu hr
 have nd:=Zc.nd
 have h65:A.units+65<cLine:=by have:=hr.un;omega
 have h100:A.units+100<cLine:=by have:=hr.un;omega
 refine⟨_,(pss_cons (ps_setLc (i:=4) (own:=[("name",5)]) (g:=(gName 5)) (tt:=(tAnd (tTest (tOp (jD K false) (tVar 2) (tCall (spP 2 y7) [] (fun _ _ _=>False) (tCons (tVar 0) (tCons (tVar 5) tNil))))) (tB (tCall (spP 3 wc) [] (fun _ _ _=>False) (tCons (tVar 0) (tCons (tVar 1) (tCons (tVar 5) tNil))))))) (te:=(tVar 5)) rfl nd rfl rfl (sw_true rfl rfl rfl (by decide +kernel)) (zS (pv 1)) (blkOk_by (N:=UX) (sc:=defScope jY) (by decide +kernel)) (fun _ _ _ _ _=>(pg_name (i:=5) nd rfl (by trivial))) (fun _ _ _ _ _=>(pts_one (PW.pt (pw_and (pt_cmpR (wn h65) (pv 2) (zr c_summed_axes (Nat.le_refl _) hgu hr rfl (pa_cons (pv 0) (pa_cons (pv 5) pa_nil))) (by rfl)) (pw_and1 (pt_val (zr c_is_read_in (Nat.le_refl _) hgu hr rfl (pa_cons (pv 0) (pa_cons (pv 1) (pa_cons (pv 5) pa_nil)))))))))) (fun _ _ _ _ _=>(pv 5))) (pss_one (ps_ret (pe_callTy yQ rfl g_tuple boot_tuple (pa_cons (pe_callB (vF h100) rfl g_sorted boot_sorted (pa_cons (pe_lst (StX.pa_star (pv 4) (StX.pa_star (pe_ifExp (pt_val (pv 3)) (pe_lst pa_nil) (zr c_lacking (Nat.le_refl _) hgu hr rfl (pa_cons (pv 0) (pa_cons (pv 1) (pa_cons (pv 2) pa_nil))))) pa_nil))) pa_nil)) pa_nil))))),?_⟩
 exact(zt (wm (vO (Γ0:=[.sh,.sh,.sh,.sh,.dd,.dd]) (yi eV) (zE (by decide) (by decide)) (Wa (zR (RfE.b (zF (yR (neg:=false)) bV (RfE.b (zN (ze (ze zz)) (zc eV (zc eV zp))))))) (t_B (RfE.b (zN (ze (ze (ze zz))) (zc eV (zc eV (zc eV zp))))))) eV (by decide) (by decide) (by decide)) (by decide) (by decide)) (zt (yn (vg yo (zA (RfE.b (RfN.e (WJ yS (zA (RfE.b (RfN.e (yC (J3 (vt (by rfl)) (J3 (RfE.b (abE (t_B bV) (RfN.e (yC zp)) (zN (ze (ze (ze zz))) (zc eV (zc eV (zc eV zp)))))) zp))))) zH)))) zH))) zD))
abbrev abu:List Str:=["sheet", "one", "other", "line", "seen", "later", "way", "reader", "name"]
theorem Iw:FnScope abu ["sheet", "one", "other"] (defScope Qo):=⟨rfl,rfl,rfl,by decide +kernel,rfl,by decide +kernel,by decide +kernel⟩
theorem aed(F:Fun K "way_to" "way_to" Qo f fd)(c_readers_of:Cal P w K mg base k "readers_of" ["sheet", "name"] (spP 2 yJ)):FnG P w K mg base (k+1) f fd ["sheet", "one", "other"] (spP 3 Qr):=by
 refine yc (Γ:=[.sh,.sh,.sh,.dd,.dd,.dd,.dd,.dd,.dd]) (Γ':=[.sh,.sh,.sh,.dd,.dd,.dd,.dd,.dd,.dd]) (Γk:=[.sh,.sh,.sh,.dd,.dd,.dd,.dd,.dd,.dd]) F Iw rfl (by decide) rfl (by decide) ?_
 intro A s0 H0 lo gl ce qu fu co fr bl outer stack ex pn hgu hr
 have nd:=Iw.nd
 have h1:A.units+1<cLine:=by have:=hr.un;omega
 have h64:A.units+64<cLine:=by have:=hr.un;omega
 have h65:A.units+65<cLine:=by have:=hr.un;omega
 refine⟨_,(pss_cons (ps_par (i:=3) (j:=4) rfl nd rfl rfl (by decide) rfl rfl (pa_cons (pe_lc (own:=[("name",8)]) (g:=(gName 8)) (tt:=tYes) (te:=(tLst (tCons (tVar 8) tNil))) rfl nd (zS (pv 1)) (blkOk_by (N:=abu) (sc:=defScope Qo) (by decide +kernel)) (fun _ _ _ _ _=>(pg_name (i:=8) nd rfl (by trivial))) (fun _ _ _ _ _=>pts_nil) (fun _ _ _ _ _=>(pe_lst (pa_cons (pv 8) pa_nil)))) (pa_cons pe_dnewK pa_nil)) (by rfl)) (pss_cons (ps_while PassesOwn.never (pt_cmpR (op_neD h64) (pv 3) (pe_lst pa_nil) (by rfl)) (pss_cons (ps_set (i:=5) nd rfl (by trivial) (pe_lst pa_nil)) (pss_cons (ps_for PassesOwn.never rfl (zS (pv 3)) (pg_name (i:=6) nd rfl (by trivial)) (pss_cons (ps_for PassesOwn.never rfl (zS (zr c_readers_of (Nat.le_refl _) hgu hr rfl (pa_cons (pv 0) (pa_cons (pe_ix yW (pv 6) (pe_un un_neg (pe_int)) (fun _ _=>rfl)) pa_nil)))) (pg_name (i:=7) nd rfl (by trivial)) (pss_cons (ps_if (pt_cmpR (wn h65) (pv 7) (pv 2) (by rfl)) (pss_one (ps_ret (pe_lst (StX.pa_star (pv 6) (pa_cons (pv 7) pa_nil))))) pss_nil) (pss_cons (ps_if (pt_cmp (VS h1 (pv 7) (pv 4))) (pss_cons (ps_asg (pe_bl) (pg_sub (pv 4) (pv 7) (set_dict h1))) (pss_cons (ps_expr (pe_bm PySem.F.plainAttrs_list PySem.F.slot_list_append PySem.F.type_list_append mt_append (pv 5) (pa_cons (pe_lst (StX.pa_star (pv 6) (pa_cons (pv 7) pa_nil))) pa_nil))) pss_nil)) pss_nil) pss_nil))) pss_nil)) (pss_cons (ps_set (i:=3) nd rfl (by trivial) (pv 5)) pss_nil)))) (pss_one (ps_ret (pe_non))))),?_⟩
 exact(zt (ZB (wD (RfE.v (RfN.e (vO (Γ0:=[.sh,.sh,.sh,.dd,.dd,.dd,.dd,.dd,.dd]) (yi eV) (zE (by decide) (by decide)) jf (RfN.e (yC (zc eV zp))) (by decide) (by decide) (by decide)))) (wD (RfD.v aeD) Xk)) (by decide) (by decide) (by decide) (by decide) (by decide) (by decide)) (zt (acy (Γb:=[.sh,.sh,.sh,.sh,.od 1,.sh,.dd,.dd,.dd]) (Γk':=[.sh,.sh,.sh,.sh,.od 1,.dd,.dd,.dd,.dd]) Uu [5,7,6] (zR (RfE.b (zF (jV) bV (RfE.b (RfN.e (yC zp)))))) (zt (wm (yC zp) (by decide) (by decide)) (zt (je [7,6] (Γb:=[.sh,.sh,.sh,.sh,.od 1,.ow,.sh,.dd,.dd]) (Γk':=[.sh,.sh,.sh,.sh,.od 1,.ow,.sh,.dd,.dd]) (yi eV) (zE (by decide) (by decide)) (zt (je [7] (Γb:=[.sh,.sh,.sh,.sh,.od 1,.ow,.sh,.sh,.dd]) (Γk':=[.sh,.sh,.sh,.sh,.od 1,.ow,.sh,.sh,.dd]) (yi (zN (ze (ze zz)) (zc eV (zc (zF yj bV (RfE.b (agP Iz (RfE.b (zx 1))))) zp)))) (zE (by decide) (by decide)) (zt (JP (zR (RfE.b (zF (yR (neg:=false)) bV bV))) (zt (yn (RfN.e (yC (J3 bV (zc eV zp))))) zD) zD) (zt (JP (t_B (RfE.b (aeT (neg:=true) (i:=4) (by rfl) eV))) (zt (IM (i:=4) (by rfl) eV (Yi true)) (zt (Jz (i:=5) (by rfl) (RfN.e (yC (J3 bV (zc eV zp))))) zD)) zD) zD)) (by decide) (by decide) (by decide)) zD) (by decide) (by decide) (by decide)) (Jy 5 (by rfl) (zt (vW eV (by decide) (by decide)) zD)))) (by decide) (by decide) (by decide)) (zt (yn (Gv)) zD)))
abbrev UY:List Str:=["sheet", "one", "other", "way", "back"]
theorem Vc:FnScope UY ["sheet", "one", "other"] (defScope wF):=⟨rfl,rfl,rfl,by decide +kernel,rfl,by decide +kernel,by decide +kernel⟩
theorem Zt(F:Fun K "ring_of_lots" "ring_of_lots" wF f fd)(c_way_to:Cal P w K mg base k "way_to" ["sheet", "one", "other"] (spP 3 Qr)):FnG P w K mg base (k+1) f fd ["sheet", "one", "other"] (spP 3 yF):=by
 refine yc (Γ:=[.sh,.sh,.sh,.dd,.dd]) (Γ':=[.sh,.sh,.sh,.dd,.dd]) (Γk:=[.sh,.sh,.sh,.dd,.dd]) F Vc rfl (by decide) rfl (by decide) ?_
 intro A s0 H0 lo gl ce qu fu co fr bl outer stack ex pn hgu hr
 have nd:=Vc.nd
 refine⟨_,(pss_cons (ps_par (i:=3) (j:=4) rfl nd rfl rfl (by decide) rfl rfl (pa_cons (zr c_way_to (Nat.le_refl _) hgu hr rfl (pa_cons (pv 0) (pa_cons (pv 1) (pa_cons (pv 2) pa_nil)))) (pa_cons (zr c_way_to (Nat.le_refl _) hgu hr rfl (pa_cons (pv 0) (pa_cons (pv 2) (pa_cons (pv 1) pa_nil)))) pa_nil)) (by rfl)) (pss_one (ps_ret (pe_ifExp (PW.pt (pw_or (pt_cmpR op_isN1 (pv 3) (pe_non) (by rfl)) (pw_or1 (pt_cmpR op_isN1 (pv 4) (pe_non) (by rfl))))) (pe_non) (zT (pa_cons (pv 3) (pa_cons (pv 4) pa_nil))))))),?_⟩
 exact(zt (abQ (RfE.k (zN (ze (ze (ze zz))) (zc eV (zc eV (zc eV zp))))) (RfE.k (zN (ze (ze (ze zz))) (zc eV (zc eV (zc eV zp))))) (by decide) (by decide) (by decide) (by decide)) (zt (yn (abE (Vh (zR (RfE.b (zF (IH) bV (RfE.b (Gv))))) (zR (RfE.b (zF (IH) bV (RfE.b (Gv)))))) (Gv) (yA (zc eV (zc eV zp))))) zD))
abbrev UZ:List Str:=["_law_script", "_law_cell"]
theorem Zd:FnScope UZ ["_law_script"] (defScope jZ):=⟨rfl,rfl,rfl,by decide +kernel,rfl,by decide +kernel,by decide +kernel⟩
theorem abv(F:Fun K "_law_bag" "_law_bag" jZ f fd)(g_abs:mg "abs" = none):FnG P w K mg base (k+1) f fd ["_law_script"] (YO K):=by
 refine abS F Zd ?_
 ·intro A s0 H0 lo gl ce qu fu co fr bl outer stack ex pn hgu hr
  have nd:=Zd.nd
  have h1:A.units+1<cLine:=by have:=hr.un;omega
  have h10:A.units+10<cLine:=by have:=hr.un;omega
  have h20:A.units+20<cLine:=by have:=hr.un;omega
  have h64:A.units+64<cLine:=by have:=hr.un;omega
  have h65:A.units+65<cLine:=by have:=hr.un;omega
  have h100:A.units+100<cLine:=by have:=hr.un;omega
  exact(pss_one (ps_ret (pe_lst (pa_cons (pe_int) (pa_cons (pe_int) (pa_cons (pe_int) (pa_cons (pe_lc (own:=[("_law_cell",1)]) (g:=(gName 1)) (tt:=tYes) (te:=(tCB (fun xs H Q=>∃i,xs=[.int i]∧Q (.int (if i<0 then -i else i)) H) (tCons (tVar 1) tNil))) rfl nd (zS (pe_slice Yl (pv 0) po_none (po_some (pe_int)))) (blkOk_by (N:=UZ) (sc:=defScope jZ) (by decide +kernel)) (fun _ _ _ _ _=>(pg_name (i:=1) nd rfl (by trivial))) (fun _ _ _ _ _=>pts_nil) (fun _ _ _ _ _=>(pe_callB call_abs rfl g_abs boot_abs (pa_cons (pv 1) pa_nil)))) pa_nil)))))))
abbrev abw:List Str:=["_law_bag_here", "_law_many", "_law_early", "_law_second", "_law_cell", "_law_mixed_here", "_law_drawn"]
theorem X4:FnScope abw ["_law_bag_here", "_law_many"] (defScope Jb):=⟨rfl,rfl,rfl,by decide +kernel,rfl,by decide +kernel,by decide +kernel⟩
theorem aaa(F:Fun K "_law_take" "_law_take" Jb f fd)(g_int:mg "int" = none):FnG P w K mg base (k+1) f fd ["_law_bag_here", "_law_many"] (spB 2 zm):=by
 refine jI (Γ:=[.bg,.sh,.dd,.dd,.dd,.dd,.dd]) (Γ':=[.bg,.sh,.dd,.dd,.dd,.dd,.dd]) (Γk:=[.bg,.sh,.dd,.dd,.dd,.dd,.dd]) F X4 rfl (by decide) (by decide) rfl ?_
 intro A s0 H0 lo gl ce qu fu co fr bl outer stack ex pn hgu hr
 have nd:=X4.nd
 have h64:A.units+64<cLine:=by have:=hr.un;omega
 refine⟨_,(pss_cons (ps_if (pt_cmpR (op_eqD h64) (pe_ix yW (pv 0) (pe_int) (fun _ _=>rfl)) (pe_int) (by rfl)) (pss_cons (ps_set (i:=4) nd rfl (by trivial) (pe_ix yW (pe_op vD (pe_slice Yl (pe_ix yW (pv 0) (pe_int) (fun _ _=>rfl)) (po_some (pe_ix yW (pv 0) (pe_int) (fun _ _=>rfl))) po_none) (pe_lst (pa_cons (pe_int) pa_nil))) (pe_int) (fun _ _=>rfl))) (pss_cons (ps_augS (pv 0) pe_int ahN (pe_int) ip_add set_list) (pss_cons (ps_asg (pe_op op_mul (pv 4) (pe_callTy call_int1 rfl g_int boot_int (pa_cons (pe_cmpR op_ge (pv 4) (pe_op op_pow (pe_int) (pe_int)) (by rfl)) pa_nil))) (pg_sub (pv 0) pe_int set_list)) (pss_cons (ps_set (i:=5) nd rfl (by trivial) (pe_op vD (pe_op vD (pe_op op_mul (pe_ix yW (pv 0) (pe_int) (fun _ _=>rfl)) (pe_int)) (pe_op op_mod (pe_callTy call_int1 rfl g_int boot_int (pa_cons (pv 4) pa_nil)) (pe_int))) (pe_op op_mul (pe_int) (pe_ix yW (pv 0) (pe_int) (fun _ _=>rfl))))) (pss_cons (ps_asg (pe_op op_mod (pe_callTy call_int1 rfl g_int boot_int (pa_cons (pv 5) pa_nil)) (pe_int)) (pg_sub (pv 0) pe_int set_list)) pss_nil))))) pss_nil) (pss_cons (ps_if (pt_cmpR op_gt (pe_ix yW (pv 0) (pe_int) (fun _ _=>rfl)) (pe_int) (by rfl)) (pss_cons (ps_set (i:=6) nd rfl (by trivial) (pe_op op_mod (pe_callTy call_int1 rfl g_int boot_int (pa_cons (pe_ix yW (pv 0) (pe_int) (fun _ _=>rfl)) pa_nil)) (pv 1))) (pss_cons (ps_asg (pe_op op_fdiv (pe_callTy call_int1 rfl g_int boot_int (pa_cons (pe_ix yW (pv 0) (pe_int) (fun _ _=>rfl)) pa_nil)) (pv 1)) (pg_sub (pv 0) pe_int set_list)) (pss_one (ps_ret (pv 6))))) pss_nil) (pss_cons (ps_set (i:=2) nd rfl (by trivial) (pe_op op_mod (pe_callTy call_int1 rfl g_int boot_int (pa_cons (pe_op op_mul (pe_op vD (pe_ix yW (pv 0) (pe_int) (fun _ _=>rfl)) (pe_int)) (pe_int)) pa_nil)) (pe_int))) (pss_cons (ps_set (i:=3) nd rfl (by trivial) (pe_op op_mod (pe_callTy call_int1 rfl g_int boot_int (pa_cons (pe_op op_mul (pe_op op_mod (pe_callTy call_int1 rfl g_int boot_int (pa_cons (pe_op op_mul (pv 2) (pv 2)) pa_nil)) (pe_int)) (pe_int)) pa_nil)) (pe_int))) (pss_one (ps_ret (pe_op op_mod (pe_callTy call_int1 rfl g_int boot_int (pa_cons (pe_op op_fdiv (pv 3) (pe_int)) pa_nil)) (pv 1)))))))),?_⟩
 exact(zt (JP (zR (RfE.b (zF (jr) (RfE.b (Jo (k:=0) (by rfl) (RfE.b (zx 0)))) (RfE.b (zx 0))))) (zt (vW (zF yj (RfE.b (zF vE (RfE.b (Zl (RfE.b (Jo (k:=0) (by rfl) (RfE.b (zx 3)))) (Jf (RfE.b (Jo (k:=0) (by rfl) (RfE.b (zx 2))))) QV)) (RfE.b (RfN.e (yC (zc (zx 0) zp)))))) (RfE.b (zx 0))) (by decide) (by decide)) (zt (aez (k:=0) (i:=2) (by rfl) (by decide) (RfE.b (zx 1))) (zt (Z6 (k:=0) (i:=0) (by rfl) (zF VT bV (RfE.b (vg Jk (zA (RfE.b ((zF (agY) bV (RfE.b (zF afV (RfE.b (zx 10)) (RfE.b (zx 18))))))) zH))))) (zt (vW (zF vE (RfE.b (zF vE (RfE.b (zF VT (RfE.b (Jo (k:=0) (by rfl) (RfE.b (zx 1)))) (RfE.b (zx 48271)))) (RfE.b (zF QC (RfE.b (vg Jk (zA bV zH))) (RfE.b (zx 2147483647)))))) (RfE.b (zF VT (RfE.b (zx 7919)) (RfE.b (Jo (k:=0) (by rfl) (RfE.b (zx 2))))))) (by decide) (by decide)) (zt (Z6 (k:=0) (i:=1) (by rfl) (zF QC (RfE.b (vg Jk (zA bV zH))) (RfE.b (zx 2147483647)))) (agR [4,5] (Γ1:=[.bg,.sh,.dd,.dd,.dd,.dd,.dd]) (by decide) zD)))))) zD) (zt (JP (zR (RfE.b (zF (Vm) (RfE.b (Jo (k:=0) (by rfl) (RfE.b (zx 0)))) (RfE.b (zx 0))))) (zt (vW (zF QC (RfE.b (vg Jk (zA (RfE.b (Jo (k:=0) (by rfl) (RfE.b (zx 0)))) zH))) bV) (by decide) (by decide)) (zt (Z6 (k:=0) (i:=0) (by rfl) (zF aaB (RfE.b (vg Jk (zA (RfE.b (Jo (k:=0) (by rfl) (RfE.b (zx 0)))) zH))) bV)) (zt (yn eV) zD))) zD) (zt (vW (zF QC (RfE.b (vg Jk (zA (RfE.b (zF VT (RfE.b (zF vE (RfE.b (Jo (k:=0) (by rfl) (RfE.b (zx 1)))) (RfE.b (zx 1)))) (RfE.b (zx 39373)))) zH))) (RfE.b (zx 1000000007))) (by decide) (by decide)) (zt (vW (zF QC (RfE.b (vg Jk (zA (RfE.b (zF VT (RfE.b (zF QC (RfE.b (vg Jk (zA (RfE.b (zF VT bV bV)) zH))) (RfE.b (zx 998244353)))) (RfE.b (zx 30011)))) zH))) (RfE.b (zx 998244353))) (by decide) (by decide)) (zt (yn (zF QC (RfE.b (vg Jk (zA (RfE.b (zF aaB bV (RfE.b (zx 7)))) zH))) bV)) zD)))))
abbrev acw:List Str:=["_law_bag_here", "_law_some_here"]
theorem abx:FnScope acw ["_law_bag_here", "_law_some_here"] (defScope JI):=⟨rfl,rfl,rfl,by decide +kernel,rfl,by decide +kernel,by decide +kernel⟩
theorem aby(F:Fun K "_law_one" "_law_one" JI f fd)(g_len:mg "len" = none)(c__law_take:Cal P w K mg base k "_law_take" ["_law_bag_here", "_law_many"] (spB 2 zm)):FnG P w K mg base (k+1) f fd ["_law_bag_here", "_law_some_here"] (spB 2 zO):=by
 refine jI (Γ:=[.bg,.sh]) (Γ':=[.bg,.sh]) (Γk:=[.bg,.sh]) F abx rfl (by decide) (by decide) rfl ?_
 intro A s0 H0 lo gl ce qu fu co fr bl outer stack ex pn hgu hr
 refine⟨_,(pss_one (ps_ret (pe_ix yW (pv 1) (zr c__law_take (Nat.le_refl _) hgu hr rfl (pa_cons (pv 0) (pa_cons (pe_callB call_len_seq rfl g_len boot_len (pa_cons (pv 1) pa_nil)) pa_nil))) (fun _ _=>rfl)))),?_⟩
 exact(zt (yn (zF yj bV (RfE.b (z7 ((ze zz)).one (zc (vg JT (zA bV zH)) zp) (k:=0) (by rfl))))) zD)
abbrev aab:List Str:=["_law_bag_here", "_law_things", "_law_found", "_law_thing"]
theorem Wz:FnScope aab ["_law_bag_here", "_law_things"] (defScope jN):=⟨rfl,rfl,rfl,by decide +kernel,rfl,by decide +kernel,by decide +kernel⟩
theorem Gj(F:Fun K "_law_mixed" "_law_mixed" jN f fd)(g_len:mg "len" = none)(c__law_take:Cal P w K mg base k "_law_take" ["_law_bag_here", "_law_many"] (spB 2 zm)):FnG P w K mg base (k+1) f fd ["_law_bag_here", "_law_things"] (spB 2 zC):=by
 refine jI (Γ:=[.bg,.sh,.dd,.dd]) (Γ':=[.bg,.sh,.dd,.dd]) (Γk:=[.bg,.sh,.dd,.dd]) F Wz rfl (by decide) (by decide) rfl ?_
 intro A s0 H0 lo gl ce qu fu co fr bl outer stack ex pn hgu hr
 have nd:=Wz.nd
 refine⟨_,(pss_cons (ps_set (i:=2) nd rfl (by trivial) (pe_lst pa_nil)) (pss_cons (ps_for PassesOwn.never rfl (zS (pv 1)) (pg_name (i:=3) nd rfl (by trivial)) (pss_cons (ps_expr (pe_bm PySem.F.plainAttrs_list PySem.F.slot_list_insert PySem.F.type_list_insert ah5 (pv 2) (pa_cons (zr c__law_take (Nat.le_refl _) hgu hr rfl (pa_cons (pv 0) (pa_cons (pe_op vD (pe_callB call_len_seq rfl g_len boot_len (pa_cons (pv 2) pa_nil)) (pe_int)) pa_nil))) (pa_cons (pv 3) pa_nil)))) pss_nil)) (pss_one (ps_ret (pv 2))))),?_⟩
 exact(zt (wm (yC zp) (by decide) (by decide)) (zt (je [3] (Γb:=[.bg,.sh,.ow,.sh]) (Γk':=[.bg,.sh,.ow,.sh]) (yi eV) (zE (by decide) (by decide)) (zt (aew (i:=2) (by rfl) (RfE.b (z7 ((ze zz)).one (zc (zF vE (RfE.b (vg JT (zA (vt (by rfl)) zH))) (RfE.b (zx 1))) zp) (k:=0) (by rfl))) eV) zD) (by decide) (by decide) (by decide)) (Jy 2 (by rfl) (zt (yn eV) zD))))
abbrev aac:List Str:=["_law_found", "_law_due"]
theorem Gk:FnScope aac ["_law_found", "_law_due"] (defScope jO):=⟨rfl,rfl,rfl,by decide +kernel,rfl,by decide +kernel,by decide +kernel⟩
theorem Gm(F:Fun K "_law_alike" "_law_alike" jO f fd)(g_repr:mg "repr" = none):FnG P w K mg base (k+1) f fd ["_law_found", "_law_due"] (spP 2 zQ):=by
 refine yc (Γ:=[.sh,.sh]) (Γ':=[.sh,.sh]) (Γk:=[.sh,.sh]) F Gk rfl (by decide) rfl (by decide) ?_
 intro A s0 H0 lo gl ce qu fu co fr bl outer stack ex pn hgu hr
 have h64:A.units+64<cLine:=by have:=hr.un;omega
 have h100:A.units+100<cLine:=by have:=hr.un;omega
 refine⟨_,(pss_one (ps_ret ((pe_and (pe_cmpR (op_eqD h64) (pv 0) (pv 1) (by rfl)) (pe_one (pe_cmpR (op_eqD h64) (pe_callB (Zw hgu h100) rfl g_repr boot_repr (pa_cons (pv 0) pa_nil)) (pe_callB (Zw hgu h100) rfl g_repr boot_repr (pa_cons (pv 1) pa_nil)) (by rfl))))))),?_⟩
 exact(zt (yn ((aef (RfE.b ((zF (jr) bV bV))) ((zF (jr) (RfE.b (vg W3 (zA bV zH))) (RfE.b (vg W3 (zA bV zH)))))))) zD)
abbrev abz:List Str:=["_law_rows", "_law_found", "_law_row"]
theorem X5:FnScope abz ["_law_rows"] (defScope Jc):=⟨rfl,rfl,rfl,by decide +kernel,rfl,by decide +kernel,by decide +kernel⟩
theorem aad(F:Fun K "_law_flat" "_law_flat" Jc f fd):FnG P w K mg base (k+1) f fd ["_law_rows"] (spP 1 yl):=by
 refine yc (Γ:=[.sh,.dd,.dd]) (Γ':=[.sh,.dd,.dd]) (Γk:=[.sh,.dd,.dd]) F X5 rfl (by decide) rfl (by decide) ?_
 intro A s0 H0 lo gl ce qu fu co fr bl outer stack ex pn hgu hr
 have nd:=X5.nd
 refine⟨_,(pss_cons (ps_set (i:=1) nd rfl (by trivial) (pe_lst pa_nil)) (pss_cons (ps_for PassesOwn.never rfl (zS (pv 0)) (pg_name (i:=2) nd rfl (by trivial)) (pss_cons (ps_expr (pe_bm PySem.F.plainAttrs_list PySem.F.slot_list_extend PySem.F.type_list_extend acE (pv 1) (pa_cons (pv 2) pa_nil))) pss_nil)) (pss_one (ps_ret (pv 1))))),?_⟩
 exact(zt (wm (yC zp) (by decide) (by decide)) (zt (je [2] (Γb:=[.sh,.ow,.sh]) (Γk':=[.sh,.ow,.sh]) (yi eV) (zE (by decide) (by decide)) (zt (aaz (i:=1) (by rfl) bV) zD) (by decide) (by decide) (by decide)) (Jy 1 (by rfl) (zt (yn eV) zD))))
abbrev Ze:List Str:=["_law_bag_here", "_law_things", "_law_most", "_law_drawn", "_law_thing"]
theorem X6:FnScope Ze ["_law_bag_here", "_law_things", "_law_most"] (defScope jz):=⟨rfl,rfl,rfl,by decide +kernel,rfl,by decide +kernel,by decide +kernel⟩
theorem aae(F:Fun K "_law_some" "_law_some" jz f fd)(g_sorted:mg "sorted" = none)(g_tuple:mg "tuple" = none)(c__law_mixed:Cal P w K mg base k "_law_mixed" ["_law_bag_here", "_law_things"] (spB 2 zC))(c__law_take:Cal P w K mg base k "_law_take" ["_law_bag_here", "_law_many"] (spB 2 zm)):FnG P w K mg base (k+1) f fd ["_law_bag_here", "_law_things", "_law_most"] (spB 3 yx):=by
 refine jI (Γ:=[.bg,.sh,.sh,.dd,.dd]) (Γ':=[.bg,.sh,.sh,.dd,.dd]) (Γk:=[.bg,.sh,.sh,.dd,.dd]) F X6 rfl (by decide) (by decide) rfl ?_
 intro A s0 H0 lo gl ce qu fu co fr bl outer stack ex pn hgu hr
 have nd:=X6.nd
 have h64:A.units+64<cLine:=by have:=hr.un;omega
 have h100:A.units+100<cLine:=by have:=hr.un;omega
 refine⟨_,(pss_cons (ps_setLc (i:=3) (own:=[("_law_thing",4)]) (g:=(gName 4)) (tt:=(tTest (tOp (rEqD K) (tCall (spB 2 zm) [] (fun _ _ _=>False) (tCons (tVar 0) (tCons (tC (.int 2)) tNil))) (tC (.int 0))))) (te:=(tVar 4)) rfl nd rfl rfl (sw_true rfl rfl rfl (by decide +kernel)) (zS (zr c__law_mixed (Nat.le_refl _) hgu hr rfl (pa_cons (pv 0) (pa_cons (pv 1) pa_nil)))) (blkOk_by (N:=Ze) (sc:=defScope jz) (by decide +kernel)) (fun _ _ _ _ _=>(pg_name (i:=4) nd rfl (by trivial))) (fun _ _ _ _ _=>(pts_one (pt_cmpR (op_eqD h64) (zr c__law_take (Nat.le_refl _) hgu hr rfl (pa_cons (pv 0) (pa_cons (pe_int) pa_nil))) (pe_int) (by rfl)))) (fun _ _ _ _ _=>(pv 4))) (pss_one (ps_ret (pe_callTy yQ rfl g_tuple boot_tuple (pa_cons (pe_callB (vF h100) rfl g_sorted boot_sorted (pa_cons (pe_slice Yl (pv 3) po_none (po_some (pv 2))) pa_nil)) pa_nil))))),?_⟩
 exact(zt (wm (vO (Γ0:=[.bg,.sh,.sh,.dd,.dd]) (yi (z7 ((ze zz)).one (zc eV zp) (k:=0) (by rfl))) (zE (by decide) (by decide)) (zR (RfE.b (zF (jr) (RfE.b (z7 ((ze zz)).one (zc (zx 2) zp) (k:=0) (by rfl))) (RfE.b (zx 0))))) eV (by decide) (by decide) (by decide)) (by decide) (by decide)) (zt (yn (vg yo (zA (RfE.b (RfN.e (WJ yS (zA (RfE.b (Zl (vt (by rfl)) QV (Jf bV))) zH)))) zH))) zD))
abbrev vp:List Str:=["_law_bag_here", "_law_inputs", "_law_sums", "_law_pairs_here", "_law_elder", "_law_last", "_law_rest", "_law_found", "_law_first", "_law_many", "_law_row", "_law_name"]
theorem Jj:FnScope vp ["_law_bag_here", "_law_inputs", "_law_sums", "_law_pairs_here"] (defScope yr):=⟨rfl,rfl,rfl,by decide +kernel,rfl,by decide +kernel,by decide +kernel⟩
theorem V8(F:Fun K "_law_drawn_reads" "_law_drawn_reads" yr f fd)(g_len:mg "len" = none)(g_max:mg "max" = none)(g_sorted:mg "sorted" = none)(g_tuple:mg "tuple" = none)(c__law_one:Cal P w K mg base k "_law_one" ["_law_bag_here", "_law_some_here"] (spB 2 zO))(c__law_take:Cal P w K mg base k "_law_take" ["_law_bag_here", "_law_many"] (spB 2 zm))(c__law_mixed:Cal P w K mg base k "_law_mixed" ["_law_bag_here", "_law_things"] (spB 2 zC)):FnG P w K mg base (k+1) f fd ["_law_bag_here", "_law_inputs", "_law_sums", "_law_pairs_here"] (spB 4 yy):=by
 refine jI (Γ:=[.bg,.sh,.sh,.sh,.dd,.dd,.dd,.dd,.dd,.dd,.dd,.dd]) (Γ':=[.bg,.sh,.sh,.sh,.dd,.dd,.dd,.dd,.dd,.dd,.dd,.dd]) (Γk:=[.bg,.sh,.sh,.sh,.dd,.dd,.dd,.dd,.dd,.dd,.dd,.dd]) F Jj rfl (by decide) (by decide) rfl ?_
 intro A s0 H0 lo gl ce qu fu co fr bl outer stack ex pn hgu hr
 have nd:=Jj.nd
 have h64:A.units+64<cLine:=by have:=hr.un;omega
 have h65:A.units+65<cLine:=by have:=hr.un;omega
 have h100:A.units+100<cLine:=by have:=hr.un;omega
 refine⟨_,(pss_cons (ps_par (i:=8) (j:=9) rfl nd rfl rfl (by decide) rfl rfl (pa_cons (pe_lc (own:=[("_law_row",10)]) (g:=(gName 10)) (tt:=tYes) (te:=(tOp (v9 K) (tVar 10) (tC (.int 0)))) rfl nd (zS (pv 1)) (blkOk_by (N:=vp) (sc:=defScope yr) (by decide +kernel)) (fun _ _ _ _ _=>(pg_name (i:=10) nd rfl (by trivial))) (fun _ _ _ _ _=>pts_nil) (fun _ _ _ _ _=>(pe_ix yW (pv 10) (pe_int) (fun _ _=>rfl)))) (pa_cons (zr c__law_one (Nat.le_refl _) hgu hr rfl (pa_cons (pv 0) (pa_cons (pe_lst (pa_cons (pe_int) (pa_cons (pe_int) (pa_cons (pe_int) (pa_cons (pe_int) (pa_cons (pe_int) pa_nil)))))) pa_nil))) pa_nil)) (by rfl)) (pss_cons (ps_set (i:=4) nd rfl (by trivial) (pe_lc (own:=[("_law_row",10)]) (g:=(gName 10)) (tt:=tYes) (te:=(tOp (v9 K) (tVar 10) (tC (.int 0)))) rfl nd (zS (pv 2)) (blkOk_by (N:=vp) (sc:=defScope yr) (by decide +kernel)) (fun _ _ _ _ _=>(pg_name (i:=10) nd rfl (by trivial))) (fun _ _ _ _ _=>pts_nil) (fun _ _ _ _ _=>(pe_ix yW (pv 10) (pe_int) (fun _ _=>rfl))))) (pss_cons (ps_set (i:=5) nd rfl (by trivial) (pe_ifExp (pt_cmpR op_gt (zr c__law_take (Nat.le_refl _) hgu hr rfl (pa_cons (pv 0) (pa_cons (pe_int) pa_nil))) (pe_int) (by rfl)) (pe_slice Yl (pv 4) (po_some (pe_un un_neg (pe_int))) po_none) (pe_lst pa_nil))) (pss_cons (ps_setLc (i:=6) (own:=[("_law_name",11)]) (g:=(gName 11)) (tt:=(tTest (tOp (jD K true) (tVar 11) (tVar 5)))) (te:=(tVar 11)) rfl nd rfl rfl (sw_true rfl rfl rfl (by decide +kernel)) (zS (zr c__law_mixed (Nat.le_refl _) hgu hr rfl (pa_cons (pv 0) (pa_cons (pe_op vD (pv 8) (pv 4)) pa_nil)))) (blkOk_by (N:=vp) (sc:=defScope yr) (by decide +kernel)) (fun _ _ _ _ _=>(pg_name (i:=11) nd rfl (by trivial))) (fun _ _ _ _ _=>(pts_one (pt_cmpR (vR h65) (pv 11) (pv 5) (by rfl)))) (fun _ _ _ _ _=>(pv 11))) (pss_cons (ps_set (i:=7) nd rfl (by trivial) (pe_op vD (pv 5) (pe_slice Yl (pv 6) po_none (po_some (pe_callB (call_max2 rfl) rfl g_max boot_max (pa_cons (pe_int) (pa_cons (pe_op op_sub (pv 9) (pe_callB call_len_seq rfl g_len boot_len (pa_cons (pv 5) pa_nil))) pa_nil))))))) (pss_cons (ps_if (PW.pt (pw_or (pt_cmpR op_gt (pe_op vD (pv 3) (pe_callB call_len_seq rfl g_len boot_len (pa_cons (pe_lc (own:=[("_law_name",11)]) (g:=(gName 11)) (tt:=(tTest (tOp (jD K false) (tVar 11) (tVar 4)))) (te:=(tVar 11)) rfl nd (zS (pv 7)) (blkOk_by (N:=vp) (sc:=defScope yr) (by decide +kernel)) (fun _ _ _ _ _=>(pg_name (i:=11) nd rfl (by trivial))) (fun _ _ _ _ _=>(pts_one (pt_cmpR (wn h65) (pv 11) (pv 4) (by rfl)))) (fun _ _ _ _ _=>(pv 11))) pa_nil))) (pe_int) (by rfl)) (pw_or1 (pt_cmpR (op_eqD h64) (pv 7) (pe_lst pa_nil) (by rfl))))) (pss_cons (ps_set (i:=7) nd rfl (by trivial) (pe_slice Yl (pv 8) po_none (po_some (pv 9)))) pss_nil) pss_nil) (pss_one (ps_ret (pe_callTy yQ rfl g_tuple boot_tuple (pa_cons (pe_callB (vF h100) rfl g_sorted boot_sorted (pa_cons (pv 7) pa_nil)) pa_nil)))))))))),?_⟩
 exact(zt (abQ (RfN.k (vO (Γ0:=[.bg,.sh,.sh,.sh,.dd,.dd,.dd,.dd,.dd,.dd,.dd,.dd]) (yi eV) (zE (by decide) (by decide)) jf (zF yj bV (RfE.b (zx 0))) (by decide) (by decide) (by decide))) (RfE.k (z7 ((ze zz)).one (zc (RfN.e (yC (zc (zx 2) (zc (zx 1) (zc (zx 2) (zc (zx 3) (zc (zx 4) zp))))))) zp) (k:=0) (by rfl))) (by decide) (by decide) (by decide) (by decide)) (zt (wm (vO (Γ0:=[.bg,.sh,.sh,.sh,.dd,.dd,.dd,.dd,.ow,.sh,.dd,.dd]) (yi eV) (zE (by decide) (by decide)) jf (zF yj bV (RfE.b (zx 0))) (by decide) (by decide) (by decide)) (by decide) (by decide)) (zt (vW (abE (zR (RfE.b (zF (Vm) (RfE.b (z7 ((ze zz)).one (zc (zx 4) zp) (k:=0) (by rfl))) (RfE.b (zx 0))))) (Zl (vt (by rfl)) (Jf (RfE.b (agP Iz (RfE.b (zx 1))))) QV) (RfN.e (yC zp))) (by decide) (by decide)) (zt (wm (vO (Γ0:=[.bg,.sh,.sh,.sh,.ow,.sh,.dd,.dd,.ow,.sh,.dd,.dd]) (yi (z7 ((ze zz)).one (zc (zF vE (vt (by rfl)) (vt (by rfl))) zp) (k:=0) (by rfl))) (zE (by decide) (by decide)) (zR (RfE.b (zF (yR (neg:=true)) bV bV))) eV (by decide) (by decide) (by decide)) (by decide) (by decide)) (zt (vW (zF vE bV (RfE.b (Zl (vt (by rfl)) QV (Jf (RfE.b (vg aaC (zA (RfE.b (zx 0)) (zA (RfE.b (zF Iy bV (RfE.b (vg JT (zA bV zH))))) zH)))))))) (by decide) (by decide)) (zt (JP (Vh (zR (RfE.b (zF (Vm) (RfE.b (zF vE bV (RfE.b (vg JT (zA (RfE.b (RfN.e (vO (Γ0:=[.bg,.sh,.sh,.sh,.ow,.sh,.ow,.sh,.ow,.sh,.dd,.dd]) (yi eV) (zE (by decide) (by decide)) (zR (RfE.b (zF (yR (neg:=false)) bV (vt (by rfl))))) eV (by decide) (by decide) (by decide)))) zH))))) (RfE.b (zx 9))))) (zR (RfE.b (zF (jr) bV (RfE.b (RfN.e (yC zp))))))) (zt (vW (Zl (vt (by rfl)) QV (Jf bV)) (by decide) (by decide)) zD) zD) (zt (yn (vg yo (zA (RfE.b (RfN.e (WJ yS (zA bV zH)))) zH))) zD)))))))
abbrev j6:List Str:=["_law_bag_here", "_law_inputs", "_law_sums", "_law_reads_here", "_law_axes", "_law_way", "_law_axis", "_law_row"]
theorem J2:FnScope j6 ["_law_bag_here", "_law_inputs", "_law_sums", "_law_reads_here"] (defScope yX):=⟨rfl,rfl,rfl,by decide +kernel,rfl,by decide +kernel,by decide +kernel⟩
theorem X7(F:Fun K "_law_drawn_own" "_law_drawn_own" yX f fd)(g_set:mg "set" = none)(g_sorted:mg "sorted" = none)(g_tuple:mg "tuple" = none)(c__law_flat:Cal P w K mg base k "_law_flat" ["_law_rows"] (spP 1 yl))(c__law_take:Cal P w K mg base k "_law_take" ["_law_bag_here", "_law_many"] (spB 2 zm)):FnG P w K mg base (k+1) f fd ["_law_bag_here", "_law_inputs", "_law_sums", "_law_reads_here"] (spB 4 yN):=by
 refine jI (Γ:=[.bg,.sh,.sh,.sh,.dd,.dd,.dd,.dd]) (Γ':=[.bg,.sh,.sh,.sh,.dd,.dd,.dd,.dd]) (Γk:=[.bg,.sh,.sh,.sh,.dd,.dd,.dd,.dd]) F J2 rfl (by decide) (by decide) rfl ?_
 intro A s0 H0 lo gl ce qu fu co fr bl outer stack ex pn hgu hr
 have nd:=J2.nd
 have h64:A.units+64<cLine:=by have:=hr.un;omega
 have h65:A.units+65<cLine:=by have:=hr.un;omega
 have h100:A.units+100<cLine:=by have:=hr.un;omega
 refine⟨_,(pss_cons (ps_set (i:=4) nd rfl (by trivial) (jX rfl h100 rfl g_sorted rfl g_set (zr c__law_flat (Nat.le_refl _) hgu hr rfl (pa_cons (pe_lc (own:=[("_law_row",7)]) (g:=(gName 7)) (tt:=(tTest (tOp (jD K false) (tOp (v9 K) (tVar 7) (tC (.int 0))) (tVar 3)))) (te:=(tOp (v9 K) (tVar 7) (tC (.int 1)))) rfl nd (zS (pe_op vD (pv 1) (pv 2))) (blkOk_by (N:=j6) (sc:=defScope yX) (by decide +kernel)) (fun _ _ _ _ _=>(pg_name (i:=7) nd rfl (by trivial))) (fun _ _ _ _ _=>(pts_one (pt_cmpR (wn h65) (pe_ix yW (pv 7) (pe_int) (fun _ _=>rfl)) (pv 3) (by rfl)))) (fun _ _ _ _ _=>(pe_ix yW (pv 7) (pe_int) (fun _ _=>rfl)))) pa_nil)))) (pss_cons (ps_set (i:=5) nd rfl (by trivial) (zr c__law_take (Nat.le_refl _) hgu hr rfl (pa_cons (pv 0) (pa_cons (pe_int) pa_nil)))) (pss_cons (ps_if (pt_cmpR (op_eqD h64) (pv 5) (pe_int) (by rfl)) (pss_one (ps_ret (pe_callTy yQ rfl g_tuple boot_tuple (pa_cons (pv 4) pa_nil)))) pss_nil) (pss_one (ps_ret (pe_callTy yQ rfl g_tuple boot_tuple (pa_cons (pe_lc (own:=[("_law_axis",6)]) (g:=(gName 6)) (tt:=(tAnd (tTest (tOp (rI0 fun i j=>.bl (decide (j<i))) (tVar 5) (tC (.int 1)))) (tTest (tOp (rI0 fun i j=>.bl (decide (j<i))) (tCall (spB 2 zm) [] (fun _ _ _=>False) (tCons (tVar 0) (tCons (tC (.int 3)) tNil))) (tC (.int 0)))))) (te:=(tVar 6)) rfl nd (zS (pv 4)) (blkOk_by (N:=j6) (sc:=defScope yX) (by decide +kernel)) (fun _ _ _ _ _=>(pg_name (i:=6) nd rfl (by trivial))) (fun _ _ _ _ _=>(pts_one (PW.pt (pw_and (pt_cmpR op_gt (pv 5) (pe_int) (by rfl)) (pw_and1 (pt_cmpR op_gt (zr c__law_take (Nat.le_refl _) hgu hr rfl (pa_cons (pv 0) (pa_cons (pe_int) pa_nil))) (pe_int) (by rfl))))))) (fun _ _ _ _ _=>(pv 6))) pa_nil))))))),?_⟩
 exact(zt (wm (Jr (RfE.b (zN (ze zz) (zc (RfN.e (vO (Γ0:=[.bg,.sh,.sh,.sh,.dd,.dd,.dd,.dd]) (yi (zF vE bV bV)) (zE (by decide) (by decide)) (zR (RfE.b (zF (yR (neg:=false)) (RfE.b (zF yj bV (RfE.b (zx 0)))) bV))) (zF yj bV (RfE.b (zx 1))) (by decide) (by decide) (by decide))) zp)))) (by decide) (by decide)) (zt (vW (z7 ((ze zz)).one (zc (zx 6) zp) (k:=0) (by rfl)) (by decide) (by decide)) (zt (JP (zR (RfE.b (zF (jr) bV (RfE.b (zx 0))))) (zt (yn (vg yo (zA (vt (by rfl)) zH))) zD) zD) (Jy 4 (by rfl) (zt (yn (vg yo (zA (RfE.b (RfN.e (vO (Γ0:=[.bg,.sh,.sh,.sh,.sh,.sh,.dd,.dd]) (yi eV) (zE (by decide) (by decide)) (Wa (zR (RfE.b (zF (Vm) bV (RfE.b (zx 1))))) (zR (RfE.b (zF (Vm) (RfE.b (z7 ((ze zz)).one (zc (zx 3) zp) (k:=0) (by rfl))) (RfE.b (zx 0)))))) eV (by decide) (by decide) (by decide)))) zH))) zD)))))
abbrev Jq:List Str:=["_law_bag_here", "_law_most", "_law_wide", "_law_axes", "_law_names_here", "_law_k", "_law_read", "_law_outputs", "_law_inputs", "_law_sums", "_law_pairs_here", "_law_reads_here", "_law_row"]
theorem WA:FnScope Jq ["_law_bag_here", "_law_most", "_law_wide"] (defScope vG):=⟨rfl,rfl,rfl,by decide +kernel,rfl,by decide +kernel,by decide +kernel⟩
theorem Gn(F:Fun K "_law_sheet" "_law_sheet" vG f fd)(g_len:mg "len" = none)(g_max:mg "max" = none)(g_range:mg "range" = none)(g_sorted:mg "sorted" = none)(g_tuple:mg "tuple" = none)(c__law_mixed:Cal P w K mg base k "_law_mixed" ["_law_bag_here", "_law_things"] (spB 2 zC))(c__law_one:Cal P w K mg base k "_law_one" ["_law_bag_here", "_law_some_here"] (spB 2 zO))(c__law_take:Cal P w K mg base k "_law_take" ["_law_bag_here", "_law_many"] (spB 2 zm))(c__law_some:Cal P w K mg base k "_law_some" ["_law_bag_here", "_law_things", "_law_most"] (spB 3 yx))(c__law_drawn_reads:Cal P w K mg base k "_law_drawn_reads" ["_law_bag_here", "_law_inputs", "_law_sums", "_law_pairs_here"] (spB 4 yy))(c__law_drawn_own:Cal P w K mg base k "_law_drawn_own" ["_law_bag_here", "_law_inputs", "_law_sums", "_law_reads_here"] (spB 4 yN))(c__law_flat:Cal P w K mg base k "_law_flat" ["_law_rows"] (spP 1 yl)):FnG P w K mg base (k+1) f fd ["_law_bag_here", "_law_most", "_law_wide"] (spB 3 vj):=by
 refine jI (Γ:=[.bg,.sh,.sh,.dd,.dd,.dd,.dd,.dd,.dd,.dd,.dd,.dd,.dd]) (Γ':=[.bg,.sh,.sh,.dd,.dd,.dd,.dd,.dd,.dd,.dd,.dd,.dd,.dd]) (Γk:=[.bg,.sh,.sh,.dd,.dd,.dd,.dd,.dd,.dd,.dd,.dd,.dd,.dd]) F WA rfl (by decide) (by decide) rfl ?_
 intro A s0 H0 lo gl ce qu fu co fr bl outer stack ex pn hgu hr
 have nd:=WA.nd
 have h64:A.units+64<cLine:=by have:=hr.un;omega
 have h65:A.units+65<cLine:=by have:=hr.un;omega
 have h100:A.units+100<cLine:=by have:=hr.un;omega
 refine⟨_,(pss_cons (ps_set (i:=3) nd rfl (by trivial) (pe_slice Yl (zr c__law_mixed (Nat.le_refl _) hgu hr rfl (pa_cons (pv 0) (pa_cons (pe_lst (pa_cons (pe_str) (pa_cons (pe_str) (pa_cons (pe_str) (pa_cons (pe_str) (pa_cons (pe_str) (pa_cons (pe_str) (pa_cons (pe_str) pa_nil)))))))) pa_nil))) po_none (po_some (pe_callB (call_max2 rfl) rfl g_max boot_max (pa_cons (pe_int) (pa_cons (pe_op op_sub (pv 2) (zr c__law_one (Nat.le_refl _) hgu hr rfl (pa_cons (pv 0) (pa_cons (pe_lst (pa_cons (pe_int) (pa_cons (pe_int) (pa_cons (pe_int) (pa_cons (pe_int) pa_nil))))) pa_nil)))) pa_nil)))))) (pss_cons (ps_set (i:=4) nd rfl (by trivial) (zr c__law_mixed (Nat.le_refl _) hgu hr rfl (pa_cons (pv 0) (pa_cons (pe_lst (pa_cons (pe_str) (pa_cons (pe_str) (pa_cons (pe_str) (pa_cons (pe_str) (pa_cons (pe_str) (pa_cons (pe_str) (pa_cons (pe_str) (pa_cons (pe_str) (pa_cons (pe_str) (pa_cons (pe_str) (pa_cons (pe_str) (pa_cons (pe_str) pa_nil))))))))))))) pa_nil)))) (pss_cons (ps_par3 (i:=8) (j:=9) (l:=10) rfl nd rfl rfl rfl (by decide) (by decide) (by decide) rfl rfl rfl (pa_cons (pe_lst pa_nil) (pa_cons (pe_lst pa_nil) (pa_cons (pe_int) pa_nil))) (by rfl)) (pss_cons (ps_for PassesOwn.never rfl (pi_range1 rfl g_range (pa_cons (pe_op vD (pe_int) (zr c__law_take (Nat.le_refl _) hgu hr rfl (pa_cons (pv 0) (pa_cons (pe_int) pa_nil)))) pa_nil)) (pg_name (i:=5) nd rfl (by trivial)) (pss_cons (ps_expr (pe_bm PySem.F.plainAttrs_list PySem.F.slot_list_append PySem.F.type_list_append mt_append (pv 8) (pa_cons (zT (pa_cons (pe_bm0 PySem.F.plainAttrs_list PySem.F.slot_list_pop PySem.F.type_list_pop mt_pop (pv 4)) (pa_cons (pe_ifExp (pt_cmpR op_gt (pv 5) (pe_int) (by rfl)) (zr c__law_some (Nat.le_refl _) hgu hr rfl (pa_cons (pv 0) (pa_cons (pv 3) (pa_cons (pe_int) pa_nil)))) (pe_callTy yQ rfl g_tuple boot_tuple (pa_cons (pe_callB (vF h100) rfl g_sorted boot_sorted (pa_cons (pe_slice Yl (pv 3) po_none (po_some (pe_int))) pa_nil)) pa_nil))) pa_nil))) pa_nil))) pss_nil)) (pss_cons (ps_for PassesOwn.never rfl (pi_range1 rfl g_range (pa_cons (pe_op vD (pe_int) (zr c__law_take (Nat.le_refl _) hgu hr rfl (pa_cons (pv 0) (pa_cons (pv 1) pa_nil)))) pa_nil)) (pg_name (i:=5) nd rfl (by trivial)) (pss_cons (ps_set (i:=11) nd rfl (by trivial) (zr c__law_drawn_reads (Nat.le_refl _) hgu hr rfl (pa_cons (pv 0) (pa_cons (pv 8) (pa_cons (pv 9) (pa_cons (pv 10) pa_nil)))))) (pss_cons (ps_aug (i:=10) nd rfl (by trivial) ((pe_callB call_len_seq rfl g_len boot_len (pa_cons (pe_lc (own:=[("_law_row",12)]) (g:=(gName 12)) (tt:=(tTest (tOp (jD K false) (tOp (v9 K) (tVar 12) (tC (.int 0))) (tVar 11)))) (te:=(tVar 12)) rfl nd (zS (pv 9)) (blkOk_by (N:=Jq) (sc:=defScope vG) (by decide +kernel)) (fun _ _ _ _ _=>(pg_name (i:=12) nd rfl (by trivial))) (fun _ _ _ _ _=>(pts_one (pt_cmpR (wn h65) (pe_ix yW (pv 12) (pe_int) (fun _ _=>rfl)) (pv 11) (by rfl)))) (fun _ _ _ _ _=>(pv 12))) pa_nil))) ip_add) (pss_cons (ps_expr (pe_bm PySem.F.plainAttrs_list PySem.F.slot_list_append PySem.F.type_list_append mt_append (pv 9) (pa_cons (zT (pa_cons (pe_bm0 PySem.F.plainAttrs_list PySem.F.slot_list_pop PySem.F.type_list_pop mt_pop (pv 4)) (pa_cons (zr c__law_drawn_own (Nat.le_refl _) hgu hr rfl (pa_cons (pv 0) (pa_cons (pv 8) (pa_cons (pv 9) (pa_cons (pv 11) pa_nil))))) (pa_cons (pv 11) pa_nil)))) pa_nil))) pss_nil)))) (pss_cons (ps_set (i:=6) nd rfl (by trivial) (zr c__law_flat (Nat.le_refl _) hgu hr rfl (pa_cons (pe_lc (own:=[("_law_row",12)]) (g:=(gName 12)) (tt:=tYes) (te:=(tOp (v9 K) (tVar 12) (tC (.int 2)))) rfl nd (zS (pv 9)) (blkOk_by (N:=Jq) (sc:=defScope vG) (by decide +kernel)) (fun _ _ _ _ _=>(pg_name (i:=12) nd rfl (by trivial))) (fun _ _ _ _ _=>pts_nil) (fun _ _ _ _ _=>(pe_ix yW (pv 12) (pe_int) (fun _ _=>rfl)))) pa_nil))) (pss_cons (ps_setLc (i:=7) (own:=[("_law_row",12)]) (g:=(gName 12)) (tt:=(tOr (tTest (tOp (jD K true) (tOp (v9 K) (tVar 12) (tC (.int 0))) (tVar 6))) (tTest (tOp (rEqD K) (tCall (spB 2 zm) [] (fun _ _ _=>False) (tCons (tVar 0) (tCons (tC (.int 5)) tNil))) (tC (.int 0)))))) (te:=(tOp (v9 K) (tVar 12) (tC (.int 0)))) rfl nd rfl rfl (sw_true rfl rfl rfl (by decide +kernel)) (zS (pv 9)) (blkOk_by (N:=Jq) (sc:=defScope vG) (by decide +kernel)) (fun _ _ _ _ _=>(pg_name (i:=12) nd rfl (by trivial))) (fun _ _ _ _ _=>(pts_one (PW.pt (pw_or (pt_cmpR (vR h65) (pe_ix yW (pv 12) (pe_int) (fun _ _=>rfl)) (pv 6) (by rfl)) (pw_or1 (pt_cmpR (op_eqD h64) (zr c__law_take (Nat.le_refl _) hgu hr rfl (pa_cons (pv 0) (pa_cons (pe_int) pa_nil))) (pe_int) (by rfl))))))) (fun _ _ _ _ _=>(pe_ix yW (pv 12) (pe_int) (fun _ _=>rfl)))) (pss_one (ps_ret (zT (pa_cons (pe_callTy yQ rfl g_tuple boot_tuple (pa_cons (zr c__law_mixed (Nat.le_refl _) hgu hr rfl (pa_cons (pv 0) (pa_cons (pv 8) pa_nil))) pa_nil)) (pa_cons (pe_callTy yQ rfl g_tuple boot_tuple (pa_cons (pv 9) pa_nil)) (pa_cons (pe_callTy yQ rfl g_tuple boot_tuple (pa_cons (pe_callB (vF h100) rfl g_sorted boot_sorted (pa_cons (pv 7) pa_nil)) pa_nil)) pa_nil))))))))))))),?_⟩
 exact(zt (vW (Zl (RfE.b (z7 ((ze zz)).one (zc (RfN.e (yC (zc (yB "i") (zc (yB "j") (zc (yB "k") (zc (yB "ab") (zc (yB "zzzzzz") (zc (yB "b") (zc (yB "aaaaaa") zp))))))))) zp) (k:=0) (by rfl))) QV (Jf (RfE.b (vg aaC (zA (RfE.b (zx 1)) (zA (RfE.b (zF Iy bV (RfE.b (z7 ((ze zz)).one (zc (RfN.e (yC (zc (zx 0) (zc (zx 1) (zc (zx 0) (zc (zx 2) zp)))))) zp) (k:=0) (by rfl))))) zH)))))) (by decide) (by decide)) (zt (wm (aaS (yC (zc (yB "t") (zc (yB "u") (zc (yB "v") (zc (yB "x") (zc (yB "y") (zc (yB "p") (zc (yB "q") (zc (yB "r") (zc (yB "s") (zc (yB "end") (zc (yB "add") (zc (yB "abcdef") zp))))))))))))) (k:=0) (by rfl)) (by decide) (by decide)) (zt (ah7 (RfN.k (yC zp)) (RfN.k (yC zp)) (RfE.k (zx 0)) (by decide) (by decide) (by decide) (by decide) (by decide) (by decide) (by decide)) (zt (je [5] (Γb:=[.bg,.sh,.sh,.sh,.ow,.sh,.dd,.dd,.ow,.ow,.sh,.dd,.dd]) (Γk':=[.bg,.sh,.sh,.sh,.ow,.sh,.dd,.dd,.ow,.ow,.sh,.dd,.dd]) (Yj (zA (RfE.b (zF vE (RfE.b (zx 1)) (RfE.b (z7 ((ze zz)).one (zc (zx 4) zp) (k:=0) (by rfl))))) zH)) (zE (by decide) (by decide)) (zt (Xl (i:=8) (by rfl) (ZC (by decide)) (Uf (j:=4) (by rfl)) (zc (abE (zR (RfE.b (zF (Vm) bV (RfE.b (zx 0))))) (z7 ((ze (ze zz))).one (zc eV (zc (zx 3) zp)) (k:=0) (by rfl)) (vg yo (zA (RfE.b (RfN.e (WJ yS (zA (RfE.b (Zl bV QV (Jf (RfE.b (zx 3))))) zH)))) zH))) zp)) zD) (by decide) (by decide) (by decide)) (zt (je [5,11,12] (Γb:=[.bg,.sh,.sh,.sh,.ow,.sh,.dd,.dd,.ow,.ow,.sh,.sh,.dd]) (Γk':=[.bg,.sh,.sh,.sh,.ow,.sh,.dd,.dd,.ow,.ow,.sh,.dd,.dd]) (Yj (zA (RfE.b (zF vE (RfE.b (zx 1)) (RfE.b (z7 ((ze zz)).one (zc eV zp) (k:=0) (by rfl))))) zH)) (zE (by decide) (by decide)) (zt (vW (Uj ((ze (ze (ze zz)))).one (zA (vt (by rfl)) (zA (vt (by rfl)) (zA bV zH))) (k:=0) (by rfl)) (by decide) (by decide)) (zt (ah6 (i:=10) (by rfl) (RfE.b ((ahs 9 (by rfl) (vg JT (zA (RfE.b (RfN.e (vO (Γ0:=[.bg,.sh,.sh,.sh,.ow,.sh,.dd,.dd,.ow,.sh,.sh,.sh,.dd]) (yi eV) (zE (by decide) (by decide)) (zR (RfE.b (zF (yR (neg:=false)) (RfE.b (zF yj bV (RfE.b (zx 0)))) bV))) eV (by decide) (by decide) (by decide)))) zH))))) (by decide)) (zt (Xl (i:=9) (by rfl) (ZC (by decide)) (Uf (j:=4) (by rfl)) (zc (Uj ((ze (ze (ze zz)))).one (zA (vt (by rfl)) (zA (vt (by rfl)) (zA bV zH))) (k:=0) (by rfl)) (zc eV zp))) zD))) (by decide) (by decide) (by decide)) (Jy 9 (by rfl) (zt (vW (zN (ze zz) (zc (RfN.e (vO (Γ0:=[.bg,.sh,.sh,.sh,.ow,.dd,.dd,.dd,.ow,.sh,.sh,.dd,.dd]) (yi eV) (zE (by decide) (by decide)) jf (zF yj bV (RfE.b (zx 2))) (by decide) (by decide) (by decide))) zp)) (by decide) (by decide)) (zt (wm (vO (Γ0:=[.bg,.sh,.sh,.sh,.ow,.dd,.sh,.dd,.ow,.sh,.sh,.dd,.dd]) (yi eV) (zE (by decide) (by decide)) (Vh (zR (RfE.b (zF (yR (neg:=true)) (RfE.b (zF yj bV (RfE.b (zx 0)))) bV))) (zR (RfE.b (zF (jr) (RfE.b (z7 ((ze zz)).one (zc (zx 5) zp) (k:=0) (by rfl))) (RfE.b (zx 0)))))) (zF yj bV (RfE.b (zx 0))) (by decide) (by decide) (by decide)) (by decide) (by decide)) (Jy 8 (by rfl) (zt (yn (yA (zc (vg yo (zA (RfE.b (z7 ((ze zz)).one (zc eV zp) (k:=0) (by rfl))) zH)) (zc (vg yo (zA bV zH)) (zc (vg yo (zA (RfE.b (RfN.e (WJ yS (zA (vt (by rfl)) zH)))) zH)) zp))))) zD))))))))))
abbrev U0:List Str:=["_law_sheet_here", "_law_row"]
theorem Zf:FnScope U0 ["_law_sheet_here"] (defScope j0):=⟨rfl,rfl,rfl,by decide +kernel,rfl,by decide +kernel,by decide +kernel⟩
theorem abA(F:Fun K "_law_own" "_law_own" j0 f fd)(g_dict:mg "dict" = none):FnG P w K mg base (k+1) f fd ["_law_sheet_here"] (spP 1 jx):=by
 refine yc (Γ:=[.sh,.dd]) (Γ':=[.sh,.dd]) (Γk:=[.sh,.dd]) F Zf rfl (by decide) rfl (by decide) ?_
 intro A s0 H0 lo gl ce qu fu co fr bl outer stack ex pn hgu hr
 have nd:=Zf.nd
 refine⟨_,(pss_one (ps_ret (pe_callTy (Xa rfl) rfl g_dict boot_dict (pa_cons (pe_lc (own:=[("_law_row",1)]) (g:=(gName 1)) (tt:=tYes) (te:=(yP (tCons (tOp (v9 K) (tVar 1) (tC (.int 0))) (tCons (tOp (v9 K) (tVar 1) (tC (.int 1))) tNil)))) rfl nd (zS (pe_op vD (pe_ix yW (pv 0) (pe_int) (fun _ _=>rfl)) (pe_ix yW (pv 0) (pe_int) (fun _ _=>rfl)))) (blkOk_by (N:=U0) (sc:=defScope j0) (by decide +kernel)) (fun _ _ _ _ _=>(pg_name (i:=1) nd rfl (by trivial))) (fun _ _ _ _ _=>pts_nil) (fun _ _ _ _ _=>(zT (pa_cons (pe_ix yW (pv 1) (pe_int) (fun _ _=>rfl)) (pa_cons (pe_ix yW (pv 1) (pe_int) (fun _ _=>rfl)) pa_nil))))) pa_nil)))),?_⟩
 exact(zt (yn (vg Xb (zA (RfE.b (RfN.e (vO (Γ0:=[.sh,.dd]) (yi (zF vE (RfE.b (zF yj bV (RfE.b (zx 0)))) (RfE.b (zF yj bV (RfE.b (zx 1)))))) (zE (by decide) (by decide)) jf (yA (zc (zF yj bV (RfE.b (zx 0))) (zc (zF yj bV (RfE.b (zx 1))) zp))) (by decide) (by decide) (by decide)))) zH))) zD)
abbrev X8:List Str:=["_law_sheet_here", "_law_row"]
theorem WB:FnScope X8 ["_law_sheet_here"] (defScope wS):=⟨rfl,rfl,rfl,by decide +kernel,rfl,by decide +kernel,by decide +kernel⟩
theorem Go(F:Fun K "_law_names" "_law_names" wS f fd):FnG P w K mg base (k+1) f fd ["_law_sheet_here"] (spP 1 ye):=by
 refine yc (Γ:=[.sh,.dd]) (Γ':=[.sh,.dd]) (Γk:=[.sh,.dd]) F WB rfl (by decide) rfl (by decide) ?_
 intro A s0 H0 lo gl ce qu fu co fr bl outer stack ex pn hgu hr
 have nd:=WB.nd
 refine⟨_,(pss_one (ps_ret (pe_lc (own:=[("_law_row",1)]) (g:=(gName 1)) (tt:=tYes) (te:=(tOp (v9 K) (tVar 1) (tC (.int 0)))) rfl nd (zS (pe_ix yW (pv 0) (pe_int) (fun _ _=>rfl))) (blkOk_by (N:=X8) (sc:=defScope wS) (by decide +kernel)) (fun _ _ _ _ _=>(pg_name (i:=1) nd rfl (by trivial))) (fun _ _ _ _ _=>pts_nil) (fun _ _ _ _ _=>(pe_ix yW (pv 1) (pe_int) (fun _ _=>rfl)))))),?_⟩
 exact(zt (yn (RfN.e (vO (Γ0:=[.sh,.dd]) (yi (zF yj bV (RfE.b (zx 1)))) (zE (by decide) (by decide)) jf (zF yj bV (RfE.b (zx 0))) (by decide) (by decide) (by decide)))) zD)
abbrev X9:List Str:=["_law_sheet_here", "_law_row"]
theorem WC:FnScope X9 ["_law_sheet_here"] (defScope wT):=⟨rfl,rfl,rfl,by decide +kernel,rfl,by decide +kernel,by decide +kernel⟩
theorem Gp(F:Fun K "_law_reads" "_law_reads" wT f fd)(g_dict:mg "dict" = none):FnG P w K mg base (k+1) f fd ["_law_sheet_here"] (spP 1 wd):=by
 refine yc (Γ:=[.sh,.dd]) (Γ':=[.sh,.dd]) (Γk:=[.sh,.dd]) F WC rfl (by decide) rfl (by decide) ?_
 intro A s0 H0 lo gl ce qu fu co fr bl outer stack ex pn hgu hr
 have nd:=WC.nd
 refine⟨_,(pss_one (ps_ret (pe_callTy (Xa rfl) rfl g_dict boot_dict (pa_cons (pe_lc (own:=[("_law_row",1)]) (g:=(gName 1)) (tt:=tYes) (te:=(yP (tCons (tOp (v9 K) (tVar 1) (tC (.int 0))) (tCons (tOp (v9 K) (tVar 1) (tC (.int 2))) tNil)))) rfl nd (zS (pe_ix yW (pv 0) (pe_int) (fun _ _=>rfl))) (blkOk_by (N:=X9) (sc:=defScope wT) (by decide +kernel)) (fun _ _ _ _ _=>(pg_name (i:=1) nd rfl (by trivial))) (fun _ _ _ _ _=>pts_nil) (fun _ _ _ _ _=>(zT (pa_cons (pe_ix yW (pv 1) (pe_int) (fun _ _=>rfl)) (pa_cons (pe_ix yW (pv 1) (pe_int) (fun _ _=>rfl)) pa_nil))))) pa_nil)))),?_⟩
 exact(zt (yn (vg Xb (zA (RfE.b (RfN.e (vO (Γ0:=[.sh,.dd]) (yi (zF yj bV (RfE.b (zx 1)))) (zE (by decide) (by decide)) jf (yA (zc (zF yj bV (RfE.b (zx 0))) (zc (zF yj bV (RfE.b (zx 2))) zp))) (by decide) (by decide) (by decide)))) zH))) zD)
abbrev Vd:List Str:=["_law_sheet_here", "_law_row"]
theorem Qw:FnScope Vd ["_law_sheet_here"] (defScope vC):=⟨rfl,rfl,rfl,by decide +kernel,rfl,by decide +kernel,by decide +kernel⟩
theorem YC(F:Fun K "_law_all_axes" "_law_all_axes" vC f fd)(g_set:mg "set" = none)(g_sorted:mg "sorted" = none)(g_tuple:mg "tuple" = none)(c__law_flat:Cal P w K mg base k "_law_flat" ["_law_rows"] (spP 1 yl)):FnG P w K mg base (k+1) f fd ["_law_sheet_here"] (spP 1 yV):=by
 refine yc (Γ:=[.sh,.dd]) (Γ':=[.sh,.dd]) (Γk:=[.sh,.dd]) F Qw rfl (by decide) rfl (by decide) ?_
 intro A s0 H0 lo gl ce qu fu co fr bl outer stack ex pn hgu hr
 have nd:=Qw.nd
 have h100:A.units+100<cLine:=by have:=hr.un;omega
 refine⟨_,(pss_one (ps_ret (pe_callTy yQ rfl g_tuple boot_tuple (pa_cons (jX rfl h100 rfl g_sorted rfl g_set (zr c__law_flat (Nat.le_refl _) hgu hr rfl (pa_cons (pe_lc (own:=[("_law_row",1)]) (g:=(gName 1)) (tt:=tYes) (te:=(tOp (v9 K) (tVar 1) (tC (.int 1)))) rfl nd (zS (pe_ix yW (pv 0) (pe_int) (fun _ _=>rfl))) (blkOk_by (N:=Vd) (sc:=defScope vC) (by decide +kernel)) (fun _ _ _ _ _=>(pg_name (i:=1) nd rfl (by trivial))) (fun _ _ _ _ _=>pts_nil) (fun _ _ _ _ _=>(pe_ix yW (pv 1) (pe_int) (fun _ _=>rfl)))) pa_nil))) pa_nil)))),?_⟩
 exact(zt (yn (vg yo (zA (RfE.b (RfN.e (Jr (RfE.b (zN (ze zz) (zc (RfN.e (vO (Γ0:=[.sh,.dd]) (yi (zF yj bV (RfE.b (zx 0)))) (zE (by decide) (by decide)) jf (zF yj bV (RfE.b (zx 1))) (by decide) (by decide) (by decide))) zp)))))) zH))) zD)
abbrev Qc:List Str:=["_law_sheet_here", "_law_name", "_law_own_here", "_law_reads_here", "_law_axis", "_law_read"]
theorem VJ:FnScope Qc ["_law_sheet_here", "_law_name"] (defScope vM):=⟨rfl,rfl,rfl,by decide +kernel,rfl,by decide +kernel,by decide +kernel⟩
theorem U1(F:Fun K "_law_summed" "_law_summed" vM f fd)(g_set:mg "set" = none)(g_sorted:mg "sorted" = none)(g_tuple:mg "tuple" = none)(c__law_own:Cal P w K mg base k "_law_own" ["_law_sheet_here"] (spP 1 jx))(c__law_reads:Cal P w K mg base k "_law_reads" ["_law_sheet_here"] (spP 1 wd))(c__law_flat:Cal P w K mg base k "_law_flat" ["_law_rows"] (spP 1 yl)):FnG P w K mg base (k+1) f fd ["_law_sheet_here", "_law_name"] (spP 2 wj):=by
 refine yc (Γ:=[.sh,.sh,.dd,.dd,.dd,.dd]) (Γ':=[.sh,.sh,.dd,.dd,.dd,.dd]) (Γk:=[.sh,.sh,.dd,.dd,.dd,.dd]) F VJ rfl (by decide) rfl (by decide) ?_
 intro A s0 H0 lo gl ce qu fu co fr bl outer stack ex pn hgu hr
 have nd:=VJ.nd
 have h1:A.units+1<cLine:=by have:=hr.un;omega
 have h65:A.units+65<cLine:=by have:=hr.un;omega
 have h100:A.units+100<cLine:=by have:=hr.un;omega
 refine⟨_,(pss_cons (ps_asg (pe_tup (pa_cons (zr c__law_own (Nat.le_refl _) hgu hr rfl (pa_cons (pv 0) pa_nil)) (pa_cons (jH h1 (zr c__law_reads (Nat.le_refl _) hgu hr rfl (pa_cons (pv 0) pa_nil)) (pv 1) (fun _ _=>rfl)) pa_nil))) (pg_tup rfl (pgs_cons (pg_name (i:=2) nd rfl (by trivial)) (pgs_cons (pg_name (i:=3) nd rfl (by trivial)) pgs_nil)))) (pss_one (ps_ret (pe_callTy yQ rfl g_tuple boot_tuple (pa_cons (jX rfl h100 rfl g_sorted rfl g_set (pe_lc (own:=[("_law_axis",4)]) (g:=(gName 4)) (tt:=(tTest (tOp (jD K true) (tVar 4) (tOp W7 (tVar 2) (tVar 1))))) (te:=(tVar 4)) rfl nd (zS (zr c__law_flat (Nat.le_refl _) hgu hr rfl (pa_cons (pe_lc (own:=[("_law_read",5)]) (g:=(gName 5)) (tt:=tYes) (te:=(tOp W7 (tVar 2) (tVar 5))) rfl nd (zS (pv 3)) (blkOk_by (N:=Qc) (sc:=defScope vM) (by decide +kernel)) (fun _ _ _ _ _=>(pg_name (i:=5) nd rfl (by trivial))) (fun _ _ _ _ _=>pts_nil) (fun _ _ _ _ _=>(jH h1 (pv 2) (pv 5) (fun _ _=>rfl)))) pa_nil))) (blkOk_by (N:=Qc) (sc:=defScope vM) (by decide +kernel)) (fun _ _ _ _ _=>(pg_name (i:=4) nd rfl (by trivial))) (fun _ _ _ _ _=>(pts_one (pt_cmpR (vR h65) (pv 4) (jH h1 (pv 2) (pv 1) (fun _ _=>rfl)) (by rfl)))) (fun _ _ _ _ _=>(pv 4)))) pa_nil))))),?_⟩
 exact(zt (QF (RfE.k (zN (ze zz) (zc eV zp))) (RfE.k (zF wz (RfE.b (zN (ze zz) (zc eV zp))) bV)) (by decide) (by decide) (by decide) (by decide)) (zt (yn (vg yo (zA (RfE.b (RfN.e (Jr (RfE.b (RfN.e (vO (Γ0:=[.sh,.sh,.sh,.sh,.dd,.dd]) (yi (zN (ze zz) (zc (RfN.e (vO (Γ0:=[.sh,.sh,.sh,.sh,.dd,.dd]) (yi eV) (zE (by decide) (by decide)) jf (zF wz bV bV) (by decide) (by decide) (by decide))) zp))) (zE (by decide) (by decide)) (zR (RfE.b (zF (yR (neg:=true)) bV (RfE.b (zF wz bV bV))))) eV (by decide) (by decide) (by decide))))))) zH))) zD))
abbrev Ya:List Str:=["_law_sheet_here", "_law_sums", "_law_found", "_law_name", "_law_axes", "_law_reads_here", "_law_read"]
theorem WD:FnScope Ya ["_law_sheet_here"] (defScope wU):=⟨rfl,rfl,rfl,by decide +kernel,rfl,by decide +kernel,by decide +kernel⟩
theorem Gq(F:Fun K "_law_pairs" "_law_pairs" wU f fd)(g_sorted:mg "sorted" = none)(c__law_names:Cal P w K mg base k "_law_names" ["_law_sheet_here"] (spP 1 ye)):FnG P w K mg base (k+1) f fd ["_law_sheet_here"] (spP 1 vI):=by
 refine yc (Γ:=[.sh,.dd,.dd,.dd,.dd,.dd,.dd]) (Γ':=[.sh,.dd,.dd,.dd,.dd,.dd,.dd]) (Γk:=[.sh,.dd,.dd,.dd,.dd,.dd,.dd]) F WD rfl (by decide) rfl (by decide) ?_
 intro A s0 H0 lo gl ce qu fu co fr bl outer stack ex pn hgu hr
 have nd:=WD.nd
 have h65:A.units+65<cLine:=by have:=hr.un;omega
 have h100:A.units+100<cLine:=by have:=hr.un;omega
 refine⟨_,(pss_cons (ps_asg (pe_tup (pa_cons (zr c__law_names (Nat.le_refl _) hgu hr rfl (pa_cons (pv 0) pa_nil)) (pa_cons (pe_lst pa_nil) pa_nil))) (pg_tup rfl (pgs_cons (pg_name (i:=1) nd rfl (by trivial)) (pgs_cons (pg_name (i:=2) nd rfl (by trivial)) pgs_nil)))) (pss_cons (ps_for PassesOwn.never rfl (zS (pe_ix yW (pv 0) (pe_int) (fun _ _=>rfl))) (pg_tup rfl (pgs_cons (pg_name (i:=3) nd rfl (by trivial)) (pgs_cons (pg_name (i:=4) nd rfl (by trivial)) (pgs_cons (pg_name (i:=5) nd rfl (by trivial)) pgs_nil)))) (pss_cons (ps_expr (pe_bm PySem.F.plainAttrs_list PySem.F.slot_list_extend PySem.F.type_list_extend acE (pv 2) (pa_cons (pe_lc (own:=[("_law_read",6)]) (g:=(gName 6)) (tt:=(tTest (tOp (jD K false) (tVar 6) (tVar 1)))) (te:=(yP (tCons (tVar 6) (tCons (tVar 3) tNil)))) rfl nd (zS (pv 5)) (blkOk_by (N:=Ya) (sc:=defScope wU) (by decide +kernel)) (fun _ _ _ _ _=>(pg_name (i:=6) nd rfl (by trivial))) (fun _ _ _ _ _=>(pts_one (pt_cmpR (wn h65) (pv 6) (pv 1) (by rfl)))) (fun _ _ _ _ _=>(zT (pa_cons (pv 6) (pa_cons (pv 3) pa_nil))))) pa_nil))) pss_nil)) (pss_one (ps_ret (pe_callB (vF h100) rfl g_sorted boot_sorted (pa_cons (pv 2) pa_nil)))))),?_⟩
 exact(zt (QF (RfE.k (zN (ze zz) (zc eV zp))) (RfN.k (yC zp)) (by decide) (by decide) (by decide) (by decide)) (zt (je [4,3,6,5] (Γb:=[.sh,.sh,.ow,.sh,.sh,.sh,.dd]) (Γk':=[.sh,.sh,.ow,.sh,.sh,.sh,.dd]) (yi (zF yj bV (RfE.b (zx 1)))) (ZM (vQ (zE (by decide) (by decide)) (vQ (zE (by decide) (by decide)) (vQ (zE (by decide) (by decide)) YE)))) (zt (aaz (i:=2) (by rfl) (RfE.b (RfN.e (vO (Γ0:=[.sh,.sh,.ow,.sh,.sh,.sh,.dd]) (yi eV) (zE (by decide) (by decide)) (zR (RfE.b (zF (yR (neg:=false)) bV bV))) (yA (zc eV (zc eV zp))) (by decide) (by decide) (by decide))))) zD) (by decide) (by decide) (by decide)) (zt (yn (RfN.e (WJ yS (zA (vt (by rfl)) zH)))) zD)))
abbrev VL:List Str:=["_law_sheet_here", "_law_name", "_law_row"]
theorem Ve:FnScope VL ["_law_sheet_here", "_law_name"] (defScope vU):=⟨rfl,rfl,rfl,by decide +kernel,rfl,by decide +kernel,by decide +kernel⟩
theorem Zu(F:Fun K "_law_readers" "_law_readers" vU f fd)(g_sorted:mg "sorted" = none):FnG P w K mg base (k+1) f fd ["_law_sheet_here", "_law_name"] (spP 2 yG):=by
 refine yc (Γ:=[.sh,.sh,.dd]) (Γ':=[.sh,.sh,.dd]) (Γk:=[.sh,.sh,.dd]) F Ve rfl (by decide) rfl (by decide) ?_
 intro A s0 H0 lo gl ce qu fu co fr bl outer stack ex pn hgu hr
 have nd:=Ve.nd
 have h65:A.units+65<cLine:=by have:=hr.un;omega
 have h100:A.units+100<cLine:=by have:=hr.un;omega
 refine⟨_,(pss_one (ps_ret (pe_callB (vF h100) rfl g_sorted boot_sorted (pa_cons (pe_lc (own:=[("_law_row",2)]) (g:=(gName 2)) (tt:=(tTest (tOp (jD K false) (tVar 1) (tOp (v9 K) (tVar 2) (tC (.int 2)))))) (te:=(tOp (v9 K) (tVar 2) (tC (.int 0)))) rfl nd (zS (pe_ix yW (pv 0) (pe_int) (fun _ _=>rfl))) (blkOk_by (N:=VL) (sc:=defScope vU) (by decide +kernel)) (fun _ _ _ _ _=>(pg_name (i:=2) nd rfl (by trivial))) (fun _ _ _ _ _=>(pts_one (pt_cmpR (wn h65) (pv 1) (pe_ix yW (pv 2) (pe_int) (fun _ _=>rfl)) (by rfl)))) (fun _ _ _ _ _=>(pe_ix yW (pv 2) (pe_int) (fun _ _=>rfl)))) pa_nil)))),?_⟩
 exact(zt (yn (RfN.e (WJ yS (zA (RfE.b (RfN.e (vO (Γ0:=[.sh,.sh,.dd]) (yi (zF yj bV (RfE.b (zx 1)))) (zE (by decide) (by decide)) (zR (RfE.b (zF (yR (neg:=false)) bV (RfE.b (zF yj bV (RfE.b (zx 2))))))) (zF yj bV (RfE.b (zx 0))) (by decide) (by decide) (by decide)))) zH)))) zD)
abbrev Yb:List Str:=["_law_sheet_here", "_law_name", "_law_one_here", "_law_found", "_law_reads_here", "_law_read"]
theorem WE:FnScope Yb ["_law_sheet_here", "_law_name"] (defScope wV):=⟨rfl,rfl,rfl,by decide +kernel,rfl,by decide +kernel,by decide +kernel⟩
theorem Gr(F:Fun K "_law_below" "_law_below" wV f fd)(c__law_reads:Cal P w K mg base k "_law_reads" ["_law_sheet_here"] (spP 1 wd))(c__law_names:Cal P w K mg base k "_law_names" ["_law_sheet_here"] (spP 1 ye)):FnG P w K mg base (k+1) f fd ["_law_sheet_here", "_law_name"] (spP 2 yK):=by
 refine yc (Γ:=[.sh,.sh,.dd,.dd,.dd,.dd]) (Γ':=[.sh,.sh,.dd,.dd,.dd,.dd]) (Γk:=[.sh,.sh,.dd,.dd,.dd,.dd]) F WE rfl (by decide) rfl (by decide) ?_
 intro A s0 H0 lo gl ce qu fu co fr bl outer stack ex pn hgu hr
 have nd:=WE.nd
 have h1:A.units+1<cLine:=by have:=hr.un;omega
 have h64:A.units+64<cLine:=by have:=hr.un;omega
 have h65:A.units+65<cLine:=by have:=hr.un;omega
 refine⟨_,(pss_cons (ps_asg (pe_tup (pa_cons (pe_lst pa_nil) (pa_cons (zr c__law_reads (Nat.le_refl _) hgu hr rfl (pa_cons (pv 0) pa_nil)) pa_nil))) (pg_tup rfl (pgs_cons (pg_name (i:=3) nd rfl (by trivial)) (pgs_cons (pg_name (i:=4) nd rfl (by trivial)) pgs_nil)))) (pss_cons (ps_for PassesOwn.never rfl (zS (zr c__law_names (Nat.le_refl _) hgu hr rfl (pa_cons (pv 0) pa_nil))) (pg_name (i:=2) nd rfl (by trivial)) (pss_cons (ps_if (pt_cmpR (op_neD h64) (pe_lc (own:=[("_law_read",5)]) (g:=(gName 5)) (tt:=(tOr (tTest (tOp (rEqD K) (tVar 5) (tVar 1))) (tTest (tOp (jD K false) (tVar 5) (tVar 3))))) (te:=(tVar 5)) rfl nd (zS (jH h1 (pv 4) (pv 2) (fun _ _=>rfl))) (blkOk_by (N:=Yb) (sc:=defScope wV) (by decide +kernel)) (fun _ _ _ _ _=>(pg_name (i:=5) nd rfl (by trivial))) (fun _ _ _ _ _=>(pts_one (PW.pt (pw_or (pt_cmpR (op_eqD h64) (pv 5) (pv 1) (by rfl)) (pw_or1 (pt_cmpR (wn h65) (pv 5) (pv 3) (by rfl))))))) (fun _ _ _ _ _=>(pv 5))) (pe_lst pa_nil) (by rfl)) (pss_cons (ps_expr (pe_bm PySem.F.plainAttrs_list PySem.F.slot_list_append PySem.F.type_list_append mt_append (pv 3) (pa_cons (pv 2) pa_nil))) pss_nil) pss_nil) pss_nil)) (pss_one (ps_ret (pv 3))))),?_⟩
 exact(zt (QF (RfN.k (yC zp)) (RfE.k (zN (ze zz) (zc eV zp))) (by decide) (by decide) (by decide) (by decide)) (zt (je [2,5] (Γb:=[.sh,.sh,.sh,.ow,.sh,.dd]) (Γk':=[.sh,.sh,.sh,.ow,.sh,.dd]) (yi (zN (ze zz) (zc eV zp))) (zE (by decide) (by decide)) (zt (JP (zR (RfE.b (zF (jV) (RfE.b (RfN.e (vO (Γ0:=[.sh,.sh,.sh,.ow,.sh,.dd]) (yi (zF wz bV bV)) (zE (by decide) (by decide)) (Vh (zR (RfE.b (zF (jr) bV bV))) (zR (RfE.b (zF (yR (neg:=false)) bV (vt (by rfl)))))) eV (by decide) (by decide) (by decide)))) (RfE.b (RfN.e (yC zp)))))) (zt (Jz (i:=3) (by rfl) eV) zD) zD) zD) (by decide) (by decide) (by decide)) (Jy 3 (by rfl) (zt (yn eV) zD))))
abbrev j8:List Str:=["_law_sheet_here", "_law_lot", "_law_name", "_law_down", "_law_found", "_law_above", "_law_behind", "_law_one_here"]
theorem VM:FnScope j8 ["_law_sheet_here", "_law_lot"] (defScope vm):=⟨rfl,rfl,rfl,by decide +kernel,rfl,by decide +kernel,by decide +kernel⟩
theorem U2(F:Fun K "_law_closed" "_law_closed" vm f fd)(g_dict:mg "dict" = none)(g_sorted:mg "sorted" = none)(g_tuple:mg "tuple" = none)(c__law_names:Cal P w K mg base k "_law_names" ["_law_sheet_here"] (spP 1 ye))(c__law_below:Cal P w K mg base k "_law_below" ["_law_sheet_here", "_law_name"] (spP 2 yK)):FnG P w K mg base (k+1) f fd ["_law_sheet_here", "_law_lot"] (spP 2 z6):=by
 refine yc (Γ:=[.sh,.sh,.dd,.dd,.dd,.dd,.dd,.dd]) (Γ':=[.sh,.sh,.dd,.dd,.dd,.dd,.dd,.dd]) (Γk:=[.sh,.sh,.dd,.dd,.dd,.dd,.dd,.dd]) F VM rfl (by decide) rfl (by decide) ?_
 intro A s0 H0 lo gl ce qu fu co fr bl outer stack ex pn hgu hr
 have nd:=VM.nd
 have h1:A.units+1<cLine:=by have:=hr.un;omega
 have h64:A.units+64<cLine:=by have:=hr.un;omega
 have h65:A.units+65<cLine:=by have:=hr.un;omega
 have h100:A.units+100<cLine:=by have:=hr.un;omega
 refine⟨_,(pss_cons (ps_asg (pe_tup (pa_cons (pe_callTy (Xa rfl) rfl g_dict boot_dict (pa_cons (pe_lc (own:=[("_law_name",2)]) (g:=(gName 2)) (tt:=tYes) (te:=(yP (tCons (tVar 2) (tCons (tCall (spP 2 yK) [] (fun _ _ _=>False) (tCons (tVar 0) (tCons (tVar 2) tNil))) tNil)))) rfl nd (zS (zr c__law_names (Nat.le_refl _) hgu hr rfl (pa_cons (pv 0) pa_nil))) (blkOk_by (N:=j8) (sc:=defScope vm) (by decide +kernel)) (fun _ _ _ _ _=>(pg_name (i:=2) nd rfl (by trivial))) (fun _ _ _ _ _=>pts_nil) (fun _ _ _ _ _=>(zT (pa_cons (pv 2) (pa_cons (zr c__law_below (Nat.le_refl _) hgu hr rfl (pa_cons (pv 0) (pa_cons (pv 2) pa_nil))) pa_nil))))) pa_nil)) (pa_cons (pe_lst pa_nil) pa_nil))) (pg_tup rfl (pgs_cons (pg_name (i:=3) nd rfl (by trivial)) (pgs_cons (pg_name (i:=4) nd rfl (by trivial)) pgs_nil)))) (pss_cons (ps_for PassesOwn.never rfl (zS (zr c__law_names (Nat.le_refl _) hgu hr rfl (pa_cons (pv 0) pa_nil))) (pg_name (i:=2) nd rfl (by trivial)) (pss_cons (ps_setLc (i:=5) (own:=[("_law_one_here",7)]) (g:=(gName 7)) (tt:=(tTest (tOp (jD K false) (tVar 2) (tOp W7 (tVar 3) (tVar 7))))) (te:=(tVar 7)) rfl nd rfl rfl (sw_true rfl rfl rfl (by decide +kernel)) (zS (pv 1)) (blkOk_by (N:=j8) (sc:=defScope vm) (by decide +kernel)) (fun _ _ _ _ _=>(pg_name (i:=7) nd rfl (by trivial))) (fun _ _ _ _ _=>(pts_one (pt_cmpR (wn h65) (pv 2) (jH h1 (pv 3) (pv 7) (fun _ _=>rfl)) (by rfl)))) (fun _ _ _ _ _=>(pv 7))) (pss_cons (ps_setLc (i:=6) (own:=[("_law_one_here",7)]) (g:=(gName 7)) (tt:=(tTest (tOp (jD K false) (tVar 7) (tOp W7 (tVar 3) (tVar 2))))) (te:=(tVar 7)) rfl nd rfl rfl (sw_true rfl rfl rfl (by decide +kernel)) (zS (pv 1)) (blkOk_by (N:=j8) (sc:=defScope vm) (by decide +kernel)) (fun _ _ _ _ _=>(pg_name (i:=7) nd rfl (by trivial))) (fun _ _ _ _ _=>(pts_one (pt_cmpR (wn h65) (pv 7) (jH h1 (pv 3) (pv 2) (fun _ _=>rfl)) (by rfl)))) (fun _ _ _ _ _=>(pv 7))) (pss_cons (ps_if (PW.pt (pw_or (pt_cmpR (wn h65) (pv 2) (pv 1) (by rfl)) (pw_or1 (PW.pt (pw_and (pt_cmpR (op_neD h64) (pv 5) (pe_lst pa_nil) (by rfl)) (pw_and1 (pt_cmpR (op_neD h64) (pv 6) (pe_lst pa_nil) (by rfl)))))))) (pss_cons (ps_expr (pe_bm PySem.F.plainAttrs_list PySem.F.slot_list_append PySem.F.type_list_append mt_append (pv 4) (pa_cons (pv 2) pa_nil))) pss_nil) pss_nil) pss_nil)))) (pss_one (ps_ret (pe_callTy yQ rfl g_tuple boot_tuple (pa_cons (pe_callB (vF h100) rfl g_sorted boot_sorted (pa_cons (pv 4) pa_nil)) pa_nil)))))),?_⟩
 exact(zt (QF (RfE.k (vg Xb (zA (RfE.b (RfN.e (vO (Γ0:=[.sh,.sh,.dd,.dd,.dd,.dd,.dd,.dd]) (yi (zN (ze zz) (zc eV zp))) (zE (by decide) (by decide)) jf (yA (zc eV (zc (zN (ze (ze zz)) (zc eV (zc eV zp))) zp))) (by decide) (by decide) (by decide)))) zH))) (RfN.k (yC zp)) (by decide) (by decide) (by decide) (by decide)) (zt (je [5,6,2,7] (Γb:=[.sh,.sh,.sh,.sh,.ow,.ow,.ow,.dd]) (Γk':=[.sh,.sh,.sh,.sh,.ow,.dd,.dd,.dd]) (yi (zN (ze zz) (zc eV zp))) (zE (by decide) (by decide)) (zt (wm (vO (Γ0:=[.sh,.sh,.sh,.sh,.ow,.dd,.dd,.dd]) (yi eV) (zE (by decide) (by decide)) (zR (RfE.b (zF (yR (neg:=false)) bV (RfE.b (zF wz bV bV))))) eV (by decide) (by decide) (by decide)) (by decide) (by decide)) (zt (wm (vO (Γ0:=[.sh,.sh,.sh,.sh,.ow,.ow,.dd,.dd]) (yi eV) (zE (by decide) (by decide)) (zR (RfE.b (zF (yR (neg:=false)) bV (RfE.b (zF wz bV bV))))) eV (by decide) (by decide) (by decide)) (by decide) (by decide)) (zt (JP (Vh (zR (RfE.b (zF (yR (neg:=false)) bV bV))) (Wa (zR (RfE.b (zF (jV) (vt (by rfl)) (RfE.b (RfN.e (yC zp)))))) (zR (RfE.b (zF (jV) (vt (by rfl)) (RfE.b (RfN.e (yC zp)))))))) (zt (Jz (i:=4) (by rfl) eV) zD) zD) zD))) (by decide) (by decide) (by decide)) (zt (yn (vg yo (zA (RfE.b (RfN.e (WJ yS (zA (vt (by rfl)) zH)))) zH))) zD)))
abbrev Gs:List Str:=["_law_sheet_here", "_law_name"]
theorem U3:FnScope Gs ["_law_sheet_here", "_law_name"] (defScope ji):=⟨rfl,rfl,rfl,by decide +kernel,rfl,by decide +kernel,by decide +kernel⟩
theorem U4(F:Fun K "_law_lot_of" "_law_lot_of" ji f fd)(c__law_closed:Cal P w K mg base k "_law_closed" ["_law_sheet_here", "_law_lot"] (spP 2 z6))(c__law_readers:Cal P w K mg base k "_law_readers" ["_law_sheet_here", "_law_name"] (spP 2 yG)):FnG P w K mg base (k+1) f fd ["_law_sheet_here", "_law_name"] (spP 2 yH):=by
 refine yc (Γ:=[.sh,.sh]) (Γ':=[.sh,.sh]) (Γk:=[.sh,.sh]) F U3 rfl (by decide) rfl (by decide) ?_
 intro A s0 H0 lo gl ce qu fu co fr bl outer stack ex pn hgu hr
 refine⟨_,(pss_one (ps_ret (zr c__law_closed (Nat.le_refl _) hgu hr rfl (pa_cons (pv 0) (pa_cons (pe_op vD (pe_lst (pa_cons (pv 1) pa_nil)) (zr c__law_readers (Nat.le_refl _) hgu hr rfl (pa_cons (pv 0) (pa_cons (pv 1) pa_nil)))) pa_nil))))),?_⟩
 exact(zt (yn (zN (ze (ze zz)) (zc eV (zc (zF vE (RfE.b (RfN.e (yC (zc eV zp)))) (RfE.b (zN (ze (ze zz)) (zc eV (zc eV zp))))) zp)))) zD)
abbrev Yc:List Str:=["_law_sheet_here", "_law_lot", "_law_axis", "_law_may", "_law_name", "_law_found", "_law_own_here", "_law_summed_here", "_law_is_read", "_law_reader"]
theorem WG:FnScope Yc ["_law_sheet_here", "_law_lot", "_law_axis", "_law_may"] (defScope wW):=⟨rfl,rfl,rfl,by decide +kernel,rfl,by decide +kernel,by decide +kernel⟩
theorem Gt(F:Fun K "_law_stops" "_law_stops" wW f fd)(g_sorted:mg "sorted" = none)(g_tuple:mg "tuple" = none)(c__law_own:Cal P w K mg base k "_law_own" ["_law_sheet_here"] (spP 1 jx))(c__law_summed:Cal P w K mg base k "_law_summed" ["_law_sheet_here", "_law_name"] (spP 2 wj))(c__law_readers:Cal P w K mg base k "_law_readers" ["_law_sheet_here", "_law_name"] (spP 2 yG)):FnG P w K mg base (k+1) f fd ["_law_sheet_here", "_law_lot", "_law_axis", "_law_may"] (spP 4 vJ):=by
 refine yc (Γ:=[.sh,.sh,.sh,.sh,.dd,.dd,.dd,.dd,.dd,.dd]) (Γ':=[.sh,.sh,.sh,.sh,.dd,.dd,.dd,.dd,.dd,.dd]) (Γk:=[.sh,.sh,.sh,.sh,.dd,.dd,.dd,.dd,.dd,.dd]) F WG rfl (by decide) rfl (by decide) ?_
 intro A s0 H0 lo gl ce qu fu co fr bl outer stack ex pn hgu hr
 have nd:=WG.nd
 have h1:A.units+1<cLine:=by have:=hr.un;omega
 have h64:A.units+64<cLine:=by have:=hr.un;omega
 have h65:A.units+65<cLine:=by have:=hr.un;omega
 have h100:A.units+100<cLine:=by have:=hr.un;omega
 refine⟨_,(pss_cons (ps_par (i:=5) (j:=6) rfl nd rfl rfl (by decide) rfl rfl (pa_cons (pe_lst pa_nil) (pa_cons (zr c__law_own (Nat.le_refl _) hgu hr rfl (pa_cons (pv 0) pa_nil)) pa_nil)) (by rfl)) (pss_cons (ps_for PassesOwn.never rfl (zS (pv 1)) (pg_name (i:=4) nd rfl (by trivial)) (pss_cons (ps_set (i:=7) nd rfl (by trivial) (zr c__law_summed (Nat.le_refl _) hgu hr rfl (pa_cons (pv 0) (pa_cons (pv 4) pa_nil)))) (pss_cons (ps_set (i:=8) nd rfl (by trivial) (pe_cmpR (op_neD h64) (pe_lc (own:=[("_law_reader",9)]) (g:=(gName 9)) (tt:=(tTest (tOp (jD K false) (tVar 9) (tVar 1)))) (te:=(tVar 9)) rfl nd (zS (zr c__law_readers (Nat.le_refl _) hgu hr rfl (pa_cons (pv 0) (pa_cons (pv 4) pa_nil)))) (blkOk_by (N:=Yc) (sc:=defScope wW) (by decide +kernel)) (fun _ _ _ _ _=>(pg_name (i:=9) nd rfl (by trivial))) (fun _ _ _ _ _=>(pts_one (pt_cmpR (wn h65) (pv 9) (pv 1) (by rfl)))) (fun _ _ _ _ _=>(pv 9))) (pe_lst pa_nil) (by rfl))) (pss_cons (ps_if (PW.pt (pw_or (PW.pt (pw_and (pt_cmpR (wn h65) (pv 2) (pv 7) (by rfl)) (pw_and1 (pt_val (pv 8))))) (pw_or1 (PW.pt (pw_and (pt_not (pt_val (pv 3))) (pw_and (pt_cmpR (vR h65) (pv 2) (jH h1 (pv 6) (pv 4) (fun _ _=>rfl)) (by rfl)) (pw_and1 (pt_cmpR (vR h65) (pv 2) (pv 7) (by rfl))))))))) (pss_cons (ps_expr (pe_bm PySem.F.plainAttrs_list PySem.F.slot_list_append PySem.F.type_list_append mt_append (pv 5) (pa_cons (pv 4) pa_nil))) pss_nil) pss_nil) pss_nil)))) (pss_one (ps_ret (pe_callTy yQ rfl g_tuple boot_tuple (pa_cons (pe_callB (vF h100) rfl g_sorted boot_sorted (pa_cons (pv 5) pa_nil)) pa_nil)))))),?_⟩
 exact(zt (abQ (RfN.k (yC zp)) (RfE.k (zN (ze zz) (zc eV zp))) (by decide) (by decide) (by decide) (by decide)) (zt (je [8,4,9,7] (Γb:=[.sh,.sh,.sh,.sh,.sh,.ow,.sh,.sh,.sh,.dd]) (Γk':=[.sh,.sh,.sh,.sh,.sh,.ow,.sh,.dd,.dd,.dd]) (yi eV) (zE (by decide) (by decide)) (zt (vW (zN (ze (ze zz)) (zc eV (zc eV zp))) (by decide) (by decide)) (zt (vW ((zF (jV) (RfE.b (RfN.e (vO (Γ0:=[.sh,.sh,.sh,.sh,.sh,.ow,.sh,.sh,.dd,.dd]) (yi (zN (ze (ze zz)) (zc eV (zc eV zp)))) (zE (by decide) (by decide)) (zR (RfE.b (zF (yR (neg:=false)) bV bV))) eV (by decide) (by decide) (by decide)))) (RfE.b (RfN.e (yC zp))))) (by decide) (by decide)) (zt (JP (Vh (Wa (zR (RfE.b (zF (yR (neg:=false)) bV bV))) (t_B bV)) (Wa (Qg (t_B bV)) (Wa (zR (RfE.b (zF (yR (neg:=true)) bV (RfE.b (zF wz bV bV))))) (zR (RfE.b (zF (yR (neg:=true)) bV bV)))))) (zt (Jz (i:=5) (by rfl) eV) zD) zD) zD))) (by decide) (by decide) (by decide)) (zt (yn (vg yo (zA (RfE.b (RfN.e (WJ yS (zA (vt (by rfl)) zH)))) zH))) zD)))
abbrev Yd:List Str:=["_law_sheet_here", "_law_one_here", "_law_other", "_law_name", "_law_late"]
theorem WH:FnScope Yd ["_law_sheet_here", "_law_one_here", "_law_other"] (defScope wX):=⟨rfl,rfl,rfl,by decide +kernel,rfl,by decide +kernel,by decide +kernel⟩
theorem Gu(F:Fun K "_law_leads" "_law_leads" wX f fd)(c__law_below:Cal P w K mg base k "_law_below" ["_law_sheet_here", "_law_name"] (spP 2 yK)):FnG P w K mg base (k+1) f fd ["_law_sheet_here", "_law_one_here", "_law_other"] (spP 3 yL):=by
 refine yc (Γ:=[.sh,.sh,.sh,.dd,.dd]) (Γ':=[.sh,.sh,.sh,.dd,.dd]) (Γk:=[.sh,.sh,.sh,.dd,.dd]) F WH rfl (by decide) rfl (by decide) ?_
 intro A s0 H0 lo gl ce qu fu co fr bl outer stack ex pn hgu hr
 have nd:=WH.nd
 have h64:A.units+64<cLine:=by have:=hr.un;omega
 have h65:A.units+65<cLine:=by have:=hr.un;omega
 refine⟨_,(pss_one (ps_ret (pe_cmpR (op_neD h64) (pe_lc (own:=[("_law_name",3)]) (g:=(gName 3)) (tt:=(tTest (tOp (rNeD K) (tLc (Zi K (tCall (spP 2 yK) [] (fun _ _ _=>False) (tCons (tVar 0) (tCons (tVar 3) tNil)))) (gName 4) (tTest (tOp (jD K false) (tVar 4) (tVar 2))) (tVar 4) [4]) (tLst tNil)))) (te:=(tVar 3)) rfl nd (zS (pv 1)) (blkOk_by (N:=Yd) (sc:=defScope wX) (by decide +kernel)) (fun _ _ _ _ _=>(pg_name (i:=3) nd rfl (by trivial))) (fun _ _ _ _ _=>(pts_one (pt_cmpR (op_neD h64) (pe_lc (own:=[("_law_late",4)]) (g:=(gName 4)) (tt:=(tTest (tOp (jD K false) (tVar 4) (tVar 2)))) (te:=(tVar 4)) rfl nd (zS (zr c__law_below (Nat.le_refl _) hgu hr rfl (pa_cons (pv 0) (pa_cons (pv 3) pa_nil)))) (blkOk_by (by rfl)) (fun _ _ _ _ _=>(pg_name (i:=4) nd rfl (by trivial))) (fun _ _ _ _ _=>(pts_one (pt_cmpR (wn h65) (pv 4) (pv 2) (by rfl)))) (fun _ _ _ _ _=>(pv 4))) (pe_lst pa_nil) (by rfl)))) (fun _ _ _ _ _=>(pv 3))) (pe_lst pa_nil) (by rfl)))),?_⟩
 exact(zt (yn ((zF (jV) (RfE.b (RfN.e (vO (Γ0:=[.sh,.sh,.sh,.dd,.dd]) (yi eV) (zE (by decide) (by decide)) (zR (RfE.b (zF (jV) (RfE.b (RfN.e (vO (Γ0:=[.sh,.sh,.sh,.sh,.dd]) (yi (zN (ze (ze zz)) (zc eV (zc eV zp)))) (zE (by decide) (by decide)) (zR (RfE.b (zF (yR (neg:=false)) bV bV))) eV (by decide) (by decide) (by decide)))) (RfE.b (RfN.e (yC zp)))))) eV (by decide) (by decide) (by decide)))) (RfE.b (RfN.e (yC zp)))))) zD)
abbrev Jh:List Str:=["_law_bag_here", "_law_inputs", "_law_sums", "_law_reads_here", "_law_rich", "_law_axes", "_law_axis", "_law_row"]
theorem Qy:FnScope Jh ["_law_bag_here", "_law_inputs", "_law_sums", "_law_reads_here", "_law_rich"] (defScope vb):=⟨rfl,rfl,rfl,by decide +kernel,rfl,by decide +kernel,by decide +kernel⟩
theorem YD(F:Fun K "_law_rich_own" "_law_rich_own" vb f fd)(g_set:mg "set" = none)(g_sorted:mg "sorted" = none)(g_tuple:mg "tuple" = none)(c__law_flat:Cal P w K mg base k "_law_flat" ["_law_rows"] (spP 1 yl))(c__law_take:Cal P w K mg base k "_law_take" ["_law_bag_here", "_law_many"] (spB 2 zm)):FnG P w K mg base (k+1) f fd ["_law_bag_here", "_law_inputs", "_law_sums", "_law_reads_here", "_law_rich"] (spB 5 vc):=by
 refine jI (Γ:=[.bg,.sh,.sh,.sh,.sh,.dd,.dd,.dd]) (Γ':=[.bg,.sh,.sh,.sh,.sh,.dd,.dd,.dd]) (Γk:=[.bg,.sh,.sh,.sh,.sh,.dd,.dd,.dd]) F Qy rfl (by decide) (by decide) rfl ?_
 intro A s0 H0 lo gl ce qu fu co fr bl outer stack ex pn hgu hr
 have nd:=Qy.nd
 have h65:A.units+65<cLine:=by have:=hr.un;omega
 have h100:A.units+100<cLine:=by have:=hr.un;omega
 refine⟨_,(pss_cons (ps_set (i:=5) nd rfl (by trivial) (jX rfl h100 rfl g_sorted rfl g_set (zr c__law_flat (Nat.le_refl _) hgu hr rfl (pa_cons (pe_lc (own:=[("_law_row",7)]) (g:=(gName 7)) (tt:=(tTest (tOp (jD K false) (tOp (v9 K) (tVar 7) (tC (.int 0))) (tVar 3)))) (te:=(tOp (v9 K) (tVar 7) (tC (.int 1)))) rfl nd (zS (pe_op vD (pv 1) (pv 2))) (blkOk_by (N:=Jh) (sc:=defScope vb) (by decide +kernel)) (fun _ _ _ _ _=>(pg_name (i:=7) nd rfl (by trivial))) (fun _ _ _ _ _=>(pts_one (pt_cmpR (wn h65) (pe_ix yW (pv 7) (pe_int) (fun _ _=>rfl)) (pv 3) (by rfl)))) (fun _ _ _ _ _=>(pe_ix yW (pv 7) (pe_int) (fun _ _=>rfl)))) pa_nil)))) (pss_one (ps_ret (pe_callTy yQ rfl g_tuple boot_tuple (pa_cons (pe_lc (own:=[("_law_axis",6)]) (g:=(gName 6)) (tt:=(tTest (tOp (rI0 fun i j=>.bl (decide (j<i))) (tCall (spB 2 zm) [] (fun _ _ _=>False) (tCons (tVar 0) (tCons (tVar 4) tNil))) (tC (.int 0))))) (te:=(tVar 6)) rfl nd (zS (pv 5)) (blkOk_by (N:=Jh) (sc:=defScope vb) (by decide +kernel)) (fun _ _ _ _ _=>(pg_name (i:=6) nd rfl (by trivial))) (fun _ _ _ _ _=>(pts_one (pt_cmpR op_gt (zr c__law_take (Nat.le_refl _) hgu hr rfl (pa_cons (pv 0) (pa_cons (pv 4) pa_nil))) (pe_int) (by rfl)))) (fun _ _ _ _ _=>(pv 6))) pa_nil))))),?_⟩
 exact(zt (wm (Jr (RfE.b (zN (ze zz) (zc (RfN.e (vO (Γ0:=[.bg,.sh,.sh,.sh,.sh,.dd,.dd,.dd]) (yi (zF vE bV bV)) (zE (by decide) (by decide)) (zR (RfE.b (zF (yR (neg:=false)) (RfE.b (zF yj bV (RfE.b (zx 0)))) bV))) (zF yj bV (RfE.b (zx 1))) (by decide) (by decide) (by decide))) zp)))) (by decide) (by decide)) (Jy 5 (by rfl) (zt (yn (vg yo (zA (RfE.b (RfN.e (vO (Γ0:=[.bg,.sh,.sh,.sh,.sh,.sh,.dd,.dd]) (yi eV) (zE (by decide) (by decide)) (zR (RfE.b (zF (Vm) (RfE.b (z7 ((ze zz)).one (zc eV zp) (k:=0) (by rfl))) (RfE.b (zx 0))))) eV (by decide) (by decide) (by decide)))) zH))) zD)))
abbrev QT:List Str:=["_law_bag_here", "_law_web_here", "_law_wide", "_law_rich", "_law_axes", "_law_names_here", "_law_k", "_law_row", "_law_read", "_law_outputs", "_law_inputs", "_law_sums", "_law_many", "_law_reads_here"]
theorem Zg:FnScope QT ["_law_bag_here", "_law_web_here", "_law_wide", "_law_rich"] (defScope wG):=⟨rfl,rfl,rfl,by decide +kernel,rfl,by decide +kernel,by decide +kernel⟩
theorem abB(F:Fun K "_law_web" "_law_web" wG f fd)(g_range:mg "range" = none)(g_sorted:mg "sorted" = none)(g_tuple:mg "tuple" = none)(c__law_mixed:Cal P w K mg base k "_law_mixed" ["_law_bag_here", "_law_things"] (spB 2 zC))(c__law_one:Cal P w K mg base k "_law_one" ["_law_bag_here", "_law_some_here"] (spB 2 zO))(c__law_take:Cal P w K mg base k "_law_take" ["_law_bag_here", "_law_many"] (spB 2 zm))(c__law_some:Cal P w K mg base k "_law_some" ["_law_bag_here", "_law_things", "_law_most"] (spB 3 yx))(c__law_rich_own:Cal P w K mg base k "_law_rich_own" ["_law_bag_here", "_law_inputs", "_law_sums", "_law_reads_here", "_law_rich"] (spB 5 vc))(c__law_flat:Cal P w K mg base k "_law_flat" ["_law_rows"] (spP 1 yl)):FnG P w K mg base (k+1) f fd ["_law_bag_here", "_law_web_here", "_law_wide", "_law_rich"] (spB 4 we):=by
 refine jI (Γ:=[.bg,.sh,.sh,.sh,.dd,.dd,.dd,.dd,.dd,.dd,.dd,.dd,.dd,.dd]) (Γ':=[.bg,.sh,.sh,.sh,.dd,.dd,.dd,.dd,.dd,.dd,.dd,.dd,.dd,.dd]) (Γk:=[.bg,.sh,.sh,.sh,.dd,.dd,.dd,.dd,.dd,.dd,.dd,.dd,.dd,.dd]) F Zg rfl (by decide) (by decide) rfl ?_
 intro A s0 H0 lo gl ce qu fu co fr bl outer stack ex pn hgu hr
 have nd:=Zg.nd
 have h64:A.units+64<cLine:=by have:=hr.un;omega
 have h65:A.units+65<cLine:=by have:=hr.un;omega
 have h100:A.units+100<cLine:=by have:=hr.un;omega
 refine⟨_,(pss_cons (ps_set (i:=4) nd rfl (by trivial) (pe_slice Yl (zr c__law_mixed (Nat.le_refl _) hgu hr rfl (pa_cons (pv 0) (pa_cons (pe_lst (pa_cons (pe_str) (pa_cons (pe_str) (pa_cons (pe_str) (pa_cons (pe_str) (pa_cons (pe_str) (pa_cons (pe_str) (pa_cons (pe_str) pa_nil)))))))) pa_nil))) po_none (po_some (pv 2)))) (pss_cons (ps_set (i:=5) nd rfl (by trivial) (zr c__law_mixed (Nat.le_refl _) hgu hr rfl (pa_cons (pv 0) (pa_cons (pe_lst (pa_cons (pe_str) (pa_cons (pe_str) (pa_cons (pe_str) (pa_cons (pe_str) (pa_cons (pe_str) (pa_cons (pe_str) (pa_cons (pe_str) (pa_cons (pe_str) (pa_cons (pe_str) (pa_cons (pe_str) (pa_cons (pe_str) (pa_cons (pe_str) pa_nil))))))))))))) pa_nil)))) (pss_cons (ps_asg (pe_tup (pa_cons (pe_lst pa_nil) (pa_cons (pe_lst pa_nil) (pa_cons (zr c__law_one (Nat.le_refl _) hgu hr rfl (pa_cons (pv 0) (pa_cons (pe_lst (pa_cons (pe_int) (pa_cons (pe_int) (pa_cons (pe_int) pa_nil)))) pa_nil))) pa_nil)))) (pg_tup rfl (pgs_cons (pg_name (i:=10) nd rfl (by trivial)) (pgs_cons (pg_name (i:=11) nd rfl (by trivial)) (pgs_cons (pg_name (i:=12) nd rfl (by trivial)) pgs_nil))))) (pss_cons (ps_for PassesOwn.never rfl (pi_range1 rfl g_range (pa_cons (pe_op vD (pe_int) (zr c__law_take (Nat.le_refl _) hgu hr rfl (pa_cons (pv 0) (pa_cons (pe_int) pa_nil)))) pa_nil)) (pg_name (i:=6) nd rfl (by trivial)) (pss_cons (ps_expr (pe_bm PySem.F.plainAttrs_list PySem.F.slot_list_append PySem.F.type_list_append mt_append (pv 10) (pa_cons (zT (pa_cons (pe_bm0 PySem.F.plainAttrs_list PySem.F.slot_list_pop PySem.F.type_list_pop mt_pop (pv 5)) (pa_cons (pe_ifExp (pt_cmpR (op_eqD h64) (pv 6) (pe_int) (by rfl)) (pe_callTy yQ rfl g_tuple boot_tuple (pa_cons (pe_callB (vF h100) rfl g_sorted boot_sorted (pa_cons (pe_slice Yl (pv 4) po_none (po_some (pe_op vD (pe_int) (zr c__law_take (Nat.le_refl _) hgu hr rfl (pa_cons (pv 0) (pa_cons (pv 12) pa_nil)))))) pa_nil)) pa_nil)) (zr c__law_some (Nat.le_refl _) hgu hr rfl (pa_cons (pv 0) (pa_cons (pv 4) (pa_cons (pe_int) pa_nil))))) pa_nil))) pa_nil))) pss_nil)) (pss_cons (ps_for PassesOwn.never rfl (zS (pv 1)) (pg_name (i:=7) nd rfl (by trivial)) (pss_cons (ps_setLc (i:=13) (own:=[("_law_k",6)]) (g:=(gName 6)) (tt:=tYes) (te:=(tOp (v9 K) (tOp (v9 K) (tVar 11) (tVar 6)) (tC (.int 0)))) rfl nd rfl rfl (sw_true rfl rfl rfl (by decide +kernel)) (zS (pv 7)) (blkOk_by (N:=QT) (sc:=defScope wG) (by decide +kernel)) (fun _ _ _ _ _=>(pg_name (i:=6) nd rfl (by trivial))) (fun _ _ _ _ _=>pts_nil) (fun _ _ _ _ _=>(pe_ix yW (pe_ix yW (pv 11) (pv 6) (fun _ _=>rfl)) (pe_int) (fun _ _=>rfl)))) (pss_cons (ps_if (PW.pt (pw_or (pt_cmpR (op_eqD h64) (pv 13) (pe_lst pa_nil) (by rfl)) (pw_or1 (pt_cmpR op_gt (zr c__law_take (Nat.le_refl _) hgu hr rfl (pa_cons (pv 0) (pa_cons (pe_int) pa_nil))) (pe_int) (by rfl))))) (pss_cons (ps_expr (pe_bm PySem.F.plainAttrs_list PySem.F.slot_list_append PySem.F.type_list_append mt_append (pv 13) (pa_cons (pe_ix yW (zr c__law_one (Nat.le_refl _) hgu hr rfl (pa_cons (pv 0) (pa_cons (pv 10) pa_nil))) (pe_int) (fun _ _=>rfl)) pa_nil))) pss_nil) pss_nil) (pss_cons (ps_expr (pe_bm PySem.F.plainAttrs_list PySem.F.slot_list_append PySem.F.type_list_append mt_append (pv 11) (pa_cons (zT (pa_cons (pe_bm0 PySem.F.plainAttrs_list PySem.F.slot_list_pop PySem.F.type_list_pop mt_pop (pv 5)) (pa_cons (zr c__law_rich_own (Nat.le_refl _) hgu hr rfl (pa_cons (pv 0) (pa_cons (pv 10) (pa_cons (pv 11) (pa_cons (pv 13) (pa_cons (pv 3) pa_nil)))))) (pa_cons (pe_callTy yQ rfl g_tuple boot_tuple (pa_cons (pe_callB (vF h100) rfl g_sorted boot_sorted (pa_cons (pv 13) pa_nil)) pa_nil)) pa_nil)))) pa_nil))) pss_nil)))) (pss_cons (ps_set (i:=8) nd rfl (by trivial) (zr c__law_flat (Nat.le_refl _) hgu hr rfl (pa_cons (pe_lc (own:=[("_law_row",7)]) (g:=(gName 7)) (tt:=tYes) (te:=(tOp (v9 K) (tVar 7) (tC (.int 2)))) rfl nd (zS (pv 11)) (blkOk_by (N:=QT) (sc:=defScope wG) (by decide +kernel)) (fun _ _ _ _ _=>(pg_name (i:=7) nd rfl (by trivial))) (fun _ _ _ _ _=>pts_nil) (fun _ _ _ _ _=>(pe_ix yW (pv 7) (pe_int) (fun _ _=>rfl)))) pa_nil))) (pss_cons (ps_setLc (i:=9) (own:=[("_law_row",7)]) (g:=(gName 7)) (tt:=(tOr (tTest (tOp (jD K true) (tOp (v9 K) (tVar 7) (tC (.int 0))) (tVar 8))) (tTest (tOp (rEqD K) (tCall (spB 2 zm) [] (fun _ _ _=>False) (tCons (tVar 0) (tCons (tC (.int 12)) tNil))) (tC (.int 0)))))) (te:=(tOp (v9 K) (tVar 7) (tC (.int 0)))) rfl nd rfl rfl (sw_true rfl rfl rfl (by decide +kernel)) (zS (pv 11)) (blkOk_by (N:=QT) (sc:=defScope wG) (by decide +kernel)) (fun _ _ _ _ _=>(pg_name (i:=7) nd rfl (by trivial))) (fun _ _ _ _ _=>(pts_one (PW.pt (pw_or (pt_cmpR (vR h65) (pe_ix yW (pv 7) (pe_int) (fun _ _=>rfl)) (pv 8) (by rfl)) (pw_or1 (pt_cmpR (op_eqD h64) (zr c__law_take (Nat.le_refl _) hgu hr rfl (pa_cons (pv 0) (pa_cons (pe_int) pa_nil))) (pe_int) (by rfl))))))) (fun _ _ _ _ _=>(pe_ix yW (pv 7) (pe_int) (fun _ _=>rfl)))) (pss_one (ps_ret (zT (pa_cons (pe_callTy yQ rfl g_tuple boot_tuple (pa_cons (zr c__law_mixed (Nat.le_refl _) hgu hr rfl (pa_cons (pv 0) (pa_cons (pv 10) pa_nil))) pa_nil)) (pa_cons (pe_callTy yQ rfl g_tuple boot_tuple (pa_cons (pv 11) pa_nil)) (pa_cons (pe_callTy yQ rfl g_tuple boot_tuple (pa_cons (pe_callB (vF h100) rfl g_sorted boot_sorted (pa_cons (pv 9) pa_nil)) pa_nil)) pa_nil))))))))))))),?_⟩
 exact(zt (vW (Zl (RfE.b (z7 ((ze zz)).one (zc (RfN.e (yC (zc (yB "i") (zc (yB "j") (zc (yB "k") (zc (yB "ab") (zc (yB "zzzzzz") (zc (yB "b") (zc (yB "aaaaaa") zp))))))))) zp) (k:=0) (by rfl))) QV (Jf bV)) (by decide) (by decide)) (zt (wm (aaS (yC (zc (yB "t") (zc (yB "u") (zc (yB "v") (zc (yB "x") (zc (yB "y") (zc (yB "p") (zc (yB "q") (zc (yB "r") (zc (yB "s") (zc (yB "end") (zc (yB "add") (zc (yB "abcdef") zp))))))))))))) (k:=0) (by rfl)) (by decide) (by decide)) (zt (ahj (n:=3) (is:=[10,11,12]) (fls:=[.ow,.ow,.sh]) (wD (RfN.v (yC zp)) (wD (RfN.v (yC zp)) (wD (RfE.v (z7 ((ze zz)).one (zc (RfN.e (yC (zc (zx 1) (zc (zx 2) (zc (zx 5) zp))))) zp) (k:=0) (by rfl))) Xk))) rfl rfl (by decide) (by decide) (by decide) (by decide) (by decide)) (zt (je [6] (Γb:=[.bg,.sh,.sh,.sh,.sh,.ow,.sh,.dd,.dd,.dd,.ow,.ow,.sh,.dd]) (Γk':=[.bg,.sh,.sh,.sh,.sh,.ow,.sh,.dd,.dd,.dd,.ow,.ow,.sh,.dd]) (Yj (zA (RfE.b (zF vE (RfE.b (zx 1)) (RfE.b (z7 ((ze zz)).one (zc (zx 6) zp) (k:=0) (by rfl))))) zH)) (zE (by decide) (by decide)) (zt (Xl (i:=10) (by rfl) (ZC (by decide)) (Uf (j:=5) (by rfl)) (zc (abE (zR (RfE.b (zF (jr) bV (RfE.b (zx 0))))) (vg yo (zA (RfE.b (RfN.e (WJ yS (zA (RfE.b (Zl bV QV (Jf (RfE.b (zF vE (RfE.b (zx 1)) (RfE.b (z7 ((ze zz)).one (zc eV zp) (k:=0) (by rfl)))))))) zH)))) zH)) (z7 ((ze (ze zz))).one (zc eV (zc (zx 2) zp)) (k:=0) (by rfl))) zp)) zD) (by decide) (by decide) (by decide)) (Jy 10 (by rfl) (zt (je [6,13,7] (Γb:=[.bg,.sh,.sh,.sh,.sh,.ow,.dd,.sh,.dd,.dd,.sh,.ow,.sh,.ow]) (Γk':=[.bg,.sh,.sh,.sh,.sh,.ow,.dd,.sh,.dd,.dd,.sh,.ow,.sh,.dd]) (yi eV) (zE (by decide) (by decide)) (zt (wm (vO (Γ0:=[.bg,.sh,.sh,.sh,.sh,.ow,.dd,.sh,.dd,.dd,.sh,.ow,.sh,.dd]) (yi eV) (zE (by decide) (by decide)) jf (zF yj (RfE.b (zF yj (vt (by rfl)) bV)) (RfE.b (zx 0))) (by decide) (by decide) (by decide)) (by decide) (by decide)) (zt (JP (Vh (zR (RfE.b (zF (jr) (vt (by rfl)) (RfE.b (RfN.e (yC zp)))))) (zR (RfE.b (zF (Vm) (RfE.b (z7 ((ze zz)).one (zc (zx 3) zp) (k:=0) (by rfl))) (RfE.b (zx 0)))))) (zt (Jz (i:=13) (by rfl) (zF yj (RfE.b (z7 ((ze zz)).one (zc eV zp) (k:=0) (by rfl))) (RfE.b (zx 0)))) zD) zD) (zt (Xl (i:=11) (by rfl) (ZC (by decide)) (Uf (j:=5) (by rfl)) (zc (Uj ((ze (ze (ze (ze zz))))).one (zA bV (zA (vt (by rfl)) (zA (vt (by rfl)) (zA bV zH)))) (k:=0) (by rfl)) (zc (vg yo (zA (RfE.b (RfN.e (WJ yS (zA (vt (by rfl)) zH)))) zH)) zp))) zD))) (by decide) (by decide) (by decide)) (Jy 11 (by rfl) (zt (vW (zN (ze zz) (zc (RfN.e (vO (Γ0:=[.bg,.sh,.sh,.sh,.sh,.ow,.dd,.dd,.dd,.dd,.sh,.sh,.sh,.dd]) (yi eV) (zE (by decide) (by decide)) jf (zF yj bV (RfE.b (zx 2))) (by decide) (by decide) (by decide))) zp)) (by decide) (by decide)) (zt (wm (vO (Γ0:=[.bg,.sh,.sh,.sh,.sh,.ow,.dd,.dd,.sh,.dd,.sh,.sh,.sh,.dd]) (yi eV) (zE (by decide) (by decide)) (Vh (zR (RfE.b (zF (yR (neg:=true)) (RfE.b (zF yj bV (RfE.b (zx 0)))) bV))) (zR (RfE.b (zF (jr) (RfE.b (z7 ((ze zz)).one (zc (zx 12) zp) (k:=0) (by rfl))) (RfE.b (zx 0)))))) (zF yj bV (RfE.b (zx 0))) (by decide) (by decide) (by decide)) (by decide) (by decide)) (zt (yn (yA (zc (vg yo (zA (RfE.b (z7 ((ze zz)).one (zc eV zp) (k:=0) (by rfl))) zH)) (zc (vg yo (zA bV zH)) (zc (vg yo (zA (RfE.b (RfN.e (WJ yS (zA (vt (by rfl)) zH)))) zH)) zp))))) zD))))))))))
abbrev WI:List Str:=["_law_sheet_here", "_law_thing", "_law_one_here", "_law_other", "_law_k"]
theorem VN:FnScope WI ["_law_sheet_here", "_law_thing", "_law_one_here", "_law_other"] (defScope wh):=⟨rfl,rfl,rfl,by decide +kernel,rfl,by decide +kernel,by decide +kernel⟩
theorem U5(F:Fun K "_law_is_way" "_law_is_way" wh f fd)(g_isinstance:mg "isinstance" = none)(g_len:mg "len" = none)(g_list:mg "list" = none)(g_range:mg "range" = none)(c__law_pairs:Cal P w K mg base k "_law_pairs" ["_law_sheet_here"] (spP 1 vI)):FnG P w K mg base (k+1) f fd ["_law_sheet_here", "_law_thing", "_law_one_here", "_law_other"] (spP 4 vn):=by
 refine yc (Γ:=[.sh,.sh,.sh,.sh,.dd]) (Γ':=[.sh,.sh,.sh,.sh,.dd]) (Γk:=[.sh,.sh,.sh,.sh,.dd]) F VN rfl (by decide) rfl (by decide) ?_
 intro A s0 H0 lo gl ce qu fu co fr bl outer stack ex pn hgu hr
 have nd:=VN.nd
 have h1:A.units+1<cLine:=by have:=hr.un;omega
 have h64:A.units+64<cLine:=by have:=hr.un;omega
 have h65:A.units+65<cLine:=by have:=hr.un;omega
 refine⟨(tSeq (tIfS (tOr (tNot (tB (tCB (rIsi K) (tCons (tVar 1) (tCons (tC (.ty "list")) tNil))))) (tOr (tTest (tOp (agV K) (tCB (fun xs H Q=>∃p ys,xs=[.ref p]∧(SqL K H p ys∨SqT K H p ys)∧Q (.int ys.length) H) (tCons (tVar 1) tNil)) (tC (.int 2)))) (tOr (tTest (tOp (jD K true) (tOp (v9 K) (tVar 1) (tC (.int 0))) (tVar 2))) (tTest (tOp (jD K true) (tOp (v9 K) (tVar 1) (tUn (rU fun i=>.int (-i)) (tC (.int 1)))) (tVar 3)))))) (tSeq (tRet (tC (.bl false))) tNext) tNext) (tSeq (tRet ((tOp (rEqD K) (tLc (iRng2 (tCons (tC (.int 1)) (tCons (tCB (fun xs H Q=>∃p ys,xs=[.ref p]∧(SqL K H p ys∨SqT K H p ys)∧Q (.int ys.length) H) (tCons (tVar 1) tNil)) tNil))) (gName 4) (tTest (tOp (jD K true) (yP (tCons (tOp (v9 K) (tVar 1) (tOp (rI0 fun i j=>.int (i - j)) (tVar 4) (tC (.int 1)))) (tCons (tOp (v9 K) (tVar 1) (tVar 4)) tNil))) (tCall (spP 1 vI) [] (fun _ _ _=>False) (tCons (tVar 0) tNil)))) (tVar 4) [4]) (tLst tNil)))) tNext)),(pss_cons (ps_if (PW.pt (pw_or (pt_not (pt_val (pe_callB call_isi rfl g_isinstance boot_isinstance (pa_cons (pv 1) (pa_cons (pe_bltn rfl g_list boot_list rfl) pa_nil))))) (pw_or (pt_cmpR (agW h1) (pe_callB call_len_seq rfl g_len boot_len (pa_cons (pv 1) pa_nil)) (pe_int) (by rfl)) (pw_or (pt_cmpR (vR h65) (pe_ix yW (pv 1) (pe_int) (fun _ _=>rfl)) (pv 2) (by rfl)) (pw_or1 (pt_cmpR (vR h65) (pe_ix yW (pv 1) (pe_un un_neg (pe_int)) (fun _ _=>rfl)) (pv 3) (by rfl))))))) (pss_one (ps_ret (pe_bl))) pss_nil) (pss_one (ps_ret (pe_cmpR (op_eqD h64) (pe_lc (own:=[("_law_k",4)]) (g:=(gName 4)) (tt:=(tTest (tOp (jD K true) (yP (tCons (tOp (v9 K) (tVar 1) (tOp (rI0 fun i j=>.int (i - j)) (tVar 4) (tC (.int 1)))) (tCons (tOp (v9 K) (tVar 1) (tVar 4)) tNil))) (tCall (spP 1 vI) [] (fun _ _ _=>False) (tCons (tVar 0) tNil))))) (te:=(tVar 4)) rfl nd (pi_range2 rfl g_range (pa_cons (pe_int) (pa_cons (pe_callB call_len_seq rfl g_len boot_len (pa_cons (pv 1) pa_nil)) pa_nil))) (blkOk_by (N:=WI) (sc:=defScope wh) (by decide +kernel)) (fun _ _ _ _ _=>(pg_name (i:=4) nd rfl (by trivial))) (fun _ _ _ _ _=>(pts_one (pt_cmpR (vR h65) (zT (pa_cons (pe_ix yW (pv 1) (pe_op op_sub (pv 4) (pe_int)) (fun _ _=>rfl)) (pa_cons (pe_ix yW (pv 1) (pv 4) (fun _ _=>rfl)) pa_nil))) (zr c__law_pairs (Nat.le_refl _) hgu hr rfl (pa_cons (pv 0) pa_nil)) (by rfl)))) (fun _ _ _ _ _=>(pv 4))) (pe_lst pa_nil) (by rfl))))),?_⟩
 exact(zt (JP (Vh (Qg (t_B (RfE.b (aev "list" bV)))) (Vh (zR (RfE.b (zF (agX) (RfE.b (vg JT (zA bV zH))) (RfE.b (zx 2))))) (Vh (zR (RfE.b (zF (yR (neg:=true)) (RfE.b (zF yj bV (RfE.b (zx 0)))) bV))) (zR (RfE.b (zF (yR (neg:=true)) (RfE.b (zF yj bV (RfE.b (agP Iz (RfE.b (zx 1)))))) bV)))))) (zt (yn (Yi false)) zD) zD) (zt (yn ((zF (jr) (RfE.b (RfN.e (vO (Γ0:=[.sh,.sh,.sh,.sh,.dd]) (ahf (zA (RfE.b (zx 1)) (zA (RfE.b (vg JT (zA bV zH))) zH))) (zE (by decide) (by decide)) (zR (RfE.b (zF (yR (neg:=true)) (RfE.b (yA (zc (zF yj bV (RfE.b (zF Iy bV (RfE.b (zx 1))))) (zc (zF yj bV bV) zp)))) (RfE.b (zN (ze zz) (zc eV zp)))))) eV (by decide) (by decide) (by decide)))) (RfE.b (RfN.e (yC zp)))))) zD))
abbrev VO:List Str:=["_law_bag_here", "_law_inputs", "_law_contents", "_law_name", "_law_axes"]
theorem Ye:FnScope VO ["_law_bag_here"] (defScope wH):=⟨rfl,rfl,rfl,by decide +kernel,rfl,by decide +kernel,by decide +kernel⟩
theorem aaf(F:Fun K "_law_bare" "_law_bare" wH f fd)(g_dict:mg "dict" = none)(g_tuple:mg "tuple" = none)(c__law_mixed:Cal P w K mg base k "_law_mixed" ["_law_bag_here", "_law_things"] (spB 2 zC))(c__law_take:Cal P w K mg base k "_law_take" ["_law_bag_here", "_law_many"] (spB 2 zm)):FnG P w K mg base (k+1) f fd ["_law_bag_here"] (spB 1 vY):=by
 refine jI (Γ:=[.bg,.dd,.dd,.dd,.dd]) (Γ':=[.bg,.dd,.dd,.dd,.dd]) (Γk:=[.bg,.dd,.dd,.dd,.dd]) F Ye rfl (by decide) (by decide) rfl ?_
 intro A s0 H0 lo gl ce qu fu co fr bl outer stack ex pn hgu hr
 have nd:=Ye.nd
 have h1:A.units+1<cLine:=by have:=hr.un;omega
 have h64:A.units+64<cLine:=by have:=hr.un;omega
 refine⟨_,(pss_cons (ps_set (i:=1) nd rfl (by trivial) (pe_callTy yQ rfl g_tuple boot_tuple (pa_cons (pe_lc (own:=[("_law_name",3)]) (g:=(gName 3)) (tt:=tYes) (te:=(yP (tCons (tVar 3) (tCons (yP (tCons (tC (.str "i")) tNil)) tNil)))) rfl nd (zS (pe_slice Yl (zr c__law_mixed (Nat.le_refl _) hgu hr rfl (pa_cons (pv 0) (pa_cons (pe_lst (pa_cons (pe_str) (pa_cons (pe_str) (pa_cons (pe_str) pa_nil)))) pa_nil))) po_none (po_some (zr c__law_take (Nat.le_refl _) hgu hr rfl (pa_cons (pv 0) (pa_cons (pe_int) pa_nil)))))) (blkOk_by (N:=VO) (sc:=defScope wH) (by decide +kernel)) (fun _ _ _ _ _=>(pg_name (i:=3) nd rfl (by trivial))) (fun _ _ _ _ _=>pts_nil) (fun _ _ _ _ _=>(zT (pa_cons (pv 3) (pa_cons (zT (pa_cons (pe_str) pa_nil)) pa_nil))))) pa_nil))) (pss_cons (ps_set (i:=2) nd rfl (by trivial) (pe_callTy (Xa rfl) rfl g_dict boot_dict (pa_cons (pe_lc (own:=[("_law_name",3),("_law_axes",4)]) (g:=(gTup K 2 (gCons (gName 3) (gCons (gName 4) gNil)))) (tt:=tYes) (te:=(yP (tCons (tVar 3) (tCons (ac3 (((yP (tCons (tC (.int 0)) tNil)),(tC (.int 5)))::(((yP (tCons (tC (.int 1)) tNil)),(tC (.int 7)))::[]))) tNil)))) rfl nd (zS (pv 1)) (blkOk_by (N:=VO) (sc:=defScope wH) (by decide +kernel)) (fun _ _ _ _ _=>(pg_tup rfl (pgs_cons (pg_name (i:=3) nd rfl (by trivial)) (pgs_cons (pg_name (i:=4) nd rfl (by trivial)) pgs_nil)))) (fun _ _ _ _ _=>pts_nil) (fun _ _ _ _ _=>(zT (pa_cons (pv 3) (pa_cons (aeU h1 (pps_cons (zT (pa_cons (pe_int) pa_nil)) (pe_int) (pps_cons (zT (pa_cons (pe_int) pa_nil)) (pe_int) pps_nil)) rfl rfl (by simp) (by decide)) pa_nil))))) pa_nil))) (pss_one (ps_ret (zT (pa_cons (zT (pa_cons (pv 1) (pa_cons (zT pa_nil) (pa_cons (zT pa_nil) pa_nil)))) (pa_cons (pe_ifExp (pt_cmpR (op_neD h64) (pv 1) (zT pa_nil) (by rfl)) (ID (pe_disp (pps_cons (pe_str) (pe_int) pps_nil) rfl rfl (by simp) (by decide))) (ID pe_dnewK)) (pa_cons (pv 2) pa_nil)))))))),?_⟩
 exact(zt (vW (vg yo (zA (RfE.b (RfN.e (vO (Γ0:=[.bg,.dd,.dd,.dd,.dd]) (yi (Zl (RfE.b (z7 ((ze zz)).one (zc (RfN.e (yC (zc (yB "a") (zc (yB "b") (zc (yB "x") zp))))) zp) (k:=0) (by rfl))) QV (Jf (RfE.b (z7 ((ze zz)).one (zc (zx 3) zp) (k:=0) (by rfl)))))) (zE (by decide) (by decide)) jf (yA (zc eV (zc (yA (zc (yB "i") zp)) zp))) (by decide) (by decide) (by decide)))) zH)) (by decide) (by decide)) (zt (vW (vg Xb (zA (RfE.b (RfN.e (vO (Γ0:=[.bg,.sh,.dd,.dd,.dd]) (yi eV) (ZM (vQ (zE (by decide) (by decide)) (vQ (zE (by decide) (by decide)) YE))) jf (yA (zc eV (zc (ag6 (acW (yA (zc (zx 0) zp)) (zx 5) (acW (yA (zc (zx 1) zp)) (zx 7) aho))) zp))) (by decide) (by decide) (by decide)))) zH)) (by decide) (by decide)) (zt (yn (yA (zc (yA (zc eV (zc (yA zp) (zc (yA zp) zp)))) (zc (abE (zR (RfE.b (zF (jV) bV (RfE.b (yA zp))))) (ag9 (ag8 (yB "i") (zx 2) ahp)) (acU)) (zc eV zp))))) zD)))
abbrev Yf:List Str:=["_law_sheet_here", "_law_one_here", "_law_other", "_law_shown", "_law_told", "_law_wanted"]
theorem JO:FnScope Yf ["_law_sheet_here", "_law_one_here", "_law_other"] (defScope vH):=⟨rfl,rfl,rfl,by decide +kernel,rfl,by decide +kernel,by decide +kernel⟩
theorem WY(F:Fun K "_law_ring_wrong" "_law_ring_wrong" vH f fd)(g_isinstance:mg "isinstance" = none)(g_len:mg "len" = none)(g_repr:mg "repr" = none)(g_tuple:mg "tuple" = none)(c__law_leads:Cal P w K mg base k "_law_leads" ["_law_sheet_here", "_law_one_here", "_law_other"] (spP 3 yL))(c_ring_of_lots:Cal P w K mg base k "ring_of_lots" ["sheet", "one", "other"] (spP 3 yF))(c__law_is_way:Cal P w K mg base k "_law_is_way" ["_law_sheet_here", "_law_thing", "_law_one_here", "_law_other"] (spP 4 vn)):FnG P w K mg base (k+1) f fd ["_law_sheet_here", "_law_one_here", "_law_other"] (spP 3 yv):=by
 refine yc (Γ:=[.sh,.sh,.sh,.dd,.dd,.dd]) (Γ':=[.sh,.sh,.sh,.dd,.dd,.dd]) (Γk:=[.sh,.sh,.sh,.dd,.dd,.dd]) F JO rfl (by decide) rfl (by decide) ?_
 intro A s0 H0 lo gl ce qu fu co fr bl outer stack ex pn hgu hr
 have nd:=JO.nd
 have h64:A.units+64<cLine:=by have:=hr.un;omega
 have h100:A.units+100<cLine:=by have:=hr.un;omega
 refine⟨(tSeq (tPar 4 5 (tCons (tCall (spP 3 yF) [] (fun _ _ _=>False) (tCons (tVar 0) (tCons (tVar 1) (tCons (tVar 2) tNil)))) (tCons ((tAndV (tCall (spP 3 yL) [] (fun _ _ _=>False) (tCons (tVar 0) (tCons (tVar 1) (tCons (tVar 2) tNil)))) (tCall (spP 3 yL) [] (fun _ _ _=>False) (tCons (tVar 0) (tCons (tVar 2) (tCons (tVar 1) tNil)))))) tNil))) (tSeq (tIfS (tOr (tTest (tOp rIsN (tVar 4) (tC .non))) (tNot (tB (tVar 5)))) (tSeq (tRet ((tOrV ((tOp rNotN (tVar 4) (tC .non))) (tVar 5)))) tNext) tNext) (tSeq (tIfS (tOr (tNot (tB (tCB (rIsi K) (tCons (tVar 4) (tCons (tC (.ty "tuple")) tNil))))) (tTest (tOp (rNeD K) (tCB (fun xs H Q=>∃p ys,xs=[.ref p]∧(SqL K H p ys∨SqT K H p ys)∧Q (.int ys.length) H) (tCons (tVar 4) tNil)) (tC (.int 2))))) (tSeq (tRet (tC (.bl true))) tNext) tNext) (tSeq (tIfS (tOr (tNot (tB (tCall (spP 4 vn) [] (fun _ _ _=>False) (tCons (tVar 0) (tCons (tOp (v9 K) (tVar 4) (tC (.int 0))) (tCons (tVar 1) (tCons (tVar 2) tNil))))))) (tNot (tB (tCall (spP 4 vn) [] (fun _ _ _=>False) (tCons (tVar 0) (tCons (tOp (v9 K) (tVar 4) (tC (.int 1))) (tCons (tVar 2) (tCons (tVar 1) tNil)))))))) (tSeq (tRet (tC (.bl true))) tNext) tNext) (tSeq (tAsg (tCB (acz K) (tCons (tVar 4) tNil)) (gName 3)) (tSeq (tDrop (tBM K "list" rAppend (adA K [0] (tVar 4)) (tCons (tC (.str "")) tNil))) (tSeq (tDrop (tBM0 K "list" rClear (adA K [1] (tVar 4)))) (tSeq (tRet ((tOp (rNeD K) (tCB (acz K) (tCons (tCall (spP 3 yF) [] (fun _ _ _=>False) (tCons (tVar 0) (tCons (tVar 1) (tCons (tVar 2) tNil)))) tNil)) (tVar 3)))) tNext)))))))),(pss_cons (ps_par (i:=4) (j:=5) rfl nd rfl rfl (by decide) rfl rfl (pa_cons (zr c_ring_of_lots (Nat.le_refl _) hgu hr rfl (pa_cons (pv 0) (pa_cons (pv 1) (pa_cons (pv 2) pa_nil)))) (pa_cons ((pe_and (zr c__law_leads (Nat.le_refl _) hgu hr rfl (pa_cons (pv 0) (pa_cons (pv 1) (pa_cons (pv 2) pa_nil)))) (pe_one (zr c__law_leads (Nat.le_refl _) hgu hr rfl (pa_cons (pv 0) (pa_cons (pv 2) (pa_cons (pv 1) pa_nil))))))) pa_nil)) (by rfl)) (pss_cons (ps_if (PW.pt (pw_or (pt_cmpR op_isN1 (pv 4) (pe_non) (by rfl)) (pw_or1 (pt_not (pt_val (pv 5)))))) (pss_one (ps_ret ((pe_or (pe_cmpR op_notN1 (pv 4) (pe_non) (by rfl)) (pe_one (pv 5)))))) pss_nil) (pss_cons (ps_if (PW.pt (pw_or (pt_not (pt_val (pe_callB call_isi rfl g_isinstance boot_isinstance (pa_cons (pv 4) (pa_cons (pe_bltn rfl g_tuple boot_tuple rfl) pa_nil))))) (pw_or1 (pt_cmpR (op_neD h64) (pe_callB call_len_seq rfl g_len boot_len (pa_cons (pv 4) pa_nil)) (pe_int) (by rfl))))) (pss_one (ps_ret (pe_bl))) pss_nil) (pss_cons (ps_if (PW.pt (pw_or (pt_not (pt_val (zr c__law_is_way (Nat.le_refl _) hgu hr rfl (pa_cons (pv 0) (pa_cons (pe_ix yW (pv 4) (pe_int) (fun _ _=>rfl)) (pa_cons (pv 1) (pa_cons (pv 2) pa_nil))))))) (pw_or1 (pt_not (pt_val (zr c__law_is_way (Nat.le_refl _) hgu hr rfl (pa_cons (pv 0) (pa_cons (pe_ix yW (pv 4) (pe_int) (fun _ _=>rfl)) (pa_cons (pv 2) (pa_cons (pv 1) pa_nil)))))))))) (pss_one (ps_ret (pe_bl))) pss_nil) (pss_cons (ps_set (i:=3) nd rfl (by trivial) (pe_callB (Zw hgu h100) rfl g_repr boot_repr (pa_cons (pv 4) pa_nil))) (pss_cons (ps_expr (pe_bm PySem.F.plainAttrs_list PySem.F.slot_list_append PySem.F.type_list_append mt_append (pe_ix yW (pv 4) pe_int (fun _ _=>rfl)) (pa_cons (pe_str) pa_nil))) (pss_cons (ps_expr (pe_bm0 PySem.F.plainAttrs_list PySem.F.slot_list_clear PySem.F.type_list_clear mt_clear (pe_ix yW (pv 4) pe_int (fun _ _=>rfl)))) (pss_one (ps_ret (pe_cmpR (op_neD h64) (pe_callB (Zw hgu h100) rfl g_repr boot_repr (pa_cons (zr c_ring_of_lots (Nat.le_refl _) hgu hr rfl (pa_cons (pv 0) (pa_cons (pv 1) (pa_cons (pv 2) pa_nil)))) pa_nil)) (pv 3) (by rfl))))))))))),?_⟩
 exact(zt (ZB (wD (RfF.v (ahi (ze (ze (ze zz))) (zc eV (zc eV (zc eV zp))))) (wD (RfE.v ((aef (RfE.b (zN (ze (ze (ze zz))) (zc eV (zc eV (zc eV zp))))) (zN (ze (ze (ze zz))) (zc eV (zc eV (zc eV zp))))))) Xk)) (by decide) (by decide) (by decide) (by decide) (by decide) (by decide)) (zt (JP (Vh (zR (RfE.b (ahU (IH) (Ud (by rfl)) (RfE.x (Gv))))) (Qg (t_B bV))) (zt (yn ((ahF (RfE.b ((ahU (aeM) (Ud (by rfl)) (RfE.x (Gv))))) eV))) zD) zD) (zt (JP (Vh (Qg (t_B (RfE.b (ahX "tuple" (Ud (by rfl)))))) (zR (RfE.b (zF (jV) (RfE.b (ahV JT (j7 (Ud (by rfl)) IJ))) (RfE.b (zx 2)))))) (zt (yn (Yi true)) zD) zD) (zt (JP (Vh (Qg (t_B (RfE.b (aeJ (ze (ze (ze (ze zz)))) (j7 (RfE.x eV) (j7 (agG (Ud (by rfl)) (zx 0)) (j7 (RfE.x eV) (j7 (RfE.x eV) IJ)))))))) (Qg (t_B (RfE.b (aeJ (ze (ze (ze (ze zz)))) (j7 (RfE.x eV) (j7 (agG (Ud (by rfl)) (zx 1)) (j7 (RfE.x eV) (j7 (RfE.x eV) IJ))))))))) (zt (yn (Yi true)) zD) zD) (zt (vW (ahV W3 (j7 (Ud (by rfl)) IJ)) (by decide) (by decide)) (zt (ag1 (i:=4) [0] (by rfl) (RfE.fr (yB ""))) (zt (adD (i:=4) [1] (by rfl)) (zt (yn ((zF (jV) (RfE.b (vg W3 (zA (RfE.b (zN (ze (ze (ze zz))) (zc eV (zc eV (zc eV zp))))) zH))) bV))) zD))))))))
abbrev Zh:List Str:=["_law_bag_here", "_law_sheet_here", "_law_name", "_law_names_here", "_law_found", "_law_k"]
theorem Yg:FnScope Zh ["_law_bag_here", "_law_sheet_here"] (defScope jA):=⟨rfl,rfl,rfl,by decide +kernel,rfl,by decide +kernel,by decide +kernel⟩
theorem aag(F:Fun K "_law_lots" "_law_lots" jA f fd)(g_range:mg "range" = none)(c__law_names:Cal P w K mg base k "_law_names" ["_law_sheet_here"] (spP 1 ye))(c__law_mixed:Cal P w K mg base k "_law_mixed" ["_law_bag_here", "_law_things"] (spB 2 zC))(c__law_lot_of:Cal P w K mg base k "_law_lot_of" ["_law_sheet_here", "_law_name"] (spP 2 yH))(c__law_some:Cal P w K mg base k "_law_some" ["_law_bag_here", "_law_things", "_law_most"] (spB 3 yx)):FnG P w K mg base (k+1) f fd ["_law_bag_here", "_law_sheet_here"] (spB 2 vZ):=by
 refine jI (Γ:=[.bg,.sh,.dd,.dd,.dd,.dd]) (Γ':=[.bg,.sh,.dd,.dd,.dd,.dd]) (Γk:=[.bg,.sh,.dd,.dd,.dd,.dd]) F Yg rfl (by decide) (by decide) rfl ?_
 intro A s0 H0 lo gl ce qu fu co fr bl outer stack ex pn hgu hr
 have nd:=Yg.nd
 refine⟨_,(pss_cons (ps_asg (pe_tup (pa_cons (zr c__law_names (Nat.le_refl _) hgu hr rfl (pa_cons (pv 1) pa_nil)) (pa_cons (pe_lst pa_nil) pa_nil))) (pg_tup rfl (pgs_cons (pg_name (i:=3) nd rfl (by trivial)) (pgs_cons (pg_name (i:=4) nd rfl (by trivial)) pgs_nil)))) (pss_cons (ps_for PassesOwn.never rfl (zS (pe_slice Yl (zr c__law_mixed (Nat.le_refl _) hgu hr rfl (pa_cons (pv 0) (pa_cons (pv 3) pa_nil))) po_none (po_some (pe_int)))) (pg_name (i:=2) nd rfl (by trivial)) (pss_cons (ps_expr (pe_bm PySem.F.plainAttrs_list PySem.F.slot_list_append PySem.F.type_list_append mt_append (pv 4) (pa_cons (zr c__law_lot_of (Nat.le_refl _) hgu hr rfl (pa_cons (pv 1) (pa_cons (pv 2) pa_nil))) pa_nil))) pss_nil)) (pss_one (ps_ret (pe_op vD (pv 4) (pe_lc (own:=[("_law_k",5)]) (g:=(gName 5)) (tt:=tYes) (te:=(tCall (spB 3 yx) [] (fun _ _ _=>False) (tCons (tVar 0) (tCons (tVar 3) (tCons (tC (.int 6)) tNil))))) rfl nd (pi_range1 rfl g_range (pa_cons (pe_int) pa_nil)) (blkOk_by (N:=Zh) (sc:=defScope jA) (by decide +kernel)) (fun _ _ _ _ _=>(pg_name (i:=5) nd rfl (by trivial))) (fun _ _ _ _ _=>pts_nil) (fun _ _ _ _ _=>(zr c__law_some (Nat.le_refl _) hgu hr rfl (pa_cons (pv 0) (pa_cons (pv 3) (pa_cons (pe_int) pa_nil))))))))))),?_⟩
 exact(zt (QF (RfE.k (zN (ze zz) (zc eV zp))) (RfN.k (yC zp)) (by decide) (by decide) (by decide) (by decide)) (zt (je [2] (Γb:=[.bg,.sh,.sh,.sh,.ow,.dd]) (Γk':=[.bg,.sh,.sh,.sh,.ow,.dd]) (yi (Zl (RfE.b (z7 ((ze zz)).one (zc eV zp) (k:=0) (by rfl))) QV (Jf (RfE.b (zx 3))))) (zE (by decide) (by decide)) (zt (Jz (i:=4) (by rfl) (zN (ze (ze zz)) (zc eV (zc eV zp)))) zD) (by decide) (by decide) (by decide)) (zt (yn (zF vE (vt (by rfl)) (RfE.b (RfN.e (vO (Γ0:=[.bg,.sh,.dd,.sh,.ow,.dd]) (Yj (zA (RfE.b (zx 3)) zH)) (zE (by decide) (by decide)) jf (z7 ((ze (ze zz))).one (zc eV (zc (zx 6) zp)) (k:=0) (by rfl)) (by decide) (by decide) (by decide)))))) zD)))
abbrev afJ:List Str:=["_law_script", "_law_bag_here", "_law_webs", "_law_turn", "_law_sheet_here", "_law_name", "_law_lots_here", "_law_lot", "_law_k", "_law_told", "_law_axis", "_law_may", "_law_one_here", "_law_other"]
theorem acx:FnScope afJ ["_law_script"] (defScope GR):=⟨rfl,rfl,rfl,by decide +kernel,rfl,by decide +kernel,by decide +kernel⟩
theorem agu(F:Fun K "law" "law" GR f fd)(g_range:mg "range" = none)(c__law_bag:Cal P w K mg base k "_law_bag" ["_law_script"] (YO K))(c__law_take:Cal P w K mg base k "_law_take" ["_law_bag_here", "_law_many"] (spB 2 zm))(c__law_alike:Cal P w K mg base k "_law_alike" ["_law_found", "_law_due"] (spP 2 zQ))(c_closed_lot:Cal P w K mg base k "closed_lot" ["sheet", "lot"] (spP 2 yd))(c__law_bare:Cal P w K mg base k "_law_bare" ["_law_bag_here"] (spB 1 vY))(c__law_sheet:Cal P w K mg base k "_law_sheet" ["_law_bag_here", "_law_most", "_law_wide"] (spB 3 vj))(c__law_web:Cal P w K mg base k "_law_web" ["_law_bag_here", "_law_web_here", "_law_wide", "_law_rich"] (spB 4 we))(c__law_one:Cal P w K mg base k "_law_one" ["_law_bag_here", "_law_some_here"] (spB 2 zO))(c__law_names:Cal P w K mg base k "_law_names" ["_law_sheet_here"] (spP 1 ye))(c__law_lot_of:Cal P w K mg base k "_law_lot_of" ["_law_sheet_here", "_law_name"] (spP 2 yH))(c_lot_of:Cal P w K mg base k "lot_of" ["sheet", "name"] (spP 2 Je))(c__law_lots:Cal P w K mg base k "_law_lots" ["_law_bag_here", "_law_sheet_here"] (spB 2 vZ))(c__law_closed:Cal P w K mg base k "_law_closed" ["_law_sheet_here", "_law_lot"] (spP 2 z6))(c__law_mixed:Cal P w K mg base k "_law_mixed" ["_law_bag_here", "_law_things"] (spB 2 zC))(c__law_all_axes:Cal P w K mg base k "_law_all_axes" ["_law_sheet_here"] (spP 1 yV))(c__law_stops:Cal P w K mg base k "_law_stops" ["_law_sheet_here", "_law_lot", "_law_axis", "_law_may"] (spP 4 vJ))(c_stops_in:Cal P w K mg base k "stops_in" ["sheet", "lot", "axis", "may_again"] (spP 4 wI))(c__law_ring_wrong:Cal P w K mg base k "_law_ring_wrong" ["_law_sheet_here", "_law_one_here", "_law_other"] (spP 3 yv)):FnG P w K mg base (k+1) f fd ["_law_script"] (spLaw K 14 B_law):=by
 refine afW (N:=afJ) (fb:=B_law) (Γ:=[.dd,.ow,.dd,.dd,.dd,.dd,.dd,.dd,.dd,.dd,.dd,.dd,.dd,.dd]) (Γ':=[.dd,.bg,.dd,.dd,.dd,.dd,.dd,.dd,.dd,.dd,.dd,.dd,.dd,.dd]) (Γk:=[.dd,.bg,.dd,.dd,.dd,.dd,.dd,.dd,.dd,.dd,.dd,.dd,.dd,.dd]) F acx (by decide) rfl rfl ?_ ?_
 ·intro A s0 H0 lo gl ce qu fu co fr bl outer stack ex pn hgu hr
  have nd:=acx.nd
  have h1:A.units+1<cLine:=by have:=hr.un;omega
  have h10:A.units+10<cLine:=by have:=hr.un;omega
  have h20:A.units+20<cLine:=by have:=hr.un;omega
  have h64:A.units+64<cLine:=by have:=hr.un;omega
  have h65:A.units+65<cLine:=by have:=hr.un;omega
  have h100:A.units+100<cLine:=by have:=hr.un;omega
  exact ps_set (i:=1) nd rfl (by trivial) (zr c__law_bag (Nat.le_refl _) hgu hr rfl (pa_cons (pv 0) pa_nil))
 ·intro A s0 H0 lo gl ce qu fu co fr bl outer stack ex pn hgu hr
  have nd:=acx.nd
  have h1:A.units+1<cLine:=by have:=hr.un;omega
  have h10:A.units+10<cLine:=by have:=hr.un;omega
  have h20:A.units+20<cLine:=by have:=hr.un;omega
  have h64:A.units+64<cLine:=by have:=hr.un;omega
  have h65:A.units+65<cLine:=by have:=hr.un;omega
  have h100:A.units+100<cLine:=by have:=hr.un;omega
  refine⟨(tSeq (tIfS (tAnd (tTest (tOp (rEqD K) (tCall (spB 2 zm) [] (fun _ _ _=>False) (tCons (tVar 1) (tCons (tC (.int 6)) tNil))) (tC (.int 0)))) (tNot (tB (tCall (spP 2 zQ) [] (fun _ _ _=>False) (tCons (tCall (spP 2 yd) [] (fun _ _ _=>False) (tCons (tOp (v9 K) (tCall (spB 1 vY) [] (fun _ _ _=>False) (tCons (tVar 1) tNil)) (tC (.int 0))) (tCons (yP tNil) tNil))) (tCons (yP tNil) tNil)))))) (tSeq (tRet (tC (.bl false))) tNext) tNext) (tSeq (tAsg (tLst (tCons (yP (tCons (yP tNil) (tCons (yP (tCons (tC (.int 0)) tNil)) (tCons (yP tNil) (tCons (yP (tCons (tC (.int 2)) tNil)) (tCons (yP (tCons (tC (.int 0)) (tCons (tC (.int 3)) tNil))) (tCons (yP (tCons (tC (.int 1)) (tCons (tC (.int 2)) tNil))) tNil))))))) (tCons (yP (tCons (yP tNil) (tCons (yP (tCons (tC (.int 0)) tNil)) (tCons (yP (tCons (tC (.int 0)) (tCons (tC (.int 1)) tNil))) (tCons (yP (tCons (tC (.int 1)) (tCons (tC (.int 2)) tNil))) (tCons (yP (tCons (tC (.int 0)) tNil)) tNil)))))) (tCons (yP (tCons (yP tNil) (tCons (yP tNil) (tCons (yP (tCons (tC (.int 0)) (tCons (tC (.int 1)) tNil))) (tCons (yP (tCons (tC (.int 0)) tNil)) (tCons (yP (tCons (tC (.int 1)) (tCons (tC (.int 3)) tNil))) tNil)))))) tNil)))) (gName 2)) (tSeq (tFor (iRng1 (tCons (tC (.int 2)) tNil)) (gName 3) (tSeq (tAsg (tIf (tTest (tOp (rEqD K) (tCall (spB 2 zm) [] (fun _ _ _=>False) (tCons (tVar 1) (tCons (tC (.int 2)) tNil))) (tC (.int 0)))) (tCall (spB 3 vj) [] (fun _ _ _=>False) (tCons (tVar 1) (tCons (tC (.int 6)) (tCons (tC (.int 5)) tNil)))) (tCall (spB 4 we) [] (fun _ _ _=>False) (tCons (tVar 1) (tCons (tCall (spB 2 zO) [] (fun _ _ _=>False) (tCons (tVar 1) (tCons (tVar 2) tNil))) (tCons (tC (.int 4)) (tCons (tC (.int 4)) tNil)))))) (gName 4)) (tSeq (tFor (Zi K (tCall (spP 1 ye) [] (fun _ _ _=>False) (tCons (tVar 4) tNil))) (gName 5) (tSeq (tIfS (tNot (tB (tCall (spP 2 zQ) [] (fun _ _ _=>False) (tCons (tCall (spP 2 Je) [] (fun _ _ _=>False) (tCons (tVar 4) (tCons (tVar 5) tNil))) (tCons (tCall (spP 2 yH) [] (fun _ _ _=>False) (tCons (tVar 4) (tCons (tVar 5) tNil))) tNil))))) (tSeq (tRet (tC (.bl false))) tNext) tNext) tNext)) (tSeq (tAsg (tCall (spB 2 vZ) [] (fun _ _ _=>False) (tCons (tVar 1) (tCons (tVar 4) tNil))) (gName 6)) (tSeq (tFor (Zi K (tVar 6)) (gName 7) (tSeq (tAsg (tCall (spP 2 yd) [] (fun _ _ _=>False) (tCons (tVar 4) (tCons (tVar 7) tNil))) (gName 9)) (tSeq (tIfS (tOr (tNot (tB (tCall (spP 2 zQ) [] (fun _ _ _=>False) (tCons (tVar 9) (tCons (tCall (spP 2 z6) [] (fun _ _ _=>False) (tCons (tVar 4) (tCons (tVar 7) tNil))) tNil))))) (tNot (tB (tCall (spP 2 zQ) [] (fun _ _ _=>False) (tCons (tCall (spP 2 yd) [] (fun _ _ _=>False) (tCons (tVar 4) (tCons (tVar 9) tNil))) (tCons (tVar 9) tNil)))))) (tSeq (tRet (tC (.bl false))) tNext) tNext) (tSeq (tFor (Zi K (tSl (afS K) (tCall (spB 2 zC) [] (fun _ _ _=>False) (tCons (tVar 1) (tCons (tCall (spP 1 yV) [] (fun _ _ _=>False) (tCons (tVar 4) tNil)) tNil))) tNoPart (tPart (tC (.int 2))))) (gName 10) (tSeq (tFor (Zi K (yP (tCons (tC (.bl true)) (tCons (tC (.bl false)) tNil)))) (gName 11) (tSeq (tIfS (tNot (tB (tCall (spP 2 zQ) [] (fun _ _ _=>False) (tCons (tCall (spP 4 wI) [] (fun _ _ _=>False) (tCons (tVar 4) (tCons (tVar 7) (tCons (tVar 10) (tCons (tVar 11) tNil))))) (tCons (tCall (spP 4 vJ) [] (fun _ _ _=>False) (tCons (tVar 4) (tCons (tVar 7) (tCons (tVar 10) (tCons (tVar 11) tNil))))) tNil))))) (tSeq (tRet (tC (.bl false))) tNext) tNext) tNext)) tNext)) tNext)))) (tSeq (tFor (iRng1 (tCons (tC (.int 6)) tNil)) (gName 8) (tSeq (tAsg (tTup (tCons (tCall (spP 2 z6) [] (fun _ _ _=>False) (tCons (tVar 4) (tCons (tCall (spB 2 zO) [] (fun _ _ _=>False) (tCons (tVar 1) (tCons (tVar 6) tNil))) tNil))) (tCons (tCall (spP 2 z6) [] (fun _ _ _=>False) (tCons (tVar 4) (tCons (tCall (spB 2 zO) [] (fun _ _ _=>False) (tCons (tVar 1) (tCons (tVar 6) tNil))) tNil))) tNil))) (gTup K 2 (gCons (gName 12) (gCons (gName 13) gNil)))) (tSeq (tIfS (tAnd (tTest (tOp (rNeD K) (tVar 12) (yP tNil))) (tAnd (tTest (tOp (rNeD K) (tVar 13) (yP tNil))) (tAnd (tTest (tOp (rEqD K) (tLc (Zi K (tVar 12)) (gName 5) (tTest (tOp (jD K false) (tVar 5) (tVar 13))) (tVar 5) [5]) (tLst tNil))) (tB (tCall (spP 3 yv) [] (fun _ _ _=>False) (tCons (tVar 4) (tCons (tVar 12) (tCons (tVar 13) tNil)))))))) (tSeq (tRet (tC (.bl false))) tNext) tNext) tNext))) tNext)))))) (tSeq (tRet (tC (.bl true))) tNext)))),(pss_cons (ps_if (PW.pt (pw_and (pt_cmpR (op_eqD h64) (zr c__law_take (Nat.le_refl _) hgu hr rfl (pa_cons (pv 1) (pa_cons (pe_int) pa_nil))) (pe_int) (by rfl)) (pw_and1 (pt_not (pt_val (zr c__law_alike (Nat.le_refl _) hgu hr rfl (pa_cons (zr c_closed_lot (Nat.le_refl _) hgu hr rfl (pa_cons (pe_ix yW (zr c__law_bare (Nat.le_refl _) hgu hr rfl (pa_cons (pv 1) pa_nil)) (pe_int) (fun _ _=>rfl)) (pa_cons (zT pa_nil) pa_nil))) (pa_cons (zT pa_nil) pa_nil)))))))) (pss_one (ps_ret (pe_bl))) pss_nil) (pss_cons (ps_set (i:=2) nd rfl (by trivial) (pe_lst (pa_cons (zT (pa_cons (zT pa_nil) (pa_cons (zT (pa_cons (pe_int) pa_nil)) (pa_cons (zT pa_nil) (pa_cons (zT (pa_cons (pe_int) pa_nil)) (pa_cons (zT (pa_cons (pe_int) (pa_cons (pe_int) pa_nil))) (pa_cons (zT (pa_cons (pe_int) (pa_cons (pe_int) pa_nil))) pa_nil))))))) (pa_cons (zT (pa_cons (zT pa_nil) (pa_cons (zT (pa_cons (pe_int) pa_nil)) (pa_cons (zT (pa_cons (pe_int) (pa_cons (pe_int) pa_nil))) (pa_cons (zT (pa_cons (pe_int) (pa_cons (pe_int) pa_nil))) (pa_cons (zT (pa_cons (pe_int) pa_nil)) pa_nil)))))) (pa_cons (zT (pa_cons (zT pa_nil) (pa_cons (zT pa_nil) (pa_cons (zT (pa_cons (pe_int) (pa_cons (pe_int) pa_nil))) (pa_cons (zT (pa_cons (pe_int) pa_nil)) (pa_cons (zT (pa_cons (pe_int) (pa_cons (pe_int) pa_nil))) pa_nil)))))) pa_nil))))) (pss_cons (ps_for PassesOwn.never rfl (pi_range1 rfl g_range (pa_cons (pe_int) pa_nil)) (pg_name (i:=3) nd rfl (by trivial)) (pss_cons (ps_set (i:=4) nd rfl (by trivial) (pe_ifExp (pt_cmpR (op_eqD h64) (zr c__law_take (Nat.le_refl _) hgu hr rfl (pa_cons (pv 1) (pa_cons (pe_int) pa_nil))) (pe_int) (by rfl)) (zr c__law_sheet (Nat.le_refl _) hgu hr rfl (pa_cons (pv 1) (pa_cons (pe_int) (pa_cons (pe_int) pa_nil)))) (zr c__law_web (Nat.le_refl _) hgu hr rfl (pa_cons (pv 1) (pa_cons (zr c__law_one (Nat.le_refl _) hgu hr rfl (pa_cons (pv 1) (pa_cons (pv 2) pa_nil))) (pa_cons (pe_int) (pa_cons (pe_int) pa_nil))))))) (pss_cons (ps_for PassesOwn.never rfl (zS (zr c__law_names (Nat.le_refl _) hgu hr rfl (pa_cons (pv 4) pa_nil))) (pg_name (i:=5) nd rfl (by trivial)) (pss_cons (ps_if (pt_not (pt_val (zr c__law_alike (Nat.le_refl _) hgu hr rfl (pa_cons (zr c_lot_of (Nat.le_refl _) hgu hr rfl (pa_cons (pv 4) (pa_cons (pv 5) pa_nil))) (pa_cons (zr c__law_lot_of (Nat.le_refl _) hgu hr rfl (pa_cons (pv 4) (pa_cons (pv 5) pa_nil))) pa_nil))))) (pss_one (ps_ret (pe_bl))) pss_nil) pss_nil)) (pss_cons (ps_set (i:=6) nd rfl (by trivial) (zr c__law_lots (Nat.le_refl _) hgu hr rfl (pa_cons (pv 1) (pa_cons (pv 4) pa_nil)))) (pss_cons (ps_for PassesOwn.never rfl (zS (pv 6)) (pg_name (i:=7) nd rfl (by trivial)) (pss_cons (ps_set (i:=9) nd rfl (by trivial) (zr c_closed_lot (Nat.le_refl _) hgu hr rfl (pa_cons (pv 4) (pa_cons (pv 7) pa_nil)))) (pss_cons (ps_if (PW.pt (pw_or (pt_not (pt_val (zr c__law_alike (Nat.le_refl _) hgu hr rfl (pa_cons (pv 9) (pa_cons (zr c__law_closed (Nat.le_refl _) hgu hr rfl (pa_cons (pv 4) (pa_cons (pv 7) pa_nil))) pa_nil))))) (pw_or1 (pt_not (pt_val (zr c__law_alike (Nat.le_refl _) hgu hr rfl (pa_cons (zr c_closed_lot (Nat.le_refl _) hgu hr rfl (pa_cons (pv 4) (pa_cons (pv 9) pa_nil))) (pa_cons (pv 9) pa_nil)))))))) (pss_one (ps_ret (pe_bl))) pss_nil) (pss_cons (ps_for PassesOwn.never rfl (zS (pe_slice Yl (zr c__law_mixed (Nat.le_refl _) hgu hr rfl (pa_cons (pv 1) (pa_cons (zr c__law_all_axes (Nat.le_refl _) hgu hr rfl (pa_cons (pv 4) pa_nil)) pa_nil))) po_none (po_some (pe_int)))) (pg_name (i:=10) nd rfl (by trivial)) (pss_cons (ps_for PassesOwn.never rfl (zS (zT (pa_cons (pe_bl) (pa_cons (pe_bl) pa_nil)))) (pg_name (i:=11) nd rfl (by trivial)) (pss_cons (ps_if (pt_not (pt_val (zr c__law_alike (Nat.le_refl _) hgu hr rfl (pa_cons (zr c_stops_in (Nat.le_refl _) hgu hr rfl (pa_cons (pv 4) (pa_cons (pv 7) (pa_cons (pv 10) (pa_cons (pv 11) pa_nil))))) (pa_cons (zr c__law_stops (Nat.le_refl _) hgu hr rfl (pa_cons (pv 4) (pa_cons (pv 7) (pa_cons (pv 10) (pa_cons (pv 11) pa_nil))))) pa_nil))))) (pss_one (ps_ret (pe_bl))) pss_nil) pss_nil)) pss_nil)) pss_nil)))) (pss_cons (ps_for PassesOwn.never rfl (pi_range1 rfl g_range (pa_cons (pe_int) pa_nil)) (pg_name (i:=8) nd rfl (by trivial)) (pss_cons (ps_asg (pe_tup (pa_cons (zr c__law_closed (Nat.le_refl _) hgu hr rfl (pa_cons (pv 4) (pa_cons (zr c__law_one (Nat.le_refl _) hgu hr rfl (pa_cons (pv 1) (pa_cons (pv 6) pa_nil))) pa_nil))) (pa_cons (zr c__law_closed (Nat.le_refl _) hgu hr rfl (pa_cons (pv 4) (pa_cons (zr c__law_one (Nat.le_refl _) hgu hr rfl (pa_cons (pv 1) (pa_cons (pv 6) pa_nil))) pa_nil))) pa_nil))) (pg_tup rfl (pgs_cons (pg_name (i:=12) nd rfl (by trivial)) (pgs_cons (pg_name (i:=13) nd rfl (by trivial)) pgs_nil)))) (pss_cons (ps_if (PW.pt (pw_and (pt_cmpR (op_neD h64) (pv 12) (zT pa_nil) (by rfl)) (pw_and (pt_cmpR (op_neD h64) (pv 13) (zT pa_nil) (by rfl)) (pw_and (pt_cmpR (op_eqD h64) (pe_lc (own:=[("_law_name",5)]) (g:=(gName 5)) (tt:=(tTest (tOp (jD K false) (tVar 5) (tVar 13)))) (te:=(tVar 5)) rfl nd (zS (pv 12)) (blkOk_by (N:=afJ) (sc:=defScope GR) (by decide +kernel)) (fun _ _ _ _ _=>(pg_name (i:=5) nd rfl (by trivial))) (fun _ _ _ _ _=>(pts_one (pt_cmpR (wn h65) (pv 5) (pv 13) (by rfl)))) (fun _ _ _ _ _=>(pv 5))) (pe_lst pa_nil) (by rfl)) (pw_and1 (pt_val (zr c__law_ring_wrong (Nat.le_refl _) hgu hr rfl (pa_cons (pv 4) (pa_cons (pv 12) (pa_cons (pv 13) pa_nil)))))))))) (pss_one (ps_ret (pe_bl))) pss_nil) pss_nil))) pss_nil)))))) (pss_one (ps_ret (pe_bl)))))),?_⟩
  exact ahb 1 (Γ1:=[.dd,.bg,.dd,.dd,.dd,.dd,.dd,.dd,.dd,.dd,.dd,.dd,.dd,.dd]) (Γ2:=[.dd,.bg,.dd,.dd,.dd,.dd,.dd,.dd,.dd,.dd,.dd,.dd,.dd,.dd]) (Γk2:=[.dd,.bg,.dd,.dd,.dd,.dd,.dd,.dd,.dd,.dd,.dd,.dd,.dd,.dd]) rfl rfl (by decide) (by decide) (zt (JP (Wa (zR (RfE.b (zF (jr) (RfE.b (z7 ((ze zz)).one (zc (zx 6) zp) (k:=1) (by rfl))) (RfE.b (zx 0))))) (Qg (t_B (RfE.b (zN (ze (ze zz)) (zc (zN (ze (ze zz)) (zc (zF yj (RfE.b (z7 (zz).one zp (k:=1) (by rfl))) (RfE.b (zx 0))) (zc (yA zp) zp))) (zc (yA zp) zp))))))) (zt (yn (Yi false)) zD) zD) (zt (wm (yC (zc (yA (zc (yA zp) (zc (yA (zc (zx 0) zp)) (zc (yA zp) (zc (yA (zc (zx 2) zp)) (zc (yA (zc (zx 0) (zc (zx 3) zp))) (zc (yA (zc (zx 1) (zc (zx 2) zp))) zp))))))) (zc (yA (zc (yA zp) (zc (yA (zc (zx 0) zp)) (zc (yA (zc (zx 0) (zc (zx 1) zp))) (zc (yA (zc (zx 1) (zc (zx 2) zp))) (zc (yA (zc (zx 0) zp)) zp)))))) (zc (yA (zc (yA zp) (zc (yA zp) (zc (yA (zc (zx 0) (zc (zx 1) zp))) (zc (yA (zc (zx 0) zp)) (zc (yA (zc (zx 1) (zc (zx 3) zp))) zp)))))) zp)))) (by decide) (by decide)) (Jy 2 (by rfl) (zt (je [10,8,7,6,11,5,12,13,4,9,3] (Γb:=[.dd,.bg,.sh,.sh,.sh,.dd,.sh,.dd,.dd,.dd,.dd,.dd,.dd,.dd]) (Γk':=[.dd,.bg,.sh,.sh,.dd,.dd,.dd,.dd,.dd,.dd,.dd,.dd,.dd,.dd]) (Yj (zA (RfE.b (zx 2)) zH)) (zE (by decide) (by decide)) (zt (vW (abE (zR (RfE.b (zF (jr) (RfE.b (z7 ((ze zz)).one (zc (zx 2) zp) (k:=1) (by rfl))) (RfE.b (zx 0))))) (z7 ((ze (ze zz))).one (zc (zx 6) (zc (zx 5) zp)) (k:=1) (by rfl)) (z7 ((ze (ze (ze zz)))).one (zc (z7 ((ze zz)).one (zc (yO (by rfl)) zp) (k:=1) (by rfl)) (zc (zx 4) (zc (zx 4) zp))) (k:=1) (by rfl))) (by decide) (by decide)) (zt (je [5] (Γb:=[.dd,.bg,.sh,.sh,.sh,.sh,.dd,.dd,.dd,.dd,.dd,.dd,.dd,.dd]) (Γk':=[.dd,.bg,.sh,.sh,.sh,.sh,.dd,.dd,.dd,.dd,.dd,.dd,.dd,.dd]) (yi (zN (ze zz) (zc (yO (by rfl)) zp))) (zE (by decide) (by decide)) (zt (JP (Qg (t_B (RfE.b (zN (ze (ze zz)) (zc (zN (ze (ze zz)) (zc (yO (by rfl)) (zc (yO (by rfl)) zp))) (zc (zN (ze (ze zz)) (zc (yO (by rfl)) (zc (yO (by rfl)) zp))) zp)))))) (zt (yn (Yi false)) zD) zD) zD) (by decide) (by decide) (by decide)) (zt (vW (z7 ((ze zz)).one (zc (yO (by rfl)) zp) (k:=1) (by rfl)) (by decide) (by decide)) (zt (je [10,7,11,9] (Γb:=[.dd,.bg,.sh,.sh,.sh,.dd,.sh,.sh,.dd,.sh,.dd,.dd,.dd,.dd]) (Γk':=[.dd,.bg,.sh,.sh,.sh,.dd,.sh,.sh,.dd,.dd,.dd,.dd,.dd,.dd]) (yi (yO (by rfl))) (zE (by decide) (by decide)) (zt (vW (zN (ze (ze zz)) (zc (yO (by rfl)) (zc (yO (by rfl)) zp))) (by decide) (by decide)) (zt (JP (Vh (Qg (t_B (RfE.b (zN (ze (ze zz)) (zc (yO (by rfl)) (zc (zN (ze (ze zz)) (zc (yO (by rfl)) (zc (yO (by rfl)) zp))) zp)))))) (Qg (t_B (RfE.b (zN (ze (ze zz)) (zc (zN (ze (ze zz)) (zc (yO (by rfl)) (zc (yO (by rfl)) zp))) (zc (yO (by rfl)) zp))))))) (zt (yn (Yi false)) zD) zD) (zt (je [10,11] (Γb:=[.dd,.bg,.sh,.sh,.sh,.dd,.sh,.sh,.dd,.sh,.sh,.dd,.dd,.dd]) (Γk':=[.dd,.bg,.sh,.sh,.sh,.dd,.sh,.sh,.dd,.sh,.sh,.dd,.dd,.dd]) (yi (Zl (RfE.b (z7 ((ze zz)).one (zc (zN (ze zz) (zc (yO (by rfl)) zp)) zp) (k:=1) (by rfl))) QV (Jf (RfE.b (zx 2))))) (zE (by decide) (by decide)) (zt (je [11] (Γb:=[.dd,.bg,.sh,.sh,.sh,.dd,.sh,.sh,.dd,.sh,.sh,.sh,.dd,.dd]) (Γk':=[.dd,.bg,.sh,.sh,.sh,.dd,.sh,.sh,.dd,.sh,.sh,.sh,.dd,.dd]) (yi (yA (zc (Yi true) (zc (Yi false) zp)))) (zE (by decide) (by decide)) (zt (JP (Qg (t_B (RfE.b (zN (ze (ze zz)) (zc (zN (ze (ze (ze (ze zz)))) (zc (yO (by rfl)) (zc (yO (by rfl)) (zc (yO (by rfl)) (zc (yO (by rfl)) zp))))) (zc (zN (ze (ze (ze (ze zz)))) (zc (yO (by rfl)) (zc (yO (by rfl)) (zc (yO (by rfl)) (zc (yO (by rfl)) zp))))) zp)))))) (zt (yn (Yi false)) zD) zD) zD) (by decide) (by decide) (by decide)) zD) (by decide) (by decide) (by decide)) zD))) (by decide) (by decide) (by decide)) (zt (je [8,5,12,13] (Γb:=[.dd,.bg,.sh,.sh,.sh,.dd,.sh,.dd,.sh,.dd,.dd,.dd,.sh,.sh]) (Γk':=[.dd,.bg,.sh,.sh,.sh,.dd,.sh,.dd,.sh,.dd,.dd,.dd,.dd,.dd]) (Yj (zA (RfE.b (zx 6)) zH)) (zE (by decide) (by decide)) (zt (QF (RfE.k (zN (ze (ze zz)) (zc (yO (by rfl)) (zc (z7 ((ze zz)).one (zc (yO (by rfl)) zp) (k:=1) (by rfl)) zp)))) (RfE.k (zN (ze (ze zz)) (zc (yO (by rfl)) (zc (z7 ((ze zz)).one (zc (yO (by rfl)) zp) (k:=1) (by rfl)) zp)))) (by decide) (by decide) (by decide) (by decide)) (zt (JP (Wa (zR (RfE.b (zF (jV) (RfE.b (yO (by rfl))) (RfE.b (yA zp))))) (Wa (zR (RfE.b (zF (jV) (RfE.b (yO (by rfl))) (RfE.b (yA zp))))) (Wa (zR (RfE.b (zF (jr) (RfE.b (RfN.e (vO (Γ0:=[.dd,.bg,.sh,.sh,.sh,.dd,.sh,.dd,.sh,.dd,.dd,.dd,.sh,.sh]) (yi (yO (by rfl))) (zE (by decide) (by decide)) (zR (RfE.b (zF (yR (neg:=false)) (RfE.b (yO (by rfl))) (RfE.b (yO (by rfl)))))) (yO (by rfl)) (by decide) (by decide) (by decide)))) (RfE.b (RfN.e (yC zp)))))) (t_B (RfE.b (zN (ze (ze (ze zz))) (zc (yO (by rfl)) (zc (yO (by rfl)) (zc (yO (by rfl)) zp))))))))) (zt (yn (Yi false)) zD) zD) zD)) (by decide) (by decide) (by decide)) zD))))) (by decide) (by decide) (by decide)) (zt (yn (Yi true)) zD)))))
end
end KP
set_option maxHeartbeats 0
namespace KP
open PySem PySem.Spec PyProof.Rows L2
theorem facts_{P:Program}{w:World}[TheW][Tied P w]{K:PySem.W.Frag}{h:Heap}{mg:Str→Option Value}{f:Addr}(X:K.In h)(G:h.Ns mainGlobals mg)(hfa:mg ("law" : Str)=some (.ref f))(c:He.SaysD fa_ fn_ K) :
  ∃fd:FuncData,(∀(s:Shared) (v:Value),BindsTo s fd ⟨[v],[]⟩ [("_law_script",v)])∧∀base:Heap,K.In base→base.Ns mainGlobals mg→FnG P w K mg base 60 f fd ["_law_script"] (spLaw K 14 B_law):=by
 obtain⟨fd_table_axes,D_table_axes⟩:=c.def_ 0 (d:=Xp) rfl
 obtain⟨fd_sums_by_name,D_sums_by_name⟩:=c.def_ 1 (d:=Vz) rfl
 obtain⟨fd_need_sum,D_need_sum⟩:=c.def_ 2 (d:=Ul) rfl
 obtain⟨fd_own_axes,D_own_axes⟩:=c.def_ 3 (d:=Um) rfl
 obtain⟨fd_summed_axes,D_summed_axes⟩:=c.def_ 4 (d:=Wf) rfl
 obtain⟨fd_loops_of,D_loops_of⟩:=c.def_ 5 (d:=Uo) rfl
 obtain⟨fd_meeting_pairs,D_meeting_pairs⟩:=c.def_ 6 (d:=QY) rfl
 obtain⟨fd_readers_of,D_readers_of⟩:=c.def_ 7 (d:=Xq) rfl
 obtain⟨fd_reached_by,D_reached_by⟩:=c.def_ 8 (d:=Xr) rfl
 obtain⟨fd_closed_lot,D_closed_lot⟩:=c.def_ 9 (d:=Xs) rfl
 obtain⟨fd_lot_of,D_lot_of⟩:=c.def_ 10 (d:=aaV) rfl
 obtain⟨fd_is_read_in,D_is_read_in⟩:=c.def_ 11 (d:=Xt) rfl
 obtain⟨fd_lacking,D_lacking⟩:=c.def_ 12 (d:=GT) rfl
 obtain⟨fd_stops_in,D_stops_in⟩:=c.def_ 13 (d:=Up) rfl
 obtain⟨fd_way_to,D_way_to⟩:=c.def_ 14 (d:=aaW) rfl
 obtain⟨fd_ring_of_lots,D_ring_of_lots⟩:=c.def_ 15 (d:=VA) rfl
 obtain⟨fd__law_bag,D__law_bag⟩:=c.def_ 16 (d:=Uq) rfl
 obtain⟨fd__law_take,D__law_take⟩:=c.def_ 17 (d:=YT) rfl
 obtain⟨fd__law_one,D__law_one⟩:=c.def_ 18 (d:=Ur) rfl
 obtain⟨fd__law_mixed,D__law_mixed⟩:=c.def_ 19 (d:=Xu) rfl
 obtain⟨fd__law_alike,D__law_alike⟩:=c.def_ 20 (d:=Xv) rfl
 obtain⟨fd__law_flat,D__law_flat⟩:=c.def_ 21 (d:=YU) rfl
 obtain⟨fd__law_some,D__law_some⟩:=c.def_ 22 (d:=YV) rfl
 obtain⟨fd__law_drawn_reads,D__law_drawn_reads⟩:=c.def_ 23 (d:=JJ) rfl
 obtain⟨fd__law_drawn_own,D__law_drawn_own⟩:=c.def_ 24 (d:=Qp) rfl
 obtain⟨fd__law_sheet,D__law_sheet⟩:=c.def_ 25 (d:=Xw) rfl
 obtain⟨fd__law_own,D__law_own⟩:=c.def_ 26 (d:=Us) rfl
 obtain⟨fd__law_names,D__law_names⟩:=c.def_ 27 (d:=Xx) rfl
 obtain⟨fd__law_reads,D__law_reads⟩:=c.def_ 28 (d:=Xy) rfl
 obtain⟨fd__law_all_axes,D__law_all_axes⟩:=c.def_ 29 (d:=QZ) rfl
 obtain⟨fd__law_summed,D__law_summed⟩:=c.def_ 30 (d:=Wg) rfl
 obtain⟨fd__law_pairs,D__law_pairs⟩:=c.def_ 31 (d:=Xz) rfl
 obtain⟨fd__law_readers,D__law_readers⟩:=c.def_ 32 (d:=VB) rfl
 obtain⟨fd__law_below,D__law_below⟩:=c.def_ 33 (d:=XA) rfl
 obtain⟨fd__law_closed,D__law_closed⟩:=c.def_ 34 (d:=Wh) rfl
 obtain⟨fd__law_lot_of,D__law_lot_of⟩:=c.def_ 35 (d:=Wi) rfl
 obtain⟨fd__law_stops,D__law_stops⟩:=c.def_ 36 (d:=XB) rfl
 obtain⟨fd__law_leads,D__law_leads⟩:=c.def_ 37 (d:=XC) rfl
 obtain⟨fd__law_rich_own,D__law_rich_own⟩:=c.def_ 38 (d:=Q0) rfl
 obtain⟨fd__law_web,D__law_web⟩:=c.def_ 39 (d:=Ut) rfl
 obtain⟨fd__law_is_way,D__law_is_way⟩:=c.def_ 40 (d:=Wj) rfl
 obtain⟨fd__law_bare,D__law_bare⟩:=c.def_ 41 (d:=YW) rfl
 obtain⟨fd__law_ring_wrong,D__law_ring_wrong⟩:=c.def_ 42 (d:=JX) rfl
 obtain⟨fd__law_lots,D__law_lots⟩:=c.def_ 43 (d:=YX) rfl
 obtain⟨fd_law,D_law⟩:=c.def_ 44 (d:=agI) rfl
 have m_table_axes:=He.glo_ok X G (c.fact 0 (f:=.glo "table_axes") rfl)
 have b_table_axes:Binds K fd_table_axes ["sheet"] []:=D_table_axes.bindsN fun _ _ _ _ _ _ us hl=>match us,hl with | [_],_=>rfl
 have m_sums_by_name:=He.glo_ok X G (c.fact 1 (f:=.glo "sums_by_name") rfl)
 have b_sums_by_name:Binds K fd_sums_by_name ["sheet"] []:=D_sums_by_name.bindsN fun _ _ _ _ _ _ us hl=>match us,hl with | [_],_=>rfl
 have m_need_sum:=He.glo_ok X G (c.fact 2 (f:=.glo "need_sum") rfl)
 have b_need_sum:Binds K fd_need_sum ["sheet", "name"] []:=D_need_sum.bindsN fun _ _ _ _ _ _ us hl=>match us,hl with | [_,_],_=>rfl
 have m_own_axes:=He.glo_ok X G (c.fact 3 (f:=.glo "own_axes") rfl)
 have b_own_axes:Binds K fd_own_axes ["sheet", "name"] []:=D_own_axes.bindsN fun _ _ _ _ _ _ us hl=>match us,hl with | [_,_],_=>rfl
 have m_summed_axes:=He.glo_ok X G (c.fact 4 (f:=.glo "summed_axes") rfl)
 have b_summed_axes:Binds K fd_summed_axes ["sheet", "name"] []:=D_summed_axes.bindsN fun _ _ _ _ _ _ us hl=>match us,hl with | [_,_],_=>rfl
 have m_loops_of:=He.glo_ok X G (c.fact 5 (f:=.glo "loops_of") rfl)
 have b_loops_of:Binds K fd_loops_of ["sheet", "again", "name"] []:=D_loops_of.bindsN fun _ _ _ _ _ _ us hl=>match us,hl with | [_,_,_],_=>rfl
 have m_meeting_pairs:=He.glo_ok X G (c.fact 6 (f:=.glo "meeting_pairs") rfl)
 have b_meeting_pairs:Binds K fd_meeting_pairs ["sheet"] []:=D_meeting_pairs.bindsN fun _ _ _ _ _ _ us hl=>match us,hl with | [_],_=>rfl
 have m_readers_of:=He.glo_ok X G (c.fact 7 (f:=.glo "readers_of") rfl)
 have b_readers_of:Binds K fd_readers_of ["sheet", "name"] []:=D_readers_of.bindsN fun _ _ _ _ _ _ us hl=>match us,hl with | [_,_],_=>rfl
 have m_reached_by:=He.glo_ok X G (c.fact 8 (f:=.glo "reached_by") rfl)
 have b_reached_by:Binds K fd_reached_by ["links", "lot"] []:=D_reached_by.bindsN fun _ _ _ _ _ _ us hl=>match us,hl with | [_,_],_=>rfl
 have m_closed_lot:=He.glo_ok X G (c.fact 9 (f:=.glo "closed_lot") rfl)
 have b_closed_lot:Binds K fd_closed_lot ["sheet", "lot"] []:=D_closed_lot.bindsN fun _ _ _ _ _ _ us hl=>match us,hl with | [_,_],_=>rfl
 have m_lot_of:=He.glo_ok X G (c.fact 10 (f:=.glo "lot_of") rfl)
 have b_lot_of:Binds K fd_lot_of ["sheet", "name"] []:=D_lot_of.bindsN fun _ _ _ _ _ _ us hl=>match us,hl with | [_,_],_=>rfl
 have m_is_read_in:=He.glo_ok X G (c.fact 11 (f:=.glo "is_read_in") rfl)
 have b_is_read_in:Binds K fd_is_read_in ["sheet", "lot", "name"] []:=D_is_read_in.bindsN fun _ _ _ _ _ _ us hl=>match us,hl with | [_,_,_],_=>rfl
 have m_lacking:=He.glo_ok X G (c.fact 12 (f:=.glo "lacking") rfl)
 have b_lacking:Binds K fd_lacking ["sheet", "lot", "axis"] []:=D_lacking.bindsN fun _ _ _ _ _ _ us hl=>match us,hl with | [_,_,_],_=>rfl
 have m_stops_in:=He.glo_ok X G (c.fact 13 (f:=.glo "stops_in") rfl)
 have b_stops_in:Binds K fd_stops_in ["sheet", "lot", "axis", "may_again"] []:=D_stops_in.bindsN fun _ _ _ _ _ _ us hl=>match us,hl with | [_,_,_,_],_=>rfl
 have m_way_to:=He.glo_ok X G (c.fact 14 (f:=.glo "way_to") rfl)
 have b_way_to:Binds K fd_way_to ["sheet", "one", "other"] []:=D_way_to.bindsN fun _ _ _ _ _ _ us hl=>match us,hl with | [_,_,_],_=>rfl
 have m_ring_of_lots:=He.glo_ok X G (c.fact 15 (f:=.glo "ring_of_lots") rfl)
 have b_ring_of_lots:Binds K fd_ring_of_lots ["sheet", "one", "other"] []:=D_ring_of_lots.bindsN fun _ _ _ _ _ _ us hl=>match us,hl with | [_,_,_],_=>rfl
 have m__law_bag:=He.glo_ok X G (c.fact 16 (f:=.glo "_law_bag") rfl)
 have b__law_bag:Binds K fd__law_bag ["_law_script"] []:=D__law_bag.bindsN fun _ _ _ _ _ _ us hl=>match us,hl with | [_],_=>rfl
 have m__law_take:=He.glo_ok X G (c.fact 17 (f:=.glo "_law_take") rfl)
 have b__law_take:Binds K fd__law_take ["_law_bag_here", "_law_many"] []:=D__law_take.bindsN fun _ _ _ _ _ _ us hl=>match us,hl with | [_,_],_=>rfl
 have m__law_one:=He.glo_ok X G (c.fact 18 (f:=.glo "_law_one") rfl)
 have b__law_one:Binds K fd__law_one ["_law_bag_here", "_law_some_here"] []:=D__law_one.bindsN fun _ _ _ _ _ _ us hl=>match us,hl with | [_,_],_=>rfl
 have m__law_mixed:=He.glo_ok X G (c.fact 19 (f:=.glo "_law_mixed") rfl)
 have b__law_mixed:Binds K fd__law_mixed ["_law_bag_here", "_law_things"] []:=D__law_mixed.bindsN fun _ _ _ _ _ _ us hl=>match us,hl with | [_,_],_=>rfl
 have m__law_alike:=He.glo_ok X G (c.fact 20 (f:=.glo "_law_alike") rfl)
 have b__law_alike:Binds K fd__law_alike ["_law_found", "_law_due"] []:=D__law_alike.bindsN fun _ _ _ _ _ _ us hl=>match us,hl with | [_,_],_=>rfl
 have m__law_flat:=He.glo_ok X G (c.fact 21 (f:=.glo "_law_flat") rfl)
 have b__law_flat:Binds K fd__law_flat ["_law_rows"] []:=D__law_flat.bindsN fun _ _ _ _ _ _ us hl=>match us,hl with | [_],_=>rfl
 have m__law_some:=He.glo_ok X G (c.fact 22 (f:=.glo "_law_some") rfl)
 have b__law_some:Binds K fd__law_some ["_law_bag_here", "_law_things", "_law_most"] []:=D__law_some.bindsN fun _ _ _ _ _ _ us hl=>match us,hl with | [_,_,_],_=>rfl
 have m__law_drawn_reads:=He.glo_ok X G (c.fact 23 (f:=.glo "_law_drawn_reads") rfl)
 have b__law_drawn_reads:Binds K fd__law_drawn_reads ["_law_bag_here", "_law_inputs", "_law_sums", "_law_pairs_here"] []:=D__law_drawn_reads.bindsN fun _ _ _ _ _ _ us hl=>match us,hl with | [_,_,_,_],_=>rfl
 have m__law_drawn_own:=He.glo_ok X G (c.fact 24 (f:=.glo "_law_drawn_own") rfl)
 have b__law_drawn_own:Binds K fd__law_drawn_own ["_law_bag_here", "_law_inputs", "_law_sums", "_law_reads_here"] []:=D__law_drawn_own.bindsN fun _ _ _ _ _ _ us hl=>match us,hl with | [_,_,_,_],_=>rfl
 have m__law_sheet:=He.glo_ok X G (c.fact 25 (f:=.glo "_law_sheet") rfl)
 have b__law_sheet:Binds K fd__law_sheet ["_law_bag_here", "_law_most", "_law_wide"] []:=D__law_sheet.bindsN fun _ _ _ _ _ _ us hl=>match us,hl with | [_,_,_],_=>rfl
 have m__law_own:=He.glo_ok X G (c.fact 26 (f:=.glo "_law_own") rfl)
 have b__law_own:Binds K fd__law_own ["_law_sheet_here"] []:=D__law_own.bindsN fun _ _ _ _ _ _ us hl=>match us,hl with | [_],_=>rfl
 have m__law_names:=He.glo_ok X G (c.fact 27 (f:=.glo "_law_names") rfl)
 have b__law_names:Binds K fd__law_names ["_law_sheet_here"] []:=D__law_names.bindsN fun _ _ _ _ _ _ us hl=>match us,hl with | [_],_=>rfl
 have m__law_reads:=He.glo_ok X G (c.fact 28 (f:=.glo "_law_reads") rfl)
 have b__law_reads:Binds K fd__law_reads ["_law_sheet_here"] []:=D__law_reads.bindsN fun _ _ _ _ _ _ us hl=>match us,hl with | [_],_=>rfl
 have m__law_all_axes:=He.glo_ok X G (c.fact 29 (f:=.glo "_law_all_axes") rfl)
 have b__law_all_axes:Binds K fd__law_all_axes ["_law_sheet_here"] []:=D__law_all_axes.bindsN fun _ _ _ _ _ _ us hl=>match us,hl with | [_],_=>rfl
 have m__law_summed:=He.glo_ok X G (c.fact 30 (f:=.glo "_law_summed") rfl)
 have b__law_summed:Binds K fd__law_summed ["_law_sheet_here", "_law_name"] []:=D__law_summed.bindsN fun _ _ _ _ _ _ us hl=>match us,hl with | [_,_],_=>rfl
 have m__law_pairs:=He.glo_ok X G (c.fact 31 (f:=.glo "_law_pairs") rfl)
 have b__law_pairs:Binds K fd__law_pairs ["_law_sheet_here"] []:=D__law_pairs.bindsN fun _ _ _ _ _ _ us hl=>match us,hl with | [_],_=>rfl
 have m__law_readers:=He.glo_ok X G (c.fact 32 (f:=.glo "_law_readers") rfl)
 have b__law_readers:Binds K fd__law_readers ["_law_sheet_here", "_law_name"] []:=D__law_readers.bindsN fun _ _ _ _ _ _ us hl=>match us,hl with | [_,_],_=>rfl
 have m__law_below:=He.glo_ok X G (c.fact 33 (f:=.glo "_law_below") rfl)
 have b__law_below:Binds K fd__law_below ["_law_sheet_here", "_law_name"] []:=D__law_below.bindsN fun _ _ _ _ _ _ us hl=>match us,hl with | [_,_],_=>rfl
 have m__law_closed:=He.glo_ok X G (c.fact 34 (f:=.glo "_law_closed") rfl)
 have b__law_closed:Binds K fd__law_closed ["_law_sheet_here", "_law_lot"] []:=D__law_closed.bindsN fun _ _ _ _ _ _ us hl=>match us,hl with | [_,_],_=>rfl
 have m__law_lot_of:=He.glo_ok X G (c.fact 35 (f:=.glo "_law_lot_of") rfl)
 have b__law_lot_of:Binds K fd__law_lot_of ["_law_sheet_here", "_law_name"] []:=D__law_lot_of.bindsN fun _ _ _ _ _ _ us hl=>match us,hl with | [_,_],_=>rfl
 have m__law_stops:=He.glo_ok X G (c.fact 36 (f:=.glo "_law_stops") rfl)
 have b__law_stops:Binds K fd__law_stops ["_law_sheet_here", "_law_lot", "_law_axis", "_law_may"] []:=D__law_stops.bindsN fun _ _ _ _ _ _ us hl=>match us,hl with | [_,_,_,_],_=>rfl
 have m__law_leads:=He.glo_ok X G (c.fact 37 (f:=.glo "_law_leads") rfl)
 have b__law_leads:Binds K fd__law_leads ["_law_sheet_here", "_law_one_here", "_law_other"] []:=D__law_leads.bindsN fun _ _ _ _ _ _ us hl=>match us,hl with | [_,_,_],_=>rfl
 have m__law_rich_own:=He.glo_ok X G (c.fact 38 (f:=.glo "_law_rich_own") rfl)
 have b__law_rich_own:Binds K fd__law_rich_own ["_law_bag_here", "_law_inputs", "_law_sums", "_law_reads_here", "_law_rich"] []:=D__law_rich_own.bindsN fun _ _ _ _ _ _ us hl=>match us,hl with | [_,_,_,_,_],_=>rfl
 have m__law_web:=He.glo_ok X G (c.fact 39 (f:=.glo "_law_web") rfl)
 have b__law_web:Binds K fd__law_web ["_law_bag_here", "_law_web_here", "_law_wide", "_law_rich"] []:=D__law_web.bindsN fun _ _ _ _ _ _ us hl=>match us,hl with | [_,_,_,_],_=>rfl
 have m__law_is_way:=He.glo_ok X G (c.fact 40 (f:=.glo "_law_is_way") rfl)
 have b__law_is_way:Binds K fd__law_is_way ["_law_sheet_here", "_law_thing", "_law_one_here", "_law_other"] []:=D__law_is_way.bindsN fun _ _ _ _ _ _ us hl=>match us,hl with | [_,_,_,_],_=>rfl
 have m__law_bare:=He.glo_ok X G (c.fact 41 (f:=.glo "_law_bare") rfl)
 have b__law_bare:Binds K fd__law_bare ["_law_bag_here"] []:=D__law_bare.bindsN fun _ _ _ _ _ _ us hl=>match us,hl with | [_],_=>rfl
 have m__law_ring_wrong:=He.glo_ok X G (c.fact 42 (f:=.glo "_law_ring_wrong") rfl)
 have b__law_ring_wrong:Binds K fd__law_ring_wrong ["_law_sheet_here", "_law_one_here", "_law_other"] []:=D__law_ring_wrong.bindsN fun _ _ _ _ _ _ us hl=>match us,hl with | [_,_,_],_=>rfl
 have m__law_lots:=He.glo_ok X G (c.fact 43 (f:=.glo "_law_lots") rfl)
 have b__law_lots:Binds K fd__law_lots ["_law_bag_here", "_law_sheet_here"] []:=D__law_lots.bindsN fun _ _ _ _ _ _ us hl=>match us,hl with | [_,_],_=>rfl
 have m_law:=He.glo_ok X G (c.fact 44 (f:=.glo "law") rfl)
 have e_law:=hfa.symm.trans m_law
 cases e_law
 have bl:=FunD.bindsA (ps:=["_law_script"]) D_law fun _ _ _ _ _ _ us hl=>match us,hl with | [_],_=>rfl
 have g_abs:=He.free_ok X G (c.fact 45 (f:=.free "abs") rfl)
 have g_any:=He.free_ok X G (c.fact 46 (f:=.free "any") rfl)
 have g_dict:=He.free_ok X G (c.fact 47 (f:=.free "dict") rfl)
 have g_int:=He.free_ok X G (c.fact 48 (f:=.free "int") rfl)
 have g_isinstance:=He.free_ok X G (c.fact 49 (f:=.free "isinstance") rfl)
 have g_len:=He.free_ok X G (c.fact 50 (f:=.free "len") rfl)
 have g_list:=He.free_ok X G (c.fact 51 (f:=.free "list") rfl)
 have g_max:=He.free_ok X G (c.fact 52 (f:=.free "max") rfl)
 have g_range:=He.free_ok X G (c.fact 53 (f:=.free "range") rfl)
 have g_repr:=He.free_ok X G (c.fact 54 (f:=.free "repr") rfl)
 have g_set:=He.free_ok X G (c.fact 55 (f:=.free "set") rfl)
 have g_sorted:=He.free_ok X G (c.fact 56 (f:=.free "sorted") rfl)
 have g_str:=He.free_ok X G (c.fact 57 (f:=.free "str") rfl)
 have g_tuple:=He.free_ok X G (c.fact 58 (f:=.free "tuple") rfl)
 refine⟨fd_law,fun s v=>bl s [v] rfl,fun base _ _=>?_⟩
 have c_table_axes:Cal P w K mg base 1 "table_axes" ["sheet"] (spP 1 yU):=yk m_table_axes D_table_axes.kp b_table_axes (Ge (k:=0) (zW D_table_axes))
 have c_sums_by_name:Cal P w K mg base 1 "sums_by_name" ["sheet"] (spP 1 yt):=yk m_sums_by_name D_sums_by_name.kp b_sums_by_name (Zs (k:=0) (zW D_sums_by_name))
 have c_need_sum:Cal P w K mg base 2 "need_sum" ["sheet", "name"] (spP 2 JL):=yk m_need_sum D_need_sum.kp b_need_sum (abo (k:=1) (zW D_need_sum) (g_isinstance:=g_isinstance) (g_str:=g_str) (c_sums_by_name:=c_sums_by_name.mono (by omega)))
 have c_own_axes:Cal P w K mg base 2 "own_axes" ["sheet", "name"] (spP 2 jw):=yk m_own_axes D_own_axes.kp b_own_axes (abq (k:=1) (zW D_own_axes) (g_isinstance:=g_isinstance) (g_str:=g_str) (c_table_axes:=c_table_axes.mono (by omega)))
 have c_summed_axes:Cal P w K mg base 3 "summed_axes" ["sheet", "name"] (spP 2 y7):=yk m_summed_axes D_summed_axes.kp b_summed_axes (UV (k:=2) (zW D_summed_axes) (g_set:=g_set) (g_sorted:=g_sorted) (g_tuple:=g_tuple) (c_need_sum:=c_need_sum.mono (by omega)) (c_table_axes:=c_table_axes.mono (by omega)) (c_sums_by_name:=c_sums_by_name.mono (by omega)))
 have c_loops_of:Cal P w K mg base 4 "loops_of" ["sheet", "again", "name"] (spP 3 j5):=yk m_loops_of D_loops_of.kp b_loops_of (abr (k:=3) (zW D_loops_of) (g_set:=g_set) (g_sorted:=g_sorted) (g_tuple:=g_tuple) (c_summed_axes:=c_summed_axes.mono (by omega)) (c_own_axes:=c_own_axes.mono (by omega)))
 have c_meeting_pairs:Cal P w K mg base 2 "meeting_pairs" ["sheet"] (spP 1 wg):=yk m_meeting_pairs D_meeting_pairs.kp b_meeting_pairs (YB (k:=1) (zW D_meeting_pairs) (g_sorted:=g_sorted) (c_sums_by_name:=c_sums_by_name.mono (by omega)))
 have c_readers_of:Cal P w K mg base 3 "readers_of" ["sheet", "name"] (spP 2 yJ):=yk m_readers_of D_readers_of.kp b_readers_of (Gf (k:=2) (zW D_readers_of) (g_sorted:=g_sorted) (c_own_axes:=c_own_axes.mono (by omega)))
 have c_reached_by:Cal P w K mg base 1 "reached_by" ["links", "lot"] (spP 2 wY):=yk m_reached_by D_reached_by.kp b_reached_by (Gg (k:=0) (zW D_reached_by) (g_list:=g_list))
 have c_closed_lot:Cal P w K mg base 3 "closed_lot" ["sheet", "lot"] (spP 2 yd):=yk m_closed_lot D_closed_lot.kp b_closed_lot (Gh (k:=2) (zW D_closed_lot) (g_set:=g_set) (g_sorted:=g_sorted) (g_tuple:=g_tuple) (c_meeting_pairs:=c_meeting_pairs.mono (by omega)) (c_reached_by:=c_reached_by.mono (by omega)))
 have c_lot_of:Cal P w K mg base 4 "lot_of" ["sheet", "name"] (spP 2 Je):=yk m_lot_of D_lot_of.kp b_lot_of (aec (k:=3) (zW D_lot_of) (c_closed_lot:=c_closed_lot.mono (by omega)) (c_readers_of:=c_readers_of.mono (by omega)))
 have c_is_read_in:Cal P w K mg base 4 "is_read_in" ["sheet", "lot", "name"] (spP 3 wc):=yk m_is_read_in D_is_read_in.kp b_is_read_in (Gi (k:=3) (zW D_is_read_in) (g_any:=g_any) (c_readers_of:=c_readers_of.mono (by omega)))
 have c_lacking:Cal P w K mg base 5 "lacking" ["sheet", "lot", "axis"] (spP 3 Ju):=yk m_lacking D_lacking.kp b_lacking (acv (k:=4) (zW D_lacking) (c_loops_of:=c_loops_of.mono (by omega)))
 have c_stops_in:Cal P w K mg base 6 "stops_in" ["sheet", "lot", "axis", "may_again"] (spP 4 wI):=yk m_stops_in D_stops_in.kp b_stops_in (abt (k:=5) (zW D_stops_in) (g_sorted:=g_sorted) (g_tuple:=g_tuple) (c_summed_axes:=c_summed_axes.mono (by omega)) (c_is_read_in:=c_is_read_in.mono (by omega)) (c_lacking:=c_lacking.mono (by omega)))
 have c_way_to:Cal P w K mg base 4 "way_to" ["sheet", "one", "other"] (spP 3 Qr):=yk m_way_to D_way_to.kp b_way_to (aed (k:=3) (zW D_way_to) (c_readers_of:=c_readers_of.mono (by omega)))
 have c_ring_of_lots:Cal P w K mg base 5 "ring_of_lots" ["sheet", "one", "other"] (spP 3 yF):=yk m_ring_of_lots D_ring_of_lots.kp b_ring_of_lots (Zt (k:=4) (zW D_ring_of_lots) (c_way_to:=c_way_to.mono (by omega)))
 have c__law_bag:Cal P w K mg base 1 "_law_bag" ["_law_script"] (YO K):=yk m__law_bag D__law_bag.kp b__law_bag (abv (k:=0) (zW D__law_bag) (g_abs:=g_abs))
 have c__law_take:Cal P w K mg base 1 "_law_take" ["_law_bag_here", "_law_many"] (spB 2 zm):=yk m__law_take D__law_take.kp b__law_take (aaa (k:=0) (zW D__law_take) (g_int:=g_int))
 have c__law_one:Cal P w K mg base 2 "_law_one" ["_law_bag_here", "_law_some_here"] (spB 2 zO):=yk m__law_one D__law_one.kp b__law_one (aby (k:=1) (zW D__law_one) (g_len:=g_len) (c__law_take:=c__law_take.mono (by omega)))
 have c__law_mixed:Cal P w K mg base 2 "_law_mixed" ["_law_bag_here", "_law_things"] (spB 2 zC):=yk m__law_mixed D__law_mixed.kp b__law_mixed (Gj (k:=1) (zW D__law_mixed) (g_len:=g_len) (c__law_take:=c__law_take.mono (by omega)))
 have c__law_alike:Cal P w K mg base 1 "_law_alike" ["_law_found", "_law_due"] (spP 2 zQ):=yk m__law_alike D__law_alike.kp b__law_alike (Gm (k:=0) (zW D__law_alike) (g_repr:=g_repr))
 have c__law_flat:Cal P w K mg base 1 "_law_flat" ["_law_rows"] (spP 1 yl):=yk m__law_flat D__law_flat.kp b__law_flat (aad (k:=0) (zW D__law_flat))
 have c__law_some:Cal P w K mg base 3 "_law_some" ["_law_bag_here", "_law_things", "_law_most"] (spB 3 yx):=yk m__law_some D__law_some.kp b__law_some (aae (k:=2) (zW D__law_some) (g_sorted:=g_sorted) (g_tuple:=g_tuple) (c__law_mixed:=c__law_mixed.mono (by omega)) (c__law_take:=c__law_take.mono (by omega)))
 have c__law_drawn_reads:Cal P w K mg base 3 "_law_drawn_reads" ["_law_bag_here", "_law_inputs", "_law_sums", "_law_pairs_here"] (spB 4 yy):=yk m__law_drawn_reads D__law_drawn_reads.kp b__law_drawn_reads (V8 (k:=2) (zW D__law_drawn_reads) (g_len:=g_len) (g_max:=g_max) (g_sorted:=g_sorted) (g_tuple:=g_tuple) (c__law_one:=c__law_one.mono (by omega)) (c__law_take:=c__law_take.mono (by omega)) (c__law_mixed:=c__law_mixed.mono (by omega)))
 have c__law_drawn_own:Cal P w K mg base 2 "_law_drawn_own" ["_law_bag_here", "_law_inputs", "_law_sums", "_law_reads_here"] (spB 4 yN):=yk m__law_drawn_own D__law_drawn_own.kp b__law_drawn_own (X7 (k:=1) (zW D__law_drawn_own) (g_set:=g_set) (g_sorted:=g_sorted) (g_tuple:=g_tuple) (c__law_flat:=c__law_flat.mono (by omega)) (c__law_take:=c__law_take.mono (by omega)))
 have c__law_sheet:Cal P w K mg base 4 "_law_sheet" ["_law_bag_here", "_law_most", "_law_wide"] (spB 3 vj):=yk m__law_sheet D__law_sheet.kp b__law_sheet (Gn (k:=3) (zW D__law_sheet) (g_len:=g_len) (g_max:=g_max) (g_range:=g_range) (g_sorted:=g_sorted) (g_tuple:=g_tuple) (c__law_mixed:=c__law_mixed.mono (by omega)) (c__law_one:=c__law_one.mono (by omega)) (c__law_take:=c__law_take.mono (by omega)) (c__law_some:=c__law_some.mono (by omega)) (c__law_drawn_reads:=c__law_drawn_reads.mono (by omega)) (c__law_drawn_own:=c__law_drawn_own.mono (by omega)) (c__law_flat:=c__law_flat.mono (by omega)))
 have c__law_own:Cal P w K mg base 1 "_law_own" ["_law_sheet_here"] (spP 1 jx):=yk m__law_own D__law_own.kp b__law_own (abA (k:=0) (zW D__law_own) (g_dict:=g_dict))
 have c__law_names:Cal P w K mg base 1 "_law_names" ["_law_sheet_here"] (spP 1 ye):=yk m__law_names D__law_names.kp b__law_names (Go (k:=0) (zW D__law_names))
 have c__law_reads:Cal P w K mg base 1 "_law_reads" ["_law_sheet_here"] (spP 1 wd):=yk m__law_reads D__law_reads.kp b__law_reads (Gp (k:=0) (zW D__law_reads) (g_dict:=g_dict))
 have c__law_all_axes:Cal P w K mg base 2 "_law_all_axes" ["_law_sheet_here"] (spP 1 yV):=yk m__law_all_axes D__law_all_axes.kp b__law_all_axes (YC (k:=1) (zW D__law_all_axes) (g_set:=g_set) (g_sorted:=g_sorted) (g_tuple:=g_tuple) (c__law_flat:=c__law_flat.mono (by omega)))
 have c__law_summed:Cal P w K mg base 2 "_law_summed" ["_law_sheet_here", "_law_name"] (spP 2 wj):=yk m__law_summed D__law_summed.kp b__law_summed (U1 (k:=1) (zW D__law_summed) (g_set:=g_set) (g_sorted:=g_sorted) (g_tuple:=g_tuple) (c__law_own:=c__law_own.mono (by omega)) (c__law_reads:=c__law_reads.mono (by omega)) (c__law_flat:=c__law_flat.mono (by omega)))
 have c__law_pairs:Cal P w K mg base 2 "_law_pairs" ["_law_sheet_here"] (spP 1 vI):=yk m__law_pairs D__law_pairs.kp b__law_pairs (Gq (k:=1) (zW D__law_pairs) (g_sorted:=g_sorted) (c__law_names:=c__law_names.mono (by omega)))
 have c__law_readers:Cal P w K mg base 1 "_law_readers" ["_law_sheet_here", "_law_name"] (spP 2 yG):=yk m__law_readers D__law_readers.kp b__law_readers (Zu (k:=0) (zW D__law_readers) (g_sorted:=g_sorted))
 have c__law_below:Cal P w K mg base 2 "_law_below" ["_law_sheet_here", "_law_name"] (spP 2 yK):=yk m__law_below D__law_below.kp b__law_below (Gr (k:=1) (zW D__law_below) (c__law_reads:=c__law_reads.mono (by omega)) (c__law_names:=c__law_names.mono (by omega)))
 have c__law_closed:Cal P w K mg base 3 "_law_closed" ["_law_sheet_here", "_law_lot"] (spP 2 z6):=yk m__law_closed D__law_closed.kp b__law_closed (U2 (k:=2) (zW D__law_closed) (g_dict:=g_dict) (g_sorted:=g_sorted) (g_tuple:=g_tuple) (c__law_names:=c__law_names.mono (by omega)) (c__law_below:=c__law_below.mono (by omega)))
 have c__law_lot_of:Cal P w K mg base 4 "_law_lot_of" ["_law_sheet_here", "_law_name"] (spP 2 yH):=yk m__law_lot_of D__law_lot_of.kp b__law_lot_of (U4 (k:=3) (zW D__law_lot_of) (c__law_closed:=c__law_closed.mono (by omega)) (c__law_readers:=c__law_readers.mono (by omega)))
 have c__law_stops:Cal P w K mg base 3 "_law_stops" ["_law_sheet_here", "_law_lot", "_law_axis", "_law_may"] (spP 4 vJ):=yk m__law_stops D__law_stops.kp b__law_stops (Gt (k:=2) (zW D__law_stops) (g_sorted:=g_sorted) (g_tuple:=g_tuple) (c__law_own:=c__law_own.mono (by omega)) (c__law_summed:=c__law_summed.mono (by omega)) (c__law_readers:=c__law_readers.mono (by omega)))
 have c__law_leads:Cal P w K mg base 3 "_law_leads" ["_law_sheet_here", "_law_one_here", "_law_other"] (spP 3 yL):=yk m__law_leads D__law_leads.kp b__law_leads (Gu (k:=2) (zW D__law_leads) (c__law_below:=c__law_below.mono (by omega)))
 have c__law_rich_own:Cal P w K mg base 2 "_law_rich_own" ["_law_bag_here", "_law_inputs", "_law_sums", "_law_reads_here", "_law_rich"] (spB 5 vc):=yk m__law_rich_own D__law_rich_own.kp b__law_rich_own (YD (k:=1) (zW D__law_rich_own) (g_set:=g_set) (g_sorted:=g_sorted) (g_tuple:=g_tuple) (c__law_flat:=c__law_flat.mono (by omega)) (c__law_take:=c__law_take.mono (by omega)))
 have c__law_web:Cal P w K mg base 4 "_law_web" ["_law_bag_here", "_law_web_here", "_law_wide", "_law_rich"] (spB 4 we):=yk m__law_web D__law_web.kp b__law_web (abB (k:=3) (zW D__law_web) (g_range:=g_range) (g_sorted:=g_sorted) (g_tuple:=g_tuple) (c__law_mixed:=c__law_mixed.mono (by omega)) (c__law_one:=c__law_one.mono (by omega)) (c__law_take:=c__law_take.mono (by omega)) (c__law_some:=c__law_some.mono (by omega)) (c__law_rich_own:=c__law_rich_own.mono (by omega)) (c__law_flat:=c__law_flat.mono (by omega)))
 have c__law_is_way:Cal P w K mg base 3 "_law_is_way" ["_law_sheet_here", "_law_thing", "_law_one_here", "_law_other"] (spP 4 vn):=yk m__law_is_way D__law_is_way.kp b__law_is_way (U5 (k:=2) (zW D__law_is_way) (g_isinstance:=g_isinstance) (g_len:=g_len) (g_list:=g_list) (g_range:=g_range) (c__law_pairs:=c__law_pairs.mono (by omega)))
 have c__law_bare:Cal P w K mg base 3 "_law_bare" ["_law_bag_here"] (spB 1 vY):=yk m__law_bare D__law_bare.kp b__law_bare (aaf (k:=2) (zW D__law_bare) (g_dict:=g_dict) (g_tuple:=g_tuple) (c__law_mixed:=c__law_mixed.mono (by omega)) (c__law_take:=c__law_take.mono (by omega)))
 have c__law_ring_wrong:Cal P w K mg base 6 "_law_ring_wrong" ["_law_sheet_here", "_law_one_here", "_law_other"] (spP 3 yv):=yk m__law_ring_wrong D__law_ring_wrong.kp b__law_ring_wrong (WY (k:=5) (zW D__law_ring_wrong) (g_isinstance:=g_isinstance) (g_len:=g_len) (g_repr:=g_repr) (g_tuple:=g_tuple) (c__law_leads:=c__law_leads.mono (by omega)) (c_ring_of_lots:=c_ring_of_lots.mono (by omega)) (c__law_is_way:=c__law_is_way.mono (by omega)))
 have c__law_lots:Cal P w K mg base 5 "_law_lots" ["_law_bag_here", "_law_sheet_here"] (spB 2 vZ):=yk m__law_lots D__law_lots.kp b__law_lots (aag (k:=4) (zW D__law_lots) (g_range:=g_range) (c__law_names:=c__law_names.mono (by omega)) (c__law_mixed:=c__law_mixed.mono (by omega)) (c__law_lot_of:=c__law_lot_of.mono (by omega)) (c__law_some:=c__law_some.mono (by omega)))
 exact(agu (k:=6) (zW D_law) (g_range:=g_range) (c__law_bag:=c__law_bag.mono (by omega)) (c__law_take:=c__law_take.mono (by omega)) (c__law_alike:=c__law_alike.mono (by omega)) (c_closed_lot:=c_closed_lot.mono (by omega)) (c__law_bare:=c__law_bare.mono (by omega)) (c__law_sheet:=c__law_sheet.mono (by omega)) (c__law_web:=c__law_web.mono (by omega)) (c__law_one:=c__law_one.mono (by omega)) (c__law_names:=c__law_names.mono (by omega)) (c__law_lot_of:=c__law_lot_of.mono (by omega)) (c_lot_of:=c_lot_of.mono (by omega)) (c__law_lots:=c__law_lots.mono (by omega)) (c__law_closed:=c__law_closed.mono (by omega)) (c__law_mixed:=c__law_mixed.mono (by omega)) (c__law_all_axes:=c__law_all_axes.mono (by omega)) (c__law_stops:=c__law_stops.mono (by omega)) (c_stops_in:=c_stops_in.mono (by omega)) (c__law_ring_wrong:=c__law_ring_wrong.mono (by omega))).mono (by decide)
end KP
open PySem PySem.W PySem.Calls PyProof.Rows
theorem KP.join_law(pure_:∀ns:List Int,ns.length≤63→(∀z∈ns,Builtin.Int.intBits z≤1048576)→∃g,KP.B_law (KP.lawE 14 ns) .none=some (.rt (.bool true) g)):PySem.Challenge.rw_keptalong_k52_lots_closed_under_ways.Holds:=by
 w_on;o_law
 refine HandSHeadRun.head_any (r:=OpenLaw.row PySem.Challenge.rw_keptalong_k52_lots_closed_under_ways) (q:=view (OpenLaw.row PySem.Challenge.rw_keptalong_k52_lots_closed_under_ways).prog [50]) (H:=KP.hk_) (ob:=KP.ob_) (M:=4000) (loose:=KP.loose_) (d:=HandSHeadRun.topDef (OpenLaw.row PySem.Challenge.rw_keptalong_k52_lots_closed_under_ways).prog 50) (kwd:=[]) KP.ob_eq_
  (by kernel_rfl) (fun s=>by kernel_rfl) KP.run_ (by kernel_rfl) (by kernel_rfl) (by kernel_rfl) (by rfl) (by first | assumption | decide +kernel) (by decide +kernel) ⟨rfl,rfl,rfl,rfl,rfl,by decide +kernel⟩ ?hw ?hc
 case hw=>w_witness2
 case hc =>
  refine KP.walk_ofEG (l:=PySem.Challenge.rw_keptalong_k52_lots_closed_under_ways) (n:=63) (k:=60) (x := "_law_script") rfl (by decide) (by kernel_rfl) ⟨rfl,by decide,by decide⟩ ?F
  intro w mg fa h Y G hmg0
  obtain⟨K,KX,c⟩:=Y
  have hmg:mg ("law" : PySem.Str)=some (.ref fa):=by
   have e:(HandSHeadRun.topDef (OpenLaw.row PySem.Challenge.rw_keptalong_k52_lots_closed_under_ways).prog 50).name=("law" : PySem.Str):=by kernel_rfl
   rw[←e]
   exact hmg0
  letI:KP.TheW:=KP.theW (PySem.Challenge.rw_keptalong_k52_lots_closed_under_ways).prog w
  haveI:KP.Tied (PySem.Challenge.rw_keptalong_k52_lots_closed_under_ways).prog w:=KP.tied_the
  obtain⟨fd,hb,hF⟩:=KP.facts_ (P:=(PySem.Challenge.rw_keptalong_k52_lots_closed_under_ways).prog) (w:=w) KX G hmg c
  exact⟨K,fd,KP.spLaw K 14 KP.B_law,KX,hb,fun H a ns hl hbits hS=>⟨a,ns,rfl,hS,hl,pure_ ns hl hbits,fun _=>rfl⟩,hF⟩
theorem PySem.Challenge.cw_keptalong_k52_lots_closed_under_ways_holds : PySem.Challenge.rw_keptalong_k52_lots_closed_under_ways.Holds :=
 KP.join_law fun ns hl _=>KP.pure52 ns hl
