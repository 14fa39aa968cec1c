import PyProof.Rows.All
import Wide.All
import OpenK.AllK
import Wide.FinOn
import HandS.ForMost
import HandS.ForExc
import HandS.Wide
import HandS.TupAny
import HandS.FStr
import HandS.Defaults
import HandS.CallSlots
import HandS.Walk
import HandS.HeadHook1
import HandS.HeadHook2
import KE.KSuper
import KE.KExcSuper
import HandS.Exc
import HandS.ExcInit
import HandS.ExcSuper
import HandS.ExcIs
import KE.KIsAll
import HandS.ExcField
import HandS.TryMany
import HandS.Words
import HandS.WordsExc
import HandS.ClsMeth
import HandS.HeadHook3
import HandS.HeadHook4
import HandS.HeadNt
import HandS.Head2
import HandS.Style
import HandS.RaiseMore
import KE.KDictZip
import HandS.Zip
import HandS.Zip0
import HandS.Dict
import HandS.Comp
import HandS.IsInst
import HandS.OwnEq
import KE.KFmtOwn
import KE.KLam
import HandS.Ends
import HandS.Lambda
import HandS.EndBits
import HandS.EndTab
import HandS.HeadWalk
import PyProof.ReprRoads
import KE.KRevSl
import KE.KOpsOwn
import HandS.Strs
import HandS.Conv
import HandS.SortInts
import HandS.DictComp
import HandS.Set
import HandS.SetFor
import HandS.Text
import PyProof.Rows.StrRev
import KE.GoesMore
import HandS.Deep
import HandS.Iter
import HandS.ListItems
import HandS.Property
import HandS.Star
import HandS.Small
import HandS.StrMore
import HandS.ListEq
import PyProof.P3In
import PyProof.EqAt
import PyProof.EqKinds
import PyProof.TupleCall
import PyProof.DictCompW
import PyProof.DictUpdate
import KE.KEqDict
import HandS.Base
import HandS.Call
import HandS.List
import HandS.More
import PyProof.StrLawsChain
import KE.KStateDown
import HandS.SetKeys
import HandS.Head0
import HandS.Head1
import HandS.HeadEnd
import HandS.TryOnly
import PySem.Challenge.RW_edgejumps_k40_sayings_read
set_option Elab.async false
set_option linter.all false
set_option maxRecDepth 100000
set_option maxHeartbeats 0
abbrev Kf:=PySem.W.Frag
def z8:=@List.length_map
def z9:=@List.getElem?_eq_getElem
def z10:=@List.getElem?_map
def z11:=@List.mem_of_getElem?
def z12:=@List.mem_append_right
def z13:=@List.not_mem_nil
def z14:=@List.getD_eq_getElem?_getD
def z15:=@PySem.Str.length_append
def z16:=@List.map_append
def z17:=@List.length_append
def z18:=@List.mem_append_left
def z19:=@List.append_assoc
def z20:=@List.idxOf_lt_length_of_mem
def z21:=@PySem.Heap.get?_push_of_some
def z22:=@List.length_take
def z23:=@List.mem_cons_of_mem
def z24:=@Nat.lt_of_lt_of_le
def z25:=@List.getElem?_eq_none
def z26:=@List.append_nil
def z27:=@List.length_cons
def z28:=@List.getElem?_append_left
def z29:=@List.getElem?_append_right
def z30:=@Option.map_eq_some_iff
def z31:=@List.mem_cons_self
def z32:=@List.mem_singleton
def z33:=@Option.some.inj
def z34:=@Nat.le_refl
def z35:=@Nat.zero_le
def z36:=@List.mem_append
def z37:=@List.mem_map
namespace Eb
open PySem PySem.Spec PyProof.Rows L2
section
variable {X:Cx}
theorem PE.imp {e:Expr} {t t':TE} (h:PE X e t) (k:∀σ H Q,t' σ H Q→t σ H Q):PE X e t':=⟨fun pins s σ H Q I q=>h.run pins s σ H Q I (k σ H Q q)⟩
theorem PT.imp {e:Expr} {t t':TT} (h:PT X e t) (k:∀σ H Q,t' σ H Q→t σ H Q):PT X e t':=⟨fun pins s σ H Q I q=>h.run pins s σ H Q I (k σ H Q q)⟩
theorem PS.imp {e:Stmt} {t t':TS} (h:PS X e t) (k:∀D σ H,t' D σ H→t D σ H):PS X e t':=⟨fun pins s σ H D I q=>h.run pins s σ H D I (k D σ H q)⟩
theorem OpR.imp {f:Value→Value→Sem Value} {r r':R2} (h:OpR X f r) (k:∀x y H Q,r' x y H Q→r x y H Q):OpR X f r':=fun pins s σ H x y v u Q I rx ry q=>h pins s σ H x y v u Q I rx ry (k x y H Q q)
theorem CallR.imp {f:Value} {r r':List V→Hp→VK→Prop} (h:CallR X f r) (k:∀xs H Q,r' xs H Q→r xs H Q):CallR X f r':=fun pins s σ H xs us Q I rx q=>h pins s σ H xs us Q I rx (k xs H Q q)
theorem MtR.imp {id:String} {r r':V→List V→Hp→VK→Prop} (h:MtR X id r) (k:∀x xs H Q,r' x xs H Q→r x xs H Q):MtR X id r':=fun pins s σ H x xs v us Q I rx rxs q=>h pins s σ H x xs v us Q I rx rxs (k x xs H Q q)
theorem IxR.imp {r r':R2} (h:IxR X r) (k:∀x y H Q,r' x y H Q→r x y H Q):IxR X r':=fun value slice pins s σ H x y v u Q I rx ry q hs=>h value slice pins s σ H x y v u Q I rx ry (k x y H Q q) hs
end
def yVar (i:Nat):TE:=fun σ H Q=>match σ[i]? with
 |some (some v)=>Q v H
 |_=>False
@[irreducible] def yBr (b:Bool) (A B:Prop):Prop:=if b=true then A else B
theorem yBr_def {b:Bool} {A B:Prop}:yBr b A B=(if b=true then A else B):=by unfold yBr;rfl
theorem br {b:Bool} {A B:Prop} (h1:b=true→A) (h2:b=false→B):yBr b A B:=by
 rw[yBr_def]
 cases b with
 |true=>exact h1 rfl
 |false=>exact h2 rfl
theorem brF {b:Bool} {A B:Prop} (e:b=false) (h:B):yBr b A B:=br (fun z=>by rw[e] at z;cases z) fun _=>h
theorem brD {p:Prop} [Decidable p] {A B:Prop} (h1:p→A) (h2: ¬p→B):yBr (decide p) A B:=br (fun z=>h1 (of_decide_eq_true z)) fun z=>h2 (of_decide_eq_false z)
def zAdd:R2:=fun x y H Q=>match x,y with
 | .int i,.int j=>Q (.int (i+j)) H
 | .str a,.str b=>a.length+b.length≤sizeLine∧Q (.str (a++b)) H
 |_,_=>False
def zSub:R2:=fun x y H Q=>match x,y with
 | .int i,.int j=>Q (.int (i-j)) H
 |_,_=>False
def zCatL:R2:=fun x y H Q=>match x,y with
 | .ref a,.ref b=>∃xs zs,H a=some (.lst xs)∧H b=some (.lst zs)∧xs.length+zs.length≤sizeLine∧∀p,H p=none→Q (.ref p) (upd H p (.lst (xs++zs)))
 |_,_=>False
def zRepL:R2:=fun x y H Q=>match x,y with
 | .ref l,.int k=>∃xs,H l=some (.lst xs)∧ -(2^63)≤k∧k<2^63∧xs.length*k.toNat≤sizeLine∧∀p,H p=none→Q (.ref p) (upd H p (.lst (List.replicate k.toNat xs).flatten))
 |_,_=>False
def sEq:V→V→Option Bool
 | .int i,.int j=>some (decide (i=j))
 | .str i,.str j=>some (decide (i=j))
 | .bl i,.bl j=>some (decide (i=j))
 | .non,.non=>some true
 | .non,.int _=>some false
 | .int _,.non=>some false
 | .non,.bl _=>some false
 | .bl _,.non=>some false
 | .non,.str _=>some false
 | .str _,.non=>some false
 | .int _,.str _=>some false
 | .str _,.int _=>some false
 | .bl _,.str _=>some false
 | .str _,.bl _=>some false
 |_,_=>none
def zEq:R2:=fun x y H Q=>match sEq x y with
 |some b=>Q (.bl b) H
 |none=>False
def zNe:R2:=fun x y H Q=>match sEq x y with
 |some b=>Q (.bl (!b)) H
 |none=>False
def zNeD (K:Kf):R2:=fun x y H Q=>∃d e,Dp K H x d∧Dp K H y e∧SeqAt.shaped d=true∧SeqAt.shaped e=true∧Q (.bl (!PyData.eqv d e)) H
def zGt:R2:=fun x y H Q=>match x,y with
 | .int i,.int j=>Q (.bl (decide (j<i))) H
 |_,_=>False
def zIn (K:Kf) (neg:Bool):R2:=fun x y H Q=>match y with
 | .ref p=>∃xs,(SqL K H p xs∨SqT K H p xs)∧flatV x=true∧xs.all flatV=true∧Q (.bl (if neg then !inV x xs else inV x xs)) H
 | .str z=>(match x with
   | .str c=>∃n:Nat,c=⟨#[n]⟩∧Q (.bl (if neg then !decide (n∈z.cps.toList) else decide (n∈z.cps.toList))) H
   |_=>False)
 |_=>False
def zNeg:V→Hp→VK→Prop:=fun x H Q=>match x with
 | .int i=>Q (.int (-i)) H
 |_=>False
section
variable {X:Cx}
theorem i2 {r:R2} {P:V→V→Hp→VK→Prop} (h:∀i j H Q,r (.int i) (.int j) H Q→P (.int i) (.int j) H Q) (hn:∀x y H Q,r x y H Q→∃i j,x= .int i∧y= .int j):∀x y H Q,r x y H Q→P x y H Q:=fun x y H Q q=>by
 obtain⟨i,j,rfl,rfl⟩:=hn x y H Q q
 exact h i j H Q q
end
def upE (t:TE):TE:=fun σ H Q=>∃Q0:VK,t σ H Q0∧∀v H',Q0 v H'→Q v H'
def upT (t:TT):TT:=fun σ H Q=>∃Q0:Bool→Hp→Prop,t σ H Q0∧∀v H',Q0 v H'→Q v H'
def upA (t:TA):TA:=fun σ H Q=>∃Q0:List V→Hp→Prop,t σ H Q0∧∀v H',Q0 v H'→Q v H'
section
variable {X:Cx}
theorem PE.up {e:Expr} {t:TE} (h:PE X e t):PE X e (upE t):=⟨fun pins s σ H Q I ⟨Q0,q,k⟩=>thn (h.run pins s σ H Q0 I q) fun u s1 ⟨v,H',I',r,q'⟩=>⟨v,H',I',r,k v H' q'⟩⟩
theorem PT.up {e:Expr} {t:TT} (h:PT X e t):PT X e (upT t):=⟨fun pins s σ H Q I ⟨Q0,q,k⟩=>thn (h.run pins s σ H Q0 I q) fun u s1 ⟨H',I',q'⟩=>⟨H',I',k u H' q'⟩⟩
theorem PA.up {e:List Expr} {t:TA} (h:PA X e t):PA X e (upA t):=⟨fun pos pins s σ H Q I ⟨Q0,q,k⟩=>thn (h.run pos pins s σ H Q0 I q) fun u s1 ⟨v,H',I',r,q'⟩=>⟨v,H',I',r,k v H' q'⟩⟩
def upR (r:R2):R2:=fun x y H Q=>∃Q0:VK,r x y H Q0∧∀v H',Q0 v H'→Q v H'
theorem OpR.up {X:Cx} {f:Value→Value→Sem Value} {r:R2} (h:OpR X f r):OpR X f (upR r):=fun pins s σ H x y v u Q I rx ry ⟨Q0,q,k⟩=>thn (h pins s σ H x y v u Q0 I rx ry q) fun _ s1 ⟨v,H',I',r,q'⟩=>⟨v,H',I',r,k v H' q'⟩
end
def yTst (t:TE):TT:=fun σ H Q=>t σ H fun x H1=>match x with
 | .bl c=>Q c H1
 |_=>False
def yOr (t u:TT):TT:=fun σ H Q=>t σ H fun c H1=>yBr c (Q true H1) (u σ H1 Q)
def yNot (t:TT):TT:=fun σ H Q=>t σ H fun c H1=>Q (!c) H1
def yIfE (t:TT) (ta tb:TE):TE:=fun σ H Q=>t σ H fun c H1=>yBr c (ta σ H1 Q) (tb σ H1 Q)
def yIf (t:TT) (a b:TS):TS:=fun D σ H=>t σ H fun c H1=>yBr c (a D σ H1) (b D σ H1)
def zIxL (K:Kf):R2:=fun x y H Q=>match x,y with
 | .ref p,.int i=>∃xs v,(SqL K H p xs∨SqT K H p xs)∧atI xs i=some v∧Q v H
 | .str z,.int i=>z.length≤sizeLine∧∃c,atI z.cps.toList i=some c∧Q (.str ⟨#[c]⟩) H
 |_,_=>False
def yDGet (td ty:TE):TE:=fun σ H Q=>td σ H fun x H1=>ty σ H1 fun y H2=>match x,y with
 | .ref a,.str k=>∃kvs v,Rd H2 a (.dK kvs)∧valV kvs (Sum.inr k)=some v∧Q v H2
 | .ref a,.int k=>∃kvs v,Rd H2 a (.dK kvs)∧valV kvs (Sum.inl k)=some v∧Q v H2
 |_,_=>False
def isC (K:Kf):List Str→Addr→Prop
 |[],_=>False
 |[x],C=>C=He.ga K x
 |x::r,C=>C=He.ga K x∨isC K r C
def yFld (P:Addr→Prop) (ta:TE) (f:Str):TE:=fun σ H Q=>ta σ H fun x H1=>match x with
 | .ref a=>∃C dx fs v,H1 a=some (.ins C dx fs)∧P C∧fs.lookup f=some v∧Q v H1
 |_=>False
abbrev Rsrc:=Nat→(Hp→Prop)→(Nat→Hp→V→Hp→Prop)→Hp→Prop
abbrev Src:=L2.St→Hp→Rsrc→Prop
def yFor (src:Src) (g:TG) (tb:TS):TS:=fun D σ H=>src σ H fun n G Y H1=>∃Pv:Nat→L2.St→Hp→Prop,Pv 0 σ H1∧(∀i σ H,i≤n→Pv i σ H→G H)∧
 (∀i x σ H H',i<n→Pv i σ H→Y i H x H'→g x σ H' fun σ2 H2=>tb {D with nx:=Pv (i+1),ct:=Pv (i+1),bk:=D.nx} σ2 H2)∧∀σ H,Pv n σ H→D.nx σ H
def yLc (src:Src) (g:TG) (tt:TT) (te:TE) (vs:List Nat):TE:=fun σ H Q=>src σ H fun n G Y H1=>∀D,H1 D=none→∃Pv:Nat→List V→Hp→Prop,Pv 0 [] (upd H1 D (.lst []))∧(∀i acc H,i≤n→Pv i acc H→G H∧H D=some (.lst acc)∧acc.length<sizeLine)∧
 (∀i x acc H H',i<n→Pv i acc H→Y i H x H'→g x (wipe σ vs) H' fun σ2 H2=>wipe σ2 vs=wipe σ vs∧tt σ2 H2 fun b H3=>
    yBr b (te σ2 H3 fun y H4=>H4 D=some (.lst acc)∧Pv (i+1) (acc++ [y]) (upd H4 D (.lst (acc++ [y])))) (Pv (i+1) acc H3))∧∀acc H,Pv n acc H→Q (.ref D) H
def jRng (tl:TE):Src:=fun σ H R=>tl σ H fun x H1=>match x with
 | .int j=> -(2^62)≤j∧j<2^62∧R j.toNat (fun _=>True) (YFn fun i=> .int (0+(i:Nat))) H1
 |_=>False
theorem PTs.up {X:Cx} {ifs:List Expr} {t:TT} (h:PTs X ifs t):PTs X ifs (upT t):=⟨fun pins s σ H Q I ⟨Q0,q,k⟩=>thn (h.run pins s σ H Q0 I q) fun u s1 ⟨H',I',q'⟩=>⟨H',I',k u H' q'⟩⟩
def upG (g:TG):TG:=fun v σ H Q=>∃Q0:L2.St→Hp→Prop,g v σ H Q0∧∀σ' H',Q0 σ' H'→Q σ' H'
theorem PG.up {X:Cx} {tg:Expr} {g:TG} (h:PG X tg g):PG X tg (upG g):=⟨fun pins s σ H v u Q I r ⟨Q0,q,k⟩=>thn (h.run pins s σ H v u Q0 I r q) fun _ s1 ⟨σ',H',I',q'⟩=>⟨σ',H',I',k σ' H' q'⟩⟩
def zInt:List V→Hp→VK→Prop:=fun xs H Q=>match xs with
 |[.int i]=>Q (.int i) H
 |[.bl k]=>Q (.int (if k then 1 else 0)) H
 |_=>False
def zLen (K:Kf):List V→Hp→VK→Prop:=fun xs H Q=>match xs with
 |[.ref p]=>∃ys,(SqL K H p ys∨SqT K H p ys)∧Q (.int ys.length) H
 |[.str z]=>z.length≤sizeLine∧Q (.int z.length) H
 |_=>False
def zList (K:Kf):List V→Hp→VK→Prop:=fun xs H Q=>match xs with
 |[.ref p]=>∃ys,(SqL K H p ys∨SqT K H p ys)∧∀l,H l=none→Q (.ref l) (upd H l (.lst ys))
 |_=>False
def zTuple (K:Kf):List V→Hp→VK→Prop:=fun xs H Q=>match xs with
 |[.ref p]=>∃ys,(SqL K H p ys∧∀l,H l=none→Q (.ref l) (upd H l (.tup ys)))∨(SqT K H p ys∧Q (.ref p) H)
 |_=>False
def zSplit:V→List V→Hp→VK→Prop:=fun x xs H Q=>match x,xs with
 | .str a,[.str b]=>(b.length==0)=false∧a.length+2≤sizeLine∧∀p,H p=none→Q (.ref p) (upd H p (.lst ((Txt.split a b).map V.str)))
 |_,_=>False
def zSlL (K:Kf):V→Option Int→Option Int→Hp→VK→Prop:=fun x lo hi H Q=>match x with
 | .ref a=>∃xs,SqL K H a xs∧∀p,H p=none→Q (.ref p) (upd H p (.lst (cutV xs lo hi)))
 |_=>False
section
variable {X:Cx}
theorem SlR.imp {r r':V→Option Int→Option Int→Hp→VK→Prop} (h:SlR X r) (k:∀x lo hi H Q,r' x lo hi H Q→r x lo hi H Q):SlR X r':=fun pins s σ H x v vl vu lo hi sl Q I rx hs pl pu q=>h pins s σ H x v vl vu lo hi sl Q I rx hs pl pu (k x lo hi H Q q)
end
def yPar (i j:Nat) (ta:TA):TS:=fun D σ H=>ta σ H fun vs H1=>match vs with
 |[v,w]=>D.nx ((σ.set i (some v)).set j (some w)) H1
 |_=>False
abbrev yCall (sp:Sp) (E:XK) (t:TA):TE:=fun σ H Q=>t σ H fun vs H1=>sp vs H1 Q E
def penKvs (c:Addr) (t l:Int):List (Key × V):= [(Sum.inr "cells",.ref c),(Sum.inr "turn",.int t),(Sum.inr "left",.int l)]
def isPen:HO→Prop
 | .dK kvs=>∃c t l,kvs=penKvs c t l
 |_=>False
def Kp (H H':Hp):Prop:=∀b o,H b=some o→∃o',H' b=some o'∧(¬isPen o→o'=o)
theorem Kp.keep {H H':Hp} (k:Kp H H') {b:Addr} {o:HO} (h:H b=some o) (n: ¬isPen o):H' b=some o:=by
 obtain⟨o',e,q⟩:=k b o h
 rw[q n] at e
 exact e
theorem Kp.refl (H:Hp):Kp H H:=fun _ o h=>⟨o,h,fun _=>rfl⟩
theorem Kp.trans {H H1 H2:Hp} (a:Kp H H1) (b:Kp H1 H2):Kp H H2:=fun c o h=>by
 obtain⟨o1,e1,q1⟩:=a c o h
 obtain⟨o2,e2,q2⟩:=b c o1 e1
 exact⟨o2,e2,fun n=>by
  have z:=q1 n
  subst z
  exact q2 n⟩
theorem Kp.mut {H H':Hp} {p:Addr} {o:HO} (e:Kp H H') (h:H p=none):Kp H (upd H' p o):=fun b u hb=>by
 rw[upd_ne (ne_of_none hb h)]
 exact e b u hb
theorem Kp.new {H:Hp} {p:Addr} {o:HO} (h:H p=none):Kp H (upd H p o):=(Kp.refl H).mut h
theorem Kp.of {H H':Hp} (k:∀b o,H b=some o→H' b=some o):Kp H H':=fun b o h=>⟨o,k b o h,fun _=>rfl⟩
theorem Kp.lst {H H':Hp} (k:Kp H H') {a:Addr} {xs:List V} (h:H a=some (.lst xs)):H' a=some (.lst xs):=k.keep h fun z=>z
theorem Kp.tup {H H':Hp} (k:Kp H H') {a:Addr} {xs:List V} (h:H a=some (.tup xs)):H' a=some (.tup xs):=k.keep h fun z=>z
theorem Kp.ins {H H':Hp} (k:Kp H H') {a C dx:Addr} {fs:List (Str × V)} (h:H a=some (.ins C dx fs)):H' a=some (.ins C dx fs):=k.keep h fun z=>z
theorem Kp.frz {H H':Hp} (k:Kp H H') {a:Addr} {o:Obj} {u:HO} (h:H a=some (.frz o u)):H' a=some (.frz o u):=k.keep h fun z=>z
structure PenAt (H:Hp) (p c:Addr) (n:Nat):Prop where
 ex:∃(t l:Int) (ns:List Int),H p=some (.dK (penKvs c t l))∧H c=some (.lst (ns.map V.int))∧0≤t∧t≤n
theorem PenAt.mono {H:Hp} {p c:Addr} {n m:Nat} (h:PenAt H p c n) (k:n≤m):PenAt H p c m:=by
 obtain⟨t,l,ns,h1,h2,h3,h4⟩:=h.ex
 exact⟨t,l,ns,h1,h2,h3,by omega⟩
theorem PenAt.mut {H:Hp} {p c q:Addr} {n:Nat} {o:HO} (h:PenAt H p c n) (hp:p≠q) (hc:c≠q):PenAt (upd H q o) p c n:=by
 obtain⟨t,l,ns,h1,h2,h3,h4⟩:=h.ex
 exact⟨t,l,ns,by rw[upd_ne hp];exact h1,by rw[upd_ne hc];exact h2,h3,h4⟩
theorem PenAt.ne {H:Hp} {p c q:Addr} {n:Nat} (h:PenAt H p c n) (hq:H q=none):p≠q∧c≠q:=by
 obtain⟨t,l,ns,h1,h2,h3,h4⟩:=h.ex
 exact⟨ne_of_none h1 hq,ne_of_none h2 hq⟩
theorem PenAt.new {H:Hp} {p c q:Addr} {n:Nat} {o:HO} (h:PenAt H p c n) (hq:H q=none):PenAt (upd H q o) p c n:=h.mut (h.ne hq).1 (h.ne hq).2
def dataV:V→PyData
 | .non=> .none
 | .bl b=> .bool b
 | .int i=> .int i
 | .str x=> .str x
 |_=> .none
theorem dpAll_flat {K:Kf} {H:Hp}:∀{xs:List V},xs.all flatV=true→DpAll K H xs (xs.map dataV)
 |[],_=> .nil
 |x::r,h=>by
  have h2:flatV x=true∧r.all flatV=true:=by simpa using h
  refine .cons ?_ (dpAll_flat h2.2)
  cases x<;>first|exact .non|exact .bl _|exact .int _|exact .str _|exact absurd h2.1 (by simp[flatV])
def okV:V→Bool
 | .str z=>PyData.canLay0 (.str z)
 |_=>true
theorem lay_flat:∀{xs:List V},xs.all okV=true→PyData.canLayAll0 (xs.map dataV)=true
 |[],_=>rfl
 |x::r,h=>by
  have h2:okV x=true∧r.all okV=true:=by simpa using h
  have ih:=lay_flat h2.2
  show(PyData.canLay0 (dataV x)&&PyData.canLayAll0 (r.map dataV))=true
  rw[ih,Bool.and_true]
  cases x<;>first|rfl|exact h2.1
theorem depth_flat:∀xs:List V,PyData.depthAll (xs.map dataV)=0
 |[]=>rfl
 |x::r=>by
  show max (PyData.depth (dataV x)) (PyData.depthAll (r.map dataV))=0
  rw[depth_flat r]
  cases x<;>rfl
def sp_draw (_:Kf):Sp:=fun vs H Q _=>∃(p c:Addr) (n:Nat) (s:Int),vs= [.ref p,.int s]∧PenAt H p c n∧n<1152921504606846976∧0<s∧s.natAbs.log2<9000∧
 ∀(r:Int) (H':Hp),0≤r→r<s→Kp H H'→PenAt H' p c (n+1)→Q (.int r) H'
theorem log_small {n:Nat} (h:n<2^60):((n:Nat):Int).natAbs.log2<9000:=by
 by_cases h0:n=0
 ·subst h0
  decide
 ·have q:=(Nat.log2_lt (n:=n) h0 (k:=60)).mpr h
  show n.log2<9000
  omega
def NAMES:List Str:= ["a","b","x","y","top","low","lefty","ends","abcdefghijkl","filling","jumps","alls"]
def Ext (H H':Hp):Prop:=∀b o,H b=some o→H' b=some o
def ExAt (H:Hp) (a C:Addr) (fs:List (Str × V)):Prop:=(fs= []∧H a=some (exo a C none))∨∃dx,H a=some (exo a C (some dx))∧H dx=some (exd dx fs)
theorem ExAt.ext {H H':Hp} {a C:Addr} {fs:List (Str × V)} (h:ExAt H a C fs) (e:Ext H H'):ExAt H' a C fs:=by
 rcases h with⟨h1,h2⟩|⟨dx,h1,h2⟩
 ·exact .inl ⟨h1,e _ _ h2⟩
 ·exact .inr ⟨dx,e _ _ h1,e _ _ h2⟩
theorem Ext.refl (H:Hp):Ext H H:=fun _ _ h=>h
theorem Ext.trans {H H1 H2:Hp} (a:Ext H H1) (b:Ext H1 H2):Ext H H2:=fun c o h=>b c o (a c o h)
theorem Ext.new {H:Hp} {p:Addr} {o:HO} (h:H p=none):Ext H (upd H p o):=fun b u hb=>by rw[upd_ne (ne_of_none hb h)];exact hb
theorem Ext.mut {H H':Hp} {p:Addr} {o:HO} (e:Ext H H') (h:H p=none):Ext H (upd H' p o):=fun b u hb=>by rw[upd_ne (ne_of_none hb h)];exact e b u hb
def isX (K:Kf) (n:Str) (C:Addr):Prop:=XfC K C∧PySem.W.findIn K (.ref C) n=some none
end Eb
namespace Eb
open PySem PySem.Spec PyProof.Rows L2 He
noncomputable def newB (l:List Addr):Nat→List Addr→(Nat→List Addr→List Addr)→List Addr:=
 @List.rec Addr (fun _=>Nat→List Addr→(Nat→List Addr→List Addr)→List Addr) (fun m r k=>k m r)
  (fun a _ ih m r k=> @Bool.rec (fun _=>List Addr) (ih m r k) (HandSHeadRun.frNat (Nat.lor m (Nat.shiftLeft 1 a)) fun m=>ih m (a::r) k) (Nat.beq (Nat.land (Nat.shiftRight m a) 1) 0)) l
noncomputable def refsG (g:Addr→Option Obj) (a:Addr):List Addr:=match g a with
 |some o=>refsD o
 |none=> []
noncomputable def growE (g:Addr→Option Obj) (n:Nat):List Addr→Nat→List Addr:=
 @Nat.rec (fun _=>List Addr→Nat→List Addr) (fun _ _=> []) (fun _ ih f m=>newB (f.flatMap (refsG g)) m [] fun m r=>r++ih r m) n
noncomputable def asE (g:Addr→Option Obj) (n:Nat):List Addr:= [mainGlobals,cStatics]++growE g n [mainGlobals,cStatics] (Nat.lor (Nat.shiftLeft 1 mainGlobals) (Nat.shiftLeft 1 cStatics))
structure XD where
 cls:Str
 qual:Str
 params:Arguments
 body:List Stmt
 scope:Scope
abbrev XfW:Type:=Option (Str × Str × Arguments × FuncBody × Scope × Addr × List Str × Addr)
def xfW (K:Kf) (x:Str):XfW:=match K.lookup (fAd K (x,some "__init__")) with
 |some ⟨_,_,.func fd,_⟩=>some (fd.name,fd.qualname,fd.params,fd.body,fd.scope,fd.globals,fd.closure.map (·.1),fd.builtins)
 |_=>none
def XD.val (d:XD):XfW:=some ("__init__",d.qual,d.params,.stmts d.body,d.scope,mainGlobals,["__class__"],builtinsNs)
def oexB (K:Kf) (C:Addr):Bool:=match K.lookup C with
 |some ⟨.type t,_,.cls cd,sl⟩=>(match cd.mro,sl.toList with
  | .ref C'::bm,[_,_,_,_,some (.builtin n),_]=>decide (t= "type")&& (decide (C'=C)&& (decide (n= "ValueError.__new__")&& (!cd.hasDel&& (cd.hasDict&&PySem.HandSPX.refsVE bm))))
  |_,_=>false)
 |_=>false
def codeB (P:Program) (K:Kf) (cda:Addr):Bool:=match K.lookup cda with
 |some ⟨_,_,.fields vs,_⟩=>(match(vs[2]?:Option Value) with
  |some (Value.str file _)=>(P.main.file==file)
  |_=>false)
 |_=>false
def cellB (K:Kf) (cc C:Addr):Bool:=match K.lookup cc with
 |some ⟨_,_,.cell (some (.ref D)),_⟩=>decide (D=C)
 |_=>false
def finB (P:Program) (K:Kf) (x qual:Str):Bool:=match K.lookup (fAd K (x,some "__init__")) with
 |some ⟨_,_,.func fd,_⟩=>(match fd.code,fd.closure,fd.defaults with
  | .ref cda,[(_,cc)],.none=>PySem.W.codeIn K (.ref cda) qual&& (codeB P K cda&&cellB K cc (ga K x))
  |_,_,_=>false)
 |_=>false
def eqV (a b:Option Value):Bool:=decide (a=b)
def eqB (a:Option Bool) (b:Bool):Bool:=decide (a=some b)
def xcB (P:Program) (K:Kf) (x qual:Str):Bool:=oexB K (ga K x)&& (eqO (PySem.W.findIn K (.ref (ga K x)) "__setattr__") (some (some (.builtin "object.__setattr__")))&& (eqB (PySem.W.subIn K (.ref (ga K x)) (.type "BaseException")) true&&
 (eqV (PySem.W.typeIn K (.ref (ga K x))) (some (.type "type"))&& (PySem.W.keepIn K (.ref (ga K x))&& (finB P K x qual&& (eqO (PySem.W.ks_superIn K (ga K x) (ga K x) "__init__") (some (some (.builtin "ValueError.__init__")))&&
 (eqB (PySem.W.subIn K (.ref (ga K x)) (.type "ValueError")) true&& (eqB (PySem.W.mroIn K (ga K x) (.ref (ga K x))) true&& (eqO (PySem.W.nsIn K cStatics "thirdparty.any") (some none)&& (!(P.main.scope.names.lookup ("super":Str)).isSome&&
 (eqO (PySem.W.findIn K (.ref (ga K x)) "__init__") (some (some (.ref (fAd K (x,some "__init__")))))&& (eqV (PySem.W.typeIn K (.ref (fAd K (x,some "__init__")))) (some (.type "function"))&& (xfB K (ga K x)&&
 (eqO (PySem.W.findIn K (.ref (ga K x)) "__class__") (some (some (.builtin "object.__class__")))&& (eqO (PySem.W.specialIn K (.builtin "object.__class__") "__get__") (some (some (.builtin "getset_descriptor.__get__")))&& (eqB (PySem.W.takesIn K (.builtin "object.__class__")) true&&
 eqB (PySem.W.mroIn K (ga K x) (.type "object")) true))))))))))))))))
def mkXD (x qual:Str) (st:Stmt):XD:=⟨x,qual,defArgs st,defBody st,defScope st⟩
structure SD where
 d:XD
 base:Str
def SD.g (K:Kf) (s:SD):Addr:=fAd K (s.base,some "__init__")
def suB (P:Program) (K:Kf) (s:SD):Bool:=(PySem.W.clsIn K (ga K s.d.cls)).isSome&& (finB P K s.d.cls s.d.qual&& (eqO (PySem.W.ks_superIn K (ga K s.d.cls) (ga K s.d.cls) "__init__") (some (some (.ref (s.g K))))&& (PySem.W.fnIn K (s.g K)&& (eqV (PySem.W.typeIn K (.ref (s.g K))) (some (.type "function"))&&
 (eqB (PySem.W.mroIn K (ga K s.d.cls) (.ref (ga K s.d.cls))) true&& (eqO (PySem.W.nsIn K cStatics "thirdparty.any") (some none)&& !(P.main.scope.names.lookup ("super":Str)).isSome))))))
def mkSD (x base qual:Str) (st:Stmt):SD:=⟨mkXD x qual st,base⟩
structure HD where
 n:Nat
 fa:List Fa
 fn:List DefD
 ts:List Tab:= []
 tf:List Defn:= []
 xs:List XD:= []
 cm:List He5.DefA:= []
 su:List SD:= []
 as:List Addr:= []
 ex:Kf→Bool:=fun _=>true
noncomputable def asH (D:HD) (g:Addr→Option Obj):List Addr:= @List.rec Addr (fun _=>List Addr) (asE g D.n) (fun _ _ _=>D.as) D.as
abbrev AlE:Type:=AlT × Bool × List XfW × List He5.FnW × List XfW
def obsF (P:Program) (D:HD) (g:Addr→Option Obj) (K:Kf):AlE:=(obsT D.fa D.fn D.ts K,((D.ex K&&tabsB g D.tf K)&&D.xs.all (fun d=>xcB P K d.cls d.qual))&&D.cm.all (fun d=>d.ok K)&&D.su.all (suB P K),D.xs.map (fun d=>xfW K d.cls),D.cm.map (fun d=>He5.fnA K (d.at_ K)),D.su.map fun d=>xfW K d.d.cls)
noncomputable def obsFG (P:Program) (D:HD) (g:Addr→Option Obj):AlE:=obsF P D g (frT g (asH D g))
def valF (D:HD) (w:World):AlE:=(valT D.fn D.ts w,true,D.xs.map XD.val,D.cm.map He5.DefA.val,D.su.map fun d=>d.d.val)
structure SaysF (P:Program) (D:HD) (w:World) (h:Heap) (K:Kf):Prop where
 x:SaysX D.fa D.fn D.ts D.tf D.ex w h K
 c:∀d∈D.xs,xcB P K d.cls d.qual=true
 v:D.xs.map (fun d=>xfW K d.cls)=D.xs.map XD.val
 m:∀d∈D.cm,d.ok K=true
 mv:D.cm.map (fun d=>He5.fnA K (d.at_ K))=D.cm.map He5.DefA.val
 s:∀d∈D.su,suB P K d=true
 sv:D.su.map (fun d=>xfW K d.d.cls)=D.su.map fun d=>d.d.val
theorem saysF_of {P:Program} {D:HD} {w:World} {h:Heap} (e:obsFG P D h.get?=valF D w):SaysF P D w h (frT h.get? (asH D h.get?)):=by
 have e1:obsT D.fa D.fn D.ts (frT h.get? (asH D h.get?))=valT D.fn D.ts w:=congrArg (fun z:AlE=>z.1) e
 have e2:(((D.ex (frT h.get? (asH D h.get?))&&tabsB h.get? D.tf (frT h.get? (asH D h.get?)))&&D.xs.all (fun d=>xcB P (frT h.get? (asH D h.get?)) d.cls d.qual))&&D.cm.all (fun d=>d.ok (frT h.get? (asH D h.get?)))&&D.su.all (suB P (frT h.get? (asH D h.get?))))=true:=congrArg (fun z:AlE=>z.2.1) e
 have e3:D.xs.map (fun d=>xfW (frT h.get? (asH D h.get?)) d.cls)=D.xs.map XD.val:=congrArg (fun z:AlE=>z.2.2.1) e
 have e6:D.cm.map (fun d=>He5.fnA (frT h.get? (asH D h.get?)) (d.at_ (frT h.get? (asH D h.get?))))=D.cm.map He5.DefA.val:=congrArg (fun z:AlE=>z.2.2.2.1) e
 have e8:D.su.map (fun d=>xfW (frT h.get? (asH D h.get?)) d.d.cls)=D.su.map fun d=>d.d.val:=congrArg (fun z:AlE=>z.2.2.2.2) e
 obtain⟨e2,e9⟩:=ba e2
 obtain⟨e2,e7⟩:=ba e2
 obtain⟨e4,e5⟩:=ba e2
 obtain⟨h1,h2⟩:=ba e4
 have key:∀p∈D.tf,PySem.W.codeHdIn (frT h.get? (asH D h.get?)) (cT (frT h.get? (asH D h.get?)) p).1 (cT (frT h.get? (asH D h.get?)) p).2=true∧∃o,h.get? (cT (frT h.get? (asH D h.get?)) p).2=some o∧emptyTab o=true:=fun p hp=>by
  obtain⟨h3,h4⟩:=ba (List.all_eq_true.mp h2 p hp)
  refine⟨h3,?_⟩
  cases q:h.get? (cT (frT h.get? (asH D h.get?)) p).2 with
  |none=>
   rw[q] at h4
   cases h4
  |some o=>
   rw[q] at h4
   exact⟨o,rfl,h4⟩
 exact⟨⟨e1,h1,fun p hp=>(key p hp).1,fun p hp=>by
  obtain⟨_,o,q,z⟩:=key p hp
  exact frT_none q z,fun p hp=>by
  obtain⟨_,o,q,z⟩:=key p hp
  rw[q,emptyTab_eq z]⟩,fun d hd=>List.all_eq_true.mp e5 d hd,e3,fun d hd=>List.all_eq_true.mp e7 d hd,e6,fun d hd=>List.all_eq_true.mp e9 d hd,e8⟩
noncomputable def hookF (P:Program) (D:HD):PySem.W.Hook where
 α:=AlE
 obs:=fun s=>obsFG P D s.heap.get?
 val:=fun w=>valF D w
 says:=fun w h=>∃K:Kf,K.In h∧SaysF P D w h K
 of:=fun _ _ e=>⟨_,frT_in,saysF_of e⟩
 keeps:=fun _ _ _ ⟨K,hK,c⟩ k=>⟨K,PySem.W.Frag.In.keeps hK k,⟨⟨c.x.t,c.x.more,c.x.hd,c.x.out,fun p hp=>k _ _ (c.x.empty p hp)⟩,c.c,c.v,c.m,c.mv,c.s,c.sv⟩⟩
theorem obsFG_eq {P:Program} {D:HD} {g:Addr→Option Obj} {s:Shared} (h:∀a,g a=s.heap.get? a):obsFG P D g=(hookF P D).obs s:=by
 have e:g=s.heap.get?:=funext h
 rw[e]<;>rfl
section
variable {P:Program} {D:HD} {w:World} {h:Heap} {K:Kf}
theorem SaysF.d (c:SaysF P D w h K):SaysD D.fa D.fn K:=c.x.t.d
end
end Eb
namespace Eb
open PySem PySem.Spec PyProof.Rows L2
def zRepr:List V→Hp→VK→Prop:=fun xs H Q=>match xs with
 |[.int i]=>i.natAbs.log2<1920∧Q (.str (toString i)) H
 |[.str y]=>(reprText y).length≤sizeLine∧Q (.str (reprText y)) H
 |[.bl b]=>Q (.str (if b then "True" else "False")) H
 |_=>False
def zipK (ks:List Str) (ys:List V):List (Key × V):=(ks.map Sum.inr).zip ys
abbrev W0:WX:=fun _ _ _ _=>False
def yNew (C:Addr) (sp:Sp) (W:WX) (t:TA):TE:=fun σ H Q=>t σ H fun vs H1=>∀x dx,H1 x=none→H1 dx=none→dx≠x→sp (.ref x::vs) (upd (upd H1 dx (.own x)) x (.ins C dx [])) (fun v H2=>v= .non∧Q (.ref x) H2) fun cls d H'=>W cls d σ H'
def yMeth (C:Addr) (m:Str) (sp:Sp) (W:WX) (ta:TE) (t:TA):TE:=fun σ H Q=>ta σ H fun x H1=>match x with
 | .ref a=>∃dx fs,H1 a=some (.ins C dx fs)∧fs.lookup m=none∧t σ H1 fun vs H2=>sp (.ref a::vs) H2 Q fun cls d H'=>W cls d σ H'
 |_=>False
structure PlainC (K:Kf) (C:Addr):Prop where
 cl:Cls K C
 ha:PySem.W.findIn K (.ref C) "__class__"=some (some (.builtin "object.__class__"))
 hn:PySem.W.specialIn K (.builtin "object.__class__") "__get__"=some (some (.builtin "getset_descriptor.__get__"))
 ht:PySem.W.takesIn K (.builtin "object.__class__")=some true
 hm:PySem.W.mroIn K C (.type "object")=some true
theorem PlainC.ty {K:Kf} {C a dx:Addr} {H:Hp} {fs:List (Str × V)} (p:PlainC K C) (e:H a=some (.ins C dx fs)):TyOf K H (.ref a) (.ref C):= .ins e p.cl p.ha p.hn p.ht p.hm
def XFs (K:Kf) (xs:List (Str × Str)):Prop:=∀p∈xs,isX K p.2 (He.ga K p.1)∧ExcC K (He.ga K p.1)∧PySem.W.kitOne K (.ref (He.ga K p.1)) (.ref (He.ga K "EdgeError"))=some true∧PySem.W.kitOne K (.ref (He.ga K p.1)) (.type "ValueError")=some true∧
 ∀q∈xs,PySem.W.exmOne K (.ref (He.ga K p.1)) (.ref (He.ga K q.1))=some (decide (p.1=q.1))
theorem okT {P:Program} {w:World} {K:Kf} {mg:Str→Option Value} {base:Heap} {x qual:Str} {pd:He.Defn} {params:Arguments} {body:List Stmt} {scope:Scope} {fd:FuncData} {CX:CXT} {N ps:List Str} {k:Nat} {sp:Sp}
 (F:FunD K x qual params body scope [] [] (He.fAd K pd) fd) (S:FnScope N ps scope) (len:∀vs H Q E,sp vs H Q E→vs.length=ps.length)
 (hbody:∀(A:Around) (outer:List Env) (s:Shared) (H:Hp) (vs:List V) (Q:VK) (E:XK),Room k (A.deeper (envOfC qual scope s.heap.objs.size (He.fAd K pd) (.ref (He.cT K pd).1)))→sp vs H Q E→
  ∃t,PSs (cxOf CX P w K mg base N qual scope (He.fAd K pd) (.ref (He.cT K pd).1) A outer s H E) body t∧t {nx:=fun _ H'=>Q .non H',rt:=Q} (start N vs) H):FnOk P w K mg base CX (k+1) (He.fAd K pd) fd ps sp:=by
 obtain⟨oc,od,dV,kV,doc,pm,an,cdv,ct,osl,rfl,lk,hcd,_,_⟩:=F.ex
 obtain⟨c,rfl⟩:∃c,cdv= .ref c:=by
  unfold PySem.W.codeIn at hcd
  split at hcd
  ·exact⟨_,rfl⟩
  ·cases hcd
 have e:c=(He.cT K pd).1:=(He.codeOf_eq lk rfl).symm
 subst e
 exact fn_of lk hcd S len fun A outer s H vs Q E hr hsp=>hbody A outer s H vs Q E hr hsp
def kitB (K:Kf) (a b:Value) (r:Bool):Bool:=eqB (PySem.W.kitOne K a b) r
def xfsB (K:Kf) (xs:List (Str × Str)):Bool:=xs.all fun p=>kitB K (.ref (He.ga K p.1)) (.ref (He.ga K "EdgeError")) true&& (kitB K (.ref (He.ga K p.1)) (.type "ValueError") true&&
 (He.eqO (PySem.W.findIn K (.ref (He.ga K p.1)) p.2) (some none)&&xs.all fun q=>eqB (PySem.W.exmOne K (.ref (He.ga K p.1)) (.ref (He.ga K q.1))) (decide (p.1=q.1))))
def PTup (H:Hp) (t:Addr) (xs:List V):Prop:=∃o:Obj,o.dict=none∧H t=some (.frz o (.tup xs))
theorem PTup.ext {H H':Hp} {t:Addr} {xs:List V} (h:PTup H t xs) (e:Ext H H'):PTup H' t xs:=h.imp fun _ h=>⟨h.1,e _ _ h.2⟩
theorem PTup.upd {H:Hp} {t b:Addr} {o':HO} {xs:List V} (h:PTup H t xs) (n:t≠b):PTup (upd H b o') t xs:=h.imp fun _ h=>⟨h.1,by rw[upd_ne n];exact h.2⟩
theorem PTup.kp {H H':Hp} {t:Addr} {xs:List V} (h:PTup H t xs) (k:Kp H H'):PTup H' t xs:=h.imp fun _ h=>⟨h.1,k.frz h.2⟩
theorem PTup.ne {H:Hp} {t b:Addr} {xs:List V} {u:HO} (h:PTup H t xs) (hb:H b=some u) (n:∀o,u≠ .frz o (.tup xs)):t≠b:=fun z=>by
 obtain⟨o,_,h⟩:=h
 rw[z,hb] at h
 exact n o (z33 h)
def SeqP (H:Hp) (p:Addr) (xs:List V):Prop:=H p=some (.lst xs)∨PTup H p xs
theorem SeqP.ext {H H':Hp} {p:Addr} {xs:List V} (h:SeqP H p xs) (e:Ext H H'):SeqP H' p xs:=h.elim (fun h=> .inl (e _ _ h)) fun h=> .inr (h.ext e)
def sameMaB (K:Kf) (x y m:Str):Bool:=decide (He.ma K (He.ga K x) m=He.ma K (He.ga K y) m)
def top (i:Nat):Stmt:=PySem.Challenge.pw_edgejumps_k40_sayings_read.main.body.getD i (.Pass ⟨0,0,0,0⟩)
abbrev clsN:List Str:= ["EdgeError","BadSheet","BadTracks","BadSaying","NoTrack","NoColumn","OtherTracks","Rows","Sheet","Reader","SayingReader","Saying"]
abbrev fldN:List (Str × Str):= [("Rows","tracks"),("Rows","signs"),("Sheet","tracks"),("Sheet","signs"),("Sheet","row_of"),("Sheet","text"),("Reader","tracks"),("Reader","words"),("Reader","spot"),("Reader","parts_left"),("Reader","open_ones"),("SayingReader","blocks_left"),("SayingReader","bound"),("Saying","tracks"),("Saying","text"),("Saying","tree"),("Saying","has_here"),("SayingReader","tracks"),("SayingReader","words"),("SayingReader","spot"),("SayingReader","parts_left"),("SayingReader","open_ones")]
def LETTERS:Str:= "abcdefghijklmnopqrstuvwxyz"
def BARRED:List Str:=(["left","right","up","down","first","last","jump","go","swap","fill","clear","flip","take"]:List Str)++((["to","hold","insert","delete","if","else","end","times","filled","edge","on","at"]:List Str)++(["ahead","behind","held","is","here","all","some","and","or","not"]:List Str))
def allIn (s:Str) (w:Str):Bool:=w.cps.toList.all fun c=>decide (c∈s.cps.toList)
def nameOk (w:Str):Bool:=decide (1≤w.length)&& (decide (w.length≤12)&& (!decide (w∈BARRED)&&allIn LETTERS w))
def rowOk (r:Str):Bool:=decide (1≤r.length)&& (decide (r.length≤1000)&&allIn "#." r)
def linesOf (t:Str):List Str:=if t= "" then [] else Txt.split t "\n"
def scan:Nat→List Str→List Str→List Str→Nat ⊕ (List Str × List Str)
 |_,ns,ss,[]=>if ns= [] then .inl 1 else .inr (ns,ss)
 |i,ns,ss,l::r=>match Txt.split l " " with
  |[n,s]=>if i=3∨nameOk n=false∨n∈ns∨rowOk s=false∨(0<i∧s.length≠(ss.getD 0 "").length) then .inl (i+1) else scan (i+1) (ns++ [n]) (ss++ [s]) r
  |_=> .inl (i+1)
theorem inV_str {w:Str}:∀{xs:List Str},inV (.str w) (xs.map V.str)=decide (w∈xs)
 |[]=>by simp[inV]
 |x::r=>by
  have ih:=inV_str (w:=w) (xs:=r)
  unfold inV at ih⊢
  rw[List.map_cons,List.any_cons,ih]
  have e:L2.eqV (.str x) (.str w)=(x==w):=rfl
  rw[e]
  by_cases h:x=w
  ·subst h
   simp
  ·have h2: ¬w=x:=fun z=>h z.symm
   have e3:(x==w)=false:=by simpa using h
   rw[e3]
   simp[h2]
theorem tyS {K:Kf} {H:Hp} {t:Str}:tyV K "str" (.str t) H:=by
 first|exact .inr (.inl ⟨rfl,t,rfl⟩)|exact .inr (.inr ⟨rfl,t,rfl⟩)|exact .inr (.inr (.inl ⟨rfl,t,rfl⟩))|exact .inl ⟨rfl,t,rfl⟩|(unfold tyV;simp)
theorem flat_strs {xs:List Str}:(xs.map V.str).all flatV=true:=by simp[flatV]
def SeqO (H:Hp) (p:Addr) (xs:List V):Prop:=H p=some (.lst xs)∨H p=some (.tup xs)
theorem SeqO.ext {H H':Hp} {p:Addr} {xs:List V} (h:SeqO H p xs) (e:Ext H H'):SeqO H' p xs:=h.elim (fun h=> .inl (e _ _ h)) fun h=> .inr (e _ _ h)
def RowsAt (K:Kf) (H:Hp) (a:Addr) (ns ss:List Str):Prop:=∃dx t1 t2,H a=some (.ins (He.ga K "Rows") dx [("tracks",.ref t1),("signs",.ref t2)])∧PTup H t1 (ns.map V.str)∧H t2=some (.tup (ss.map V.str))
theorem RowsAt.ext {K:Kf} {H H':Hp} {a:Addr} {ns ss:List Str} (h:RowsAt K H a ns ss) (e:Ext H H'):RowsAt K H' a ns ss:=by
 obtain⟨dx,t1,t2,h1,h2,h3⟩:=h
 exact⟨dx,t1,t2,e _ _ h1,h2.ext e,e _ _ h3⟩
def ExtB (a:Addr) (H H':Hp):Prop:=∀b o,b≠a→H b=some o→H' b=some o
theorem ExtB.new {a p:Addr} {H:Hp} {o:HO} (h:H p=none):ExtB a H (upd H p o):=fun b u _ e=>by rw[upd_ne (ne_of_none e h)];exact e
theorem ExtB.trans {a:Addr} {H H1 H2:Hp} (x:ExtB a H H1) (y:ExtB a H1 H2):ExtB a H H2:=fun b o n e=>y b o n (x b o n e)
theorem ExtB.refl {a:Addr} {H:Hp}:ExtB a H H:=fun _ _ _ e=>e
section
variable {K:Kf} {vs:List V} {H:Hp} {Q:VK} {E:XK}
theorem scan_good {i:Nat} {ns ss:List Str} {l n s:Str} {r:List Str} (e:Txt.split l " "= [n,s]) (h: ¬(i=3∨nameOk n=false∨n∈ns∨rowOk s=false∨(0<i∧s.length≠(ss.getD 0 "").length))):scan i ns ss (l::r)=scan (i+1) (ns++ [n]) (ss++ [s]) r:=by
 show(match Txt.split l " " with
  |[n,s]=>if i=3∨nameOk n=false∨n∈ns∨rowOk s=false∨(0<i∧s.length≠(ss.getD 0 "").length) then(.inl (i+1):Nat ⊕ (List Str × List Str)) else scan (i+1) (ns++ [n]) (ss++ [s]) r
  |_=> .inl (i+1))=_
 rw[e]
 exact if_neg h
end
def lineOf (n s:Str):Str:=Str.empty++n++ " " ++s
def txtOf (ns ss:List Str):Str:=Txt.join "\n" (List.zipWith lineOf ns ss)
theorem empty_app (x:Str):Str.empty++x=x:=by
 apply Str.ext'
 show(#[]++x.cps)=x.cps
 simp
theorem sum_len_le {b:Nat}:∀{xs:List Str},(∀x∈xs,x.length≤b)→(xs.map (·.length)).sum≤xs.length*b
 |[],_=>z35 _
 |x::r,h=>by
  have h1:=h x (by simp)
  have h2:=sum_len_le (b:=b) (xs:=r) fun y hy=>h y (by simp[hy])
  rw[List.map_cons,List.sum_cons,z27,Nat.succ_mul]
  omega
def SheetAt (K:Kf) (H:Hp) (a:Addr) (ns ss:List Str):Prop:=∃dx t1 t2 d,H a=some (.ins (He.ga K "Sheet") dx [("tracks",.ref t1),("signs",.ref t2),("row_of",.ref d),("text",.str (txtOf ns ss))])∧
 PTup H t1 (ns.map V.str)∧H t2=some (.tup (ss.map V.str))∧H d=some (.dK (mergeK [] (zipK ns (ss.map V.str))))
structure RowsOk (ns ss:List Str):Prop where
 len:ns.length=ss.length
 three:ns.length≤3
 nm:∀n∈ns,n.length≤12
 row:∀s∈ss,s.length≤1000000
section
variable {K:Kf} {vs:List V} {H:Hp} {Q:VK} {E:XK}
def sp_Sheet_init (K:Kf):Sp:=fun vs H Q E=>∃(a dx:Addr),H a=some (.ins (He.ga K "Sheet") dx [])∧
 ((∃t:Str,vs= [.ref a,.str t]∧t.length+2≤16777216∧(∀H,SqT K H (He.ga K "BARRED") (BARRED.map V.str))∧PySem.W.kitOne K (.type "str") (.ref (He.ga K "Rows"))=some false∧
   (∀n,scan 0 [] [] (linesOf t)= .inl n→∀(d:Addr) (H':Hp),Ext H H'→H d=none→H' d=some (.xd [("line",.int (n:Int))])→E (.ref (He.ga K "BadSheet")) (some d) H')∧
   (∀ns ss,scan 0 [] [] (linesOf t)= .inr (ns,ss)→∀H':Hp,ExtB a H H'→SheetAt K H' a ns ss→Q .non H'))∨
  ∃(r:Addr) (ns ss:List Str),vs= [.ref a,.ref r]∧RowsAt K H r ns ss∧RowsOk ns ss∧PlainC K (He.ga K "Rows")∧PySem.W.kitOne K (.ref (He.ga K "Rows")) (.ref (He.ga K "Rows"))=some true∧∀H':Hp,ExtB a H H'→SheetAt K H' a ns ss→Q .non H')
end
theorem PenAt.ext {H H':Hp} {p c:Addr} {n:Nat} (h:PenAt H p c n) (e:Ext H H'):PenAt H' p c n:=by
 obtain⟨t,l,ns,h1,h2,h3,h4⟩:=h.ex
 exact⟨t,l,ns,e _ _ h1,e _ _ h2,h3,h4⟩
theorem Ext.kp {H H':Hp} (e:Ext H H'):Kp H H':=Kp.of e
def okS (t:Str):Prop:=∀c∈t.cps.toList,c<0x110000
theorem okS_lay {t:Str} (h:okS t):okV (.str t)=true:=by
 show t.cps.all (· <0x110000)=true
 rw[←Array.all_toList,List.all_eq_true]
 intro c hc
 exact decide_eq_true (h c hc)
section
variable {K:Kf} {vs:List V} {H:Hp} {Q:VK} {E:XK}
def sp_new_tracks (_:Kf):Sp:=fun vs H Q _=>∃(p c:Addr) (n:Nat) (m:Nat),vs= [.ref p,.int (m:Int)]∧0<m∧m≤12∧PenAt H p c n∧n+20<1152921504606846976∧
 ∀(ys:List Str) (r:Addr) (H':Hp),ys.Nodup→(∀y∈ys,y∈NAMES)→1≤ys.length→ys.length≤m→Kp H H'→H' r=some (.lst (ys.map V.str))→PenAt H' p c (n+13)→Q (.ref r) H'
end
def bit01 (bs:List Int):Prop:=∀b∈bs,b=0∨b=1
def shKvs (t c:Addr):List (Key × V):= [(Sum.inr "tracks",.ref t),(Sum.inr "cols",.ref c)]
def SheetD (H:Hp) (d:Addr) (ys:List Str) (m:Nat):Prop:=∃(t c:Addr) (cols:List Addr),H d=some (.dK (shKvs t c))∧H t=some (.lst (ys.map V.str))∧H c=some (.lst (cols.map V.ref))∧cols.length=m∧
 ∀q∈cols,∃bs:List Int,H q=some (.lst (bs.map V.int))∧bs.length=ys.length∧bit01 bs
theorem SheetD.kp {H H':Hp} {d:Addr} {ys:List Str} {m:Nat} (h:SheetD H d ys m) (e:Ext H H'):SheetD H' d ys m:=by
 obtain⟨t,c,cols,h1,h2,h3,h4,h5⟩:=h
 refine⟨t,c,cols,e _ _ h1,e _ _ h2,e _ _ h3,h4,fun q hq=> ?_⟩
 obtain⟨bs,b1,b2,b3⟩:=h5 q hq
 exact⟨bs,e _ _ b1,b2,b3⟩
theorem kt1: ¬(("tracks":Str)= "cols"):=by decide+kernel
theorem sh_tracks {t c:Addr}:valV (shKvs t c) (Sum.inr "tracks")=some (.ref t):=by simp[valV,shKvs]
theorem sh_cols {t c:Addr}:valV (shKvs t c) (Sum.inr "cols")=some (.ref c):=by simp[valV,shKvs,kt1]
theorem not_pen_sh {t c:Addr}: ¬isPen (.dK (shKvs t c)):=by
 rintro⟨a,b,d,e⟩
 have:=congrArg List.length e
 simp[shKvs,penKvs] at this
section
variable {K:Kf} {vs:List V} {H:Hp} {Q:VK} {E:XK}
def sp_new_sheet (_:Kf):Sp:=fun vs H Q _=>∃(p c l:Addr) (n m:Nat) (ys:List Str),vs= [.ref p,.ref l,.int (m:Int)]∧PenAt H p c n∧n+10000<1152921504606846976∧H l=some (.lst (ys.map V.str))∧ys.length≤3∧m≤1000∧
 ∀(d:Addr) (H':Hp),Kp H H'→H d=none→SheetD H' d ys m→PenAt H' p c (n+3*(2+m))→Q (.ref d) H'
end
def ColsAt (H:Hp) (cas:List Addr) (cols:List (List Int)):Prop:=cas.length=cols.length∧∀(i:Nat) (a:Addr),cas[i]?=some a→∃bs,cols[i]?=some bs∧H a=some (.lst (bs.map V.int))
def SheetC (H:Hp) (d:Addr) (ys:List Str) (cols:List (List Int)):Prop:=∃(t c:Addr) (cas:List Addr),H d=some (.dK (shKvs t c))∧H t=some (.lst (ys.map V.str))∧H c=some (.lst (cas.map V.ref))∧ColsAt H cas cols
def SheetV (H:Hp) (d:Addr) (ys:List Str) (cols:List (List Int)):Prop:=∃(kvs:List (Key × V)) (t c:Addr) (cas:List Addr),H d=some (.dK kvs)∧valV kvs (Sum.inr "tracks")=some (.ref t)∧valV kvs (Sum.inr "cols")=some (.ref c)∧H t=some (.lst (ys.map V.str))∧H c=some (.lst (cas.map V.ref))∧ColsAt H cas cols
theorem SheetC.v {H:Hp} {d:Addr} {ys:List Str} {cols:List (List Int)} (h:SheetC H d ys cols):SheetV H d ys cols:=by
 obtain⟨t,c,cas,h1,h2,h3,h4⟩:=h
 exact⟨_,t,c,cas,h1,sh_tracks,sh_cols,h2,h3,h4⟩
instance {H:Hp} {d:Addr} {ys:List Str} {cols:List (List Int)}:Coe (SheetC H d ys cols) (SheetV H d ys cols):=⟨SheetC.v⟩
theorem ColsAt.ext {H H':Hp} {cas:List Addr} {cols:List (List Int)} (h:ColsAt H cas cols) (e:Ext H H'):ColsAt H' cas cols:=⟨h.1,fun i a ha=>by
 obtain⟨bs,h1,h2⟩:=h.2 i a ha
 exact⟨bs,h1,e _ _ h2⟩⟩
theorem SheetV.ext {H H':Hp} {d:Addr} {ys:List Str} {cols:List (List Int)} (h:SheetV H d ys cols) (e:Ext H H'):SheetV H' d ys cols:=by
 obtain⟨kvs,t,c,cas,h1,v1,v2,h2,h3,h4⟩:=h
 exact⟨kvs,t,c,cas,e _ _ h1,v1,v2,e _ _ h2,e _ _ h3,h4.ext e⟩
theorem SheetC.ext {H H':Hp} {d:Addr} {ys:List Str} {cols:List (List Int)} (h:SheetC H d ys cols) (e:Ext H H'):SheetC H' d ys cols:=by
 obtain⟨t,c,cas,h1,h2,h3,h4⟩:=h
 exact⟨t,c,cas,e _ _ h1,e _ _ h2,e _ _ h3,h4.ext e⟩
theorem SheetC.kp {H H':Hp} {d:Addr} {ys:List Str} {cols:List (List Int)} (h:SheetC H d ys cols) (k:Kp H H'):SheetC H' d ys cols:=by
 obtain⟨t,c,cas,h1,h2,h3,h4,h5⟩:=h
 refine⟨t,c,cas,k.keep h1 not_pen_sh,k.lst h2,k.lst h3,h4,fun i a ha=> ?_⟩
 obtain⟨bs,b1,b2⟩:=h5 i a ha
 exact⟨bs,b1,k.lst b2⟩
def ColOk (n:Nat) (cols:List (List Int)):Prop:=∀bs∈cols,bs.length=n∧bit01 bs
theorem cols_of {H:Hp} {n:Nat}:∀(cas:List Addr),(∀q∈cas,∃bs:List Int,H q=some (.lst (bs.map V.int))∧bs.length=n∧bit01 bs)→∃cols,ColsAt H cas cols∧ColOk n cols
 |[],_=>⟨[],⟨rfl,fun i a h=>by simp at h⟩,fun bs h=>by cases h⟩
 |a::r,h=>by
  obtain⟨cols,c1,c2⟩:=cols_of r fun q hq=>h q (z23 _ hq)
  obtain⟨bs,b1,b2,b3⟩:=h a (z31 ..)
  refine⟨bs::cols,⟨by simp[c1.1],fun i x hx=> ?_⟩,fun z hz=> ?_⟩
  ·cases i with
   |zero=>
    have:a=x:=by simpa using hx
    subst this
    exact⟨bs,rfl,b1⟩
   |succ i=>exact c1.2 i x (by simpa using hx)
  ·rcases List.mem_cons.mp hz with e|hz
   ·rw[e]
    exact⟨b2,b3⟩
   ·exact c2 z hz
theorem SheetD.strong {H:Hp} {d:Addr} {ys:List Str} {m:Nat} (h:SheetD H d ys m):∃cols,SheetC H d ys cols∧cols.length=m∧ColOk ys.length cols:=by
 obtain⟨t,c,cas,h1,h2,h3,h4,h5⟩:=h
 obtain⟨cols,c1,c2⟩:=cols_of cas h5
 exact⟨cols,⟨t,c,cas,h1,h2,h3,c1⟩,by rw[←c1.1,h4],c2⟩
def cellC (b:Int):Nat:=if b=1 then 35 else 46
def rowTxt (cols:List (List Int)) (k:Nat):Str:=⟨(cols.map fun bs=>cellC (bs.getD k 0)).toArray⟩
def rowsOf (cols:List (List Int)) (n:Nat):List Str:=(List.range n).map (rowTxt cols)
theorem rowTxt_len (cols:List (List Int)) (k:Nat):(rowTxt cols k).length=cols.length:=by
 show(rowTxt cols k).cps.size=_
 unfold rowTxt
 simp
theorem cellC_or (b:Int):cellC b=35∨cellC b=46:=by
 unfold cellC
 split
 ·exact .inl rfl
 ·exact .inr rfl
theorem rowTxt_signs {cols:List (List Int)} {k c:Nat} (h:c∈(rowTxt cols k).cps.toList):c=35∨c=46:=by
 unfold rowTxt at h
 obtain⟨bs,_,rfl⟩:=z37.mp h
 exact cellC_or _
section
variable {K:Kf} {vs:List V} {H:Hp} {Q:VK} {E:XK}
theorem txt_join_len (s:Str) (xs:List Str):(Txt.join s xs).length≤(xs.map (·.length)).sum+xs.length*s.length:=by
 rw[show Txt.join s xs=Str.join s xs from StrLaws.glued_eq_join s xs]
 exact StrLaws.join_length_le s xs
def sp_sheet_text (_:Kf):Sp:=fun vs H Q _=>∃(d:Addr) (ys:List Str) (cols:List (List Int)),vs= [.ref d]∧SheetV H d ys cols∧ColOk ys.length cols∧(∀y∈ys,y.length≤12)∧ys.length≤3∧cols.length≤1000000∧∀H':Hp,Ext H H'→Q (.str (txtOf ys (rowsOf cols ys.length))) H'
theorem lineOf_eq (n s:Str):lineOf n s=n++ " " ++s:=by
 unfold lineOf
 rw[empty_app]
end
theorem lineOf_two {n s:Str} (hn:∀c∈n.cps.toList,c≠32) (hs:∀c∈s.cps.toList,c≠32):Txt.split (lineOf n s) " "= [n,s]:=by
 have q:=TL.split_join (y:= " ") (s:=32) (S:= []) rfl (by decide+kernel) (parts:= [n,s]) (by simp) (fun p hp=>by
  simp only[List.mem_cons,z13,or_false] at hp
  rcases hp with rfl|rfl
  ·exact fun z=>hn 32 z rfl
  ·exact fun z=>hs 32 z rfl)
 rw[lineOf_eq]
 exact q
theorem app_mem {a b:Str} {c:Nat}:c∈(a++b).cps.toList↔c∈a.cps.toList∨c∈b.cps.toList:=by
 show c∈(a.cps++b.cps).toList↔_
 rw[Array.toList_append,List.mem_append]
theorem nameOk_chars {n:Str} (h:nameOk n=true):∀c∈n.cps.toList,97≤c∧c≤122:=by
 unfold nameOk allIn at h
 simp only[Bool.and_eq_true,List.all_eq_true,decide_eq_true_eq] at h
 have hl:∀c∈LETTERS.cps.toList,97≤c∧c≤122:=by decide+kernel
 exact fun c hc=>hl c (h.2.2.2 c hc)
theorem rowOk_chars {s:Str} (h:rowOk s=true):∀c∈s.cps.toList,c=35∨c=46:=by
 unfold rowOk allIn at h
 simp only[Bool.and_eq_true,List.all_eq_true,decide_eq_true_eq] at h
 have hl:∀c∈(("#.":Str)).cps.toList,c=35∨c=46:=by decide+kernel
 exact fun c hc=>hl c (h.2.2 c hc)
theorem scan_app:∀(ys ss:List Str) (i:Nat) (ns rs:List Str) (m:Nat),ys.length=ss.length→(∀y∈ys,nameOk y=true)→(∀s∈ss,rowOk s=true∧s.length=m)→(ns++ys).Nodup→ns.length=i→rs.length=i→(∀s∈rs,s.length=m)→i+ys.length≤3→1≤i+ys.length→
 scan i ns rs (List.zipWith lineOf ys ss)= .inr (ns++ys,rs++ss)
 |[],[],i,ns,rs,m,_,_,_,_,hi,_,_,_,h1=>by
  show(if ns= [] then(.inl 1:Nat ⊕ (List Str × List Str)) else .inr (ns,rs))=_
  have:ns≠ []:=fun z=>by subst z;simp at hi h1;omega
  rw[if_neg this,z26,z26]
 |y::ys,s::ss,i,ns,rs,m,hl,hn,hs,hd,hi,hr,hm,h3,h1=>by
  have hy:=hn y (z31 ..)
  obtain⟨hs1,hs2⟩:=hs s (z31 ..)
  have e:=lineOf_two (n:=y) (s:=s) (fun c hc=>by have:=nameOk_chars hy c hc;omega) (fun c hc=>by rcases rowOk_chars hs1 c hc with e|e<;>omega)
  have hl':(y::ys).length=ys.length+1:=rfl
  rw[hl'] at h3 h1
  show scan i ns rs (lineOf y s::List.zipWith lineOf ys ss)=_
  rw[scan_good e (fun z=>by
   rcases z with z|z|z|z|⟨z1,z2⟩
   ·omega
   ·rw[hy] at z;cases z
   ·have:=(List.nodup_append.mp hd).2.2 y z y (z31 ..)
    exact this rfl
   ·rw[hs1] at z;cases z
   ·refine z2 ?_
    cases rs with
    |nil=>simp at hr;omega
    |cons r rr=>rw[hs2];exact(hm r (z31 ..)).symm)]
  rw[scan_app ys ss (i+1) (ns++ [y]) (rs++ [s]) m (by simpa using hl) (fun z hz=>hn z (z23 _ hz)) (fun z hz=>hs z (z23 _ hz)) (by rw[z19];exact hd) (by simp[hi]) (by simp[hr])
   (fun z hz=>by
     rcases z36.mp hz with z1|z1
     ·exact hm z z1
     ·have:z=s:=by simpa using z1
      rw[this];exact hs2) (by omega) (by omega)]
  simp
theorem lines_txt {ys ss:List Str} (hl:ys.length=ss.length) (h1:1≤ys.length) (hn:∀y∈ys,nameOk y=true) (hs:∀s∈ss,rowOk s=true):linesOf (txtOf ys ss)=List.zipWith lineOf ys ss:=by
 have hne:List.zipWith lineOf ys ss≠ []:=fun z=>by
  have:=congrArg List.length z
  rw[List.length_zipWith,←hl] at this
  simp at this
  rw[this] at h1
  exact absurd h1 (by decide)
 have mem:∀l∈List.zipWith lineOf ys ss,∃y∈ys,∃s∈ss,l=lineOf y s:=fun l hlm=>by
  obtain⟨i,hi,rfl⟩:=List.mem_iff_getElem.mp hlm
  rw[List.length_zipWith] at hi
  exact⟨ys[i]'(by omega),List.getElem_mem _,ss[i]'(by omega),List.getElem_mem _,by rw[List.getElem_zipWith]⟩
 have hc:∀l∈List.zipWith lineOf ys ss,10∉l.cps.toList∧1≤l.length:=fun l hlm=>by
  obtain⟨y,hy,s,hs',rfl⟩:=mem l hlm
  rw[lineOf_eq]
  refine⟨fun z=> ?_,?_⟩
  ·rcases app_mem.mp z with z|z
   ·rcases app_mem.mp z with z|z
    ·have:=nameOk_chars (hn y hy) 10 z
     omega
    ·have z:10∈ [32]:=z
     simp at z
   ·rcases rowOk_chars (hs s hs') 10 z with e|e<;>omega
  ·rw[z15,z15]
   have:((" ":Str)).length=1:=rfl
   omega
 have q:=TL.split_join (y:= "\n") (s:=10) (S:= []) rfl (by decide+kernel) (parts:=List.zipWith lineOf ys ss) hne (fun p hp=>(hc p hp).1)
 unfold linesOf txtOf
 rw[if_neg,q]
 intro z
 rw[z] at q
 cases e:List.zipWith lineOf ys ss with
 |nil=>exact hne e
 |cons a r=>
  rw[e] at q
  have q:[("":Str)]=a::r:=q
  have:a= "":=by
   injection q with h _
   exact h.symm
  have h1':=(hc a (by rw[e];exact z31 ..)).2
  rw[this] at h1'
  have:(("":Str)).length=0:=rfl
  omega
structure ShOk (ys ss:List Str) (m:Nat):Prop where
 nd:ys.Nodup
 nm:∀y∈ys,nameOk y=true
 len:ys.length=ss.length
 one:1≤ys.length
 three:ys.length≤3
 row:∀s∈ss,rowOk s=true∧s.length=m
theorem ShOk.scan {ys ss:List Str} {m:Nat} (h:ShOk ys ss m):scan 0 [] [] (linesOf (txtOf ys ss))= .inr (ys,ss):=by
 rw[lines_txt h.len h.one h.nm (fun s hs=>(h.row s hs).1)]
 exact scan_app ys ss 0 [] [] m h.len h.nm h.row h.nd rfl rfl (fun s hs=>by cases hs) (by have:=h.three;omega) (by have:=h.one;omega)
theorem rowTxt_ok {cols:List (List Int)} {k:Nat} (h1:1≤cols.length) (h2:cols.length≤1000):rowOk (rowTxt cols k)=true:=by
 unfold rowOk
 rw[rowTxt_len]
 have:allIn "#." (rowTxt cols k)=true:=List.all_eq_true.mpr fun c hc=>by
  rcases rowTxt_signs hc with e|e<;>subst e<;>decide
 simp[h1,h2,this]
theorem shOk_plain {ys:List Str} {cols:List (List Int)} (nd:ys.Nodup) (hn:∀y∈ys,nameOk y=true) (y1:1≤ys.length) (y3:ys.length≤3) (h1:1≤cols.length) (h2:cols.length≤1000):ShOk ys (rowsOf cols ys.length) cols.length:=
 ⟨nd,hn,by simp[rowsOf],y1,y3,fun s hs=>by
  obtain⟨k,_,rfl⟩:=z37.mp hs
  exact⟨rowTxt_ok h1 h2,rowTxt_len _ _⟩⟩
theorem putK_new {kvs:List (Key × V)} {k:Key} {v:V} (h:k∉kvs.map (·.1)):putK kvs k v=kvs++ [(k,v)]:=by
 unfold putK
 rw[if_neg]
 intro z
 obtain⟨x,hx,e⟩:=List.any_eq_true.mp z
 exact h (z37.mpr ⟨x,hx,of_decide_eq_true e⟩)
theorem mergeK_new:∀{more kvs:List (Key × V)},((kvs++more).map (·.1)).Nodup→mergeK kvs more=kvs++more
 |[],kvs,_=>by simp[mergeK]
 |(k,v)::r,kvs,h=>by
  show mergeK (putK kvs k v) r=_
  have hk:k∉kvs.map (·.1):=fun z=>by
   rw[z16] at h
   exact(List.nodup_append.mp h).2.2 k z k (by simp) rfl
  rw[putK_new hk,mergeK_new (by rw[z19];exact h),z19]
  rfl
theorem zipK_keys {ns:List Str} {xs:List V} (h:ns.length=xs.length):(zipK ns xs).map (·.1)=ns.map Sum.inr:=by
 unfold zipK
 rw[List.map_fst_zip]
 simp[h]
theorem merge_zip {ns:List Str} {xs:List V} (h:ns.length=xs.length) (nd:ns.Nodup):mergeK [] (zipK ns xs)=zipK ns xs:=by
 have:=mergeK_new (kvs:= []) (more:=zipK ns xs) (by
  rw[List.nil_append,zipK_keys h]
  exact List.Pairwise.map (R:=fun a b=>a≠b) Sum.inr (fun a b hne e=>hne (Sum.inr.inj e)) nd)
 simpa using this
theorem SheetAt.ext {K:Kf} {H H':Hp} {a:Addr} {ns ss:List Str} (h:SheetAt K H a ns ss) (e:Ext H H'):SheetAt K H' a ns ss:=by
 obtain⟨dx,t1,t2,d,h1,h2,h3,h4⟩:=h
 exact⟨dx,t1,t2,d,e _ _ h1,h2.ext e,e _ _ h3,e _ _ h4⟩
theorem not_pen_zip {ns:List Str} {xs:List V} (h:ns.length=xs.length) (nd:ns.Nodup) (hn:("left":Str)∉ns): ¬isPen (.dK (mergeK [] (zipK ns xs))):=by
 rw[merge_zip h nd]
 rintro⟨c,t,l,e⟩
 have e1:=congrArg (List.map (·.1)) e
 rw[zipK_keys h] at e1
 have e2:(Sum.inr ("left":Str):Key)∈ns.map (Sum.inr:Str→Key):=by
  rw[e1]
  show _∈ [(Sum.inr ("cells":Str):Key),Sum.inr ("turn":Str),Sum.inr ("left":Str)]
  simp
 obtain⟨z,hz,ez⟩:=z37.mp e2
 exact hn (Sum.inr.inj ez▸hz)
theorem left_bad:nameOk "left"=false:=by decide+kernel
theorem SheetAt.kp {K:Kf} {H H':Hp} {a:Addr} {ns ss:List Str} (h:SheetAt K H a ns ss) (k:Kp H H') (nd:ns.Nodup) (hl:ns.length=ss.length) (hn:∀n∈ns,nameOk n=true):SheetAt K H' a ns ss:=by
 obtain⟨dx,t1,t2,d,h1,h2,h3,h4⟩:=h
 exact⟨dx,t1,t2,d,k.keep h1 (fun z=>z),h2.kp k,k.tup h3,k.keep h4 (not_pen_zip (by simp[hl]) nd (fun z=>by
  have:=hn _ z
  rw[left_bad] at this
  cases this))⟩
theorem not_pen_code {c:Addr} {q:Str}: ¬isPen (LamX.CodeO c q):=fun z=>z
theorem not_pen_tbl {ps:Array Value}: ¬isPen (.tbl ps):=fun z=>z
theorem tabs_kp {T:List (Addr × Str)} {H H':Hp} (t:LamX.Tabs T H) (k:Kp H H'):LamX.Tabs T H':=fun p hp=>by
 obtain⟨ps,h1,h2,h3⟩:=t p hp
 refine⟨ps,k.keep h1 not_pen_tbl,h2,fun pos cv hc=> ?_⟩
 obtain⟨c,e,hco⟩:=h3 pos cv hc
 exact⟨c,e,k.keep hco not_pen_code⟩
theorem pen_extN {H H':Hp} {p c:Addr} {n:Nat} (h:PenAt H p c n) (e:LamX.ExtN H H'):PenAt H' p c n:=by
 obtain⟨t,l,ns,h1,h2,h3,h4⟩:=h.ex
 exact⟨t,l,ns,e _ _ h1 (by intro _ z;cases z),e _ _ h2 (by intro _ z;cases z),h3,h4⟩
theorem txtOf_len {ys ss:List Str} {m:Nat} (h:ShOk ys ss m):(txtOf ys ss).length≤3*(m+14):=by
 have hb:=sum_len_le (b:=m+13) (xs:=List.zipWith lineOf ys ss) fun x hx=>by
  obtain⟨i,hi,rfl⟩:=List.mem_iff_getElem.mp hx
  rw[List.length_zipWith] at hi
  have hl:=h.len
  rw[List.getElem_zipWith,lineOf_eq,z15,z15]
  have h1:=(h.row _ (List.getElem_mem (l:=ss) (n:=i) (by omega))).2
  have h2:=h.nm _ (List.getElem_mem (l:=ys) (n:=i) (by omega))
  unfold nameOk at h2
  simp only[Bool.and_eq_true,decide_eq_true_eq] at h2
  have h3:=h2.2.1
  have e1:((" ":Str)).length=1:=rfl
  omega
 have h2:=txt_join_len "\n" (List.zipWith lineOf ys ss)
 have e:(("\n":Str)).length=1:=rfl
 have hz:(List.zipWith lineOf ys ss).length≤3:=by
  rw[List.length_zipWith]
  have:=h.three
  omega
 have h3:(List.zipWith lineOf ys ss).length*(m+13)≤3*(m+13):=Nat.mul_le_mul_right _ hz
 unfold txtOf
 rw[e] at h2
 omega
theorem SeqO.len {H:Hp} {p:Addr} {xs:List V} {K:Kf} (h:SeqO H p xs):SqL K H p xs∨SqT K H p xs:=h.elim (fun h=> .inl (.of h)) fun h=> .inr (.of h)
def wrongAt:Nat→List Str→List Str→Option Nat
 |i,_,[]=>if i=0 then some 0 else none
 |i,seen,n::r=>if i=3∨nameOk n=false∨n∈seen then some i else wrongAt (i+1) (seen++ [n]) r
section
variable {K:Kf} {vs:List V} {H:Hp} {Q:VK} {E:XK}
theorem yVar_at {i:Nat} {σ:L2.St} {H:Hp} {v:V} {Q:VK} (h:σ[i]?=some (some v)) (q:Q v H):yVar i σ H Q:=by
 unfold yVar
 rw[h]
 exact q
end
def SIDES2:List Str:= ["left","right"]
structure MC (K:Kf):Prop where
 barred:∀H,SqT K H (He.ga K "BARRED") (BARRED.map V.str)
theorem at1 {x y:V} {r:List V}:atI (x::y::r) 1=some y:=atI_nat (j:=1) rfl
structure PSt where
 sp:Nat
 pl:Nat
 op:Nat
inductive Tree where
 |bin (k:Str) (a b:Tree)
 |neg (a:Tree)
 |part (k:Str) (w:Option Str)
abbrev PR (α:Type):=Nat ⊕ (α × PSt)
def wd (ws:List Str) (i:Nat):Str:=ws.getD i ""
def takeIf (ws:List Str) (b:Bool) (s:PSt):PR Str:=if b=true∧s.sp<ws.length then .inr (wd ws s.sp,{s with sp:=s.sp+1}) else .inl s.sp
def KINDS7:List Str:= ["filled","edge","on","at","ahead","behind","held"]
def partGood (trs:List Str) (k w:Str):Bool:=if k= "edge" then decide (w∈SIDES2) else if k= "on" then decide (w∈trs) else nameOk w
def partOf (trs ws:List Str) (s:PSt):PR Tree:=
 if s.pl=0 then .inl s.sp else
 match takeIf ws (decide (wd ws s.sp∈KINDS7)) {s with pl:=s.pl-1} with
 | .inl i=> .inl i
 | .inr (k,s1)=>
   if k= "filled" then
    (if wd ws s1.sp∈trs then(match takeIf ws true s1 with
     | .inl i=> .inl i
     | .inr (w,s2)=> .inr (.part k (some w),s2)) else .inr (.part k none,s1))
   else match takeIf ws (partGood trs k (wd ws s1.sp)) s1 with
    | .inl i=> .inl i
    | .inr (w,s2)=> .inr (.part k (some w),s2)
def loopW (S:PSt→PR Tree) (ws:List Str) (k:Str):Nat→Tree→PSt→PR Tree
 |0,t,s=> .inr (t,s)
 |n+1,t,s=>if wd ws s.sp=k then(match S {s with sp:=s.sp+1} with
  | .inl i=> .inl i
  | .inr (t2,s2)=>loopW S ws k n (.bin k t t2) s2) else .inr (t,s)
def allOf (S:PSt→PR Tree) (ws:List Str) (s:PSt):PR Tree:=match S s with
 | .inl i=> .inl i
 | .inr (t,s1)=>loopW S ws "and" ws.length t s1
def anyOf (S:PSt→PR Tree) (ws:List Str) (s:PSt):PR Tree:=match allOf S ws s with
 | .inl i=> .inl i
 | .inr (t,s1)=>loopW (allOf S ws) ws "or" ws.length t s1
def single (trs ws:List Str):Nat→PSt→PR Tree
 |0,s=>if wd ws s.sp∈(["not","("]:List Str) then .inl s.sp else partOf trs ws s
 |n+1,s=>if wd ws s.sp∈(["not","("]:List Str) then
   (if wd ws s.sp= "not" then(match single trs ws n {s with sp:=s.sp+1,op:=s.op+1} with
    | .inl i=> .inl i
    | .inr (t,s2)=> .inr (.neg t,{s2 with op:=s2.op-1}))
   else(match anyOf (single trs ws n) ws {s with sp:=s.sp+1,op:=s.op+1} with
    | .inl i=> .inl i
    | .inr (t,s2)=>(match takeIf ws (decide (wd ws s2.sp= ")")) s2 with
      | .inl i=> .inl i
      | .inr (_,s3)=> .inr (t,{s3 with op:=s3.op-1}))))
  else partOf trs ws s
theorem wd_lt {ws:List Str} {i:Nat} {k:Str} (h:wd ws i=k) (hk:k≠ ""):i<ws.length:=by
 rcases Nat.lt_or_ge i ws.length with z|z
 ·exact z
 ·exfalso
  refine hk ?_
  rw[←h]
  unfold wd
  rw[z14,z25 z]
  rfl
structure WsOk (ws:List Str):Prop where
 len:ws.length≤16777216
 wl:∀x∈ws,x.length<16777216
theorem WsOk.wd {ws:List Str} (h:WsOk ws) (i:Nat):(wd ws i).length<16777216:=by
 unfold Eb.wd
 rw[z14]
 cases e:ws[i]? with
 |none=>decide
 |some x=>exact h.wl x (z11 e)
abbrev RX:Type:=Unit
abbrev rdx (_:RX):List (Str × V):= []
def RdAt (K:Kf) (H:Hp) (a t w:Addr) (trs ws:List Str) (ex:RX) (s:PSt):Prop:=∃dx,H a=some (.ins (He.ga K "Reader") dx (("tracks",.ref t)::("words",.ref w)::("spot",.int (s.sp:Nat))::("parts_left",.int (s.pl:Nat))::("open_ones",.int (s.op:Nat))::rdx ex))∧
 H t=some (.tup (trs.map V.str))∧H w=some (.lst (ws.map V.str))∧(rdx ex).length≤10
inductive TreeAt (H:Hp):V→Tree→Prop
 |bin {p:Addr} {k:Str} {x y:V} {t u:Tree}:H p=some (.tup [.str k,x,y])→TreeAt H x t→TreeAt H y u→TreeAt H (.ref p) (.bin k t u)
 |neg {p:Addr} {x:V} {t:Tree}:H p=some (.tup [.str "not",x])→TreeAt H x t→TreeAt H (.ref p) (.neg t)
 |one {p:Addr} {k w:Str}:H p=some (.tup [.str k,.str w])→TreeAt H (.ref p) (.part k (some w))
 |bare {p:Addr} {k:Str}:H p=some (.tup [.str k,.non])→TreeAt H (.ref p) (.part k none)
theorem TreeAt.keep {H H':Hp} (k:∀p xs,H p=some (.tup xs)→H' p=some (.tup xs)) {v:V} {t:Tree} (h:TreeAt H v t):TreeAt H' v t:=by
 induction h with
 |bin h _ _ i1 i2=>exact .bin (k _ _ h) i1 i2
 |neg h _ i=>exact .neg (k _ _ h) i
 |one h=>exact .one (k _ _ h)
 |bare h=>exact .bare (k _ _ h)
theorem TreeAt.ext {H H':Hp} {v:V} {t:Tree} (h:TreeAt H v t) (e:Ext H H'):TreeAt H' v t:=h.keep fun p xs q=>e p _ q
section
variable {K:Kf} {H H1 H':Hp} {a t w:Addr} {trs ws:List Str} {ex:RX} {s:PSt}
theorem RdAt.ne {b:Addr} {xs:List V} (r:RdAt K H a t w trs ws ex s) (h:H b=some (.tup xs)):b≠a:=fun z=>by
 obtain⟨dx,h1,_⟩:=r
 rw[z,h1] at h
 cases h
theorem RdAt.ext (r:RdAt K H a t w trs ws ex s) (e:Ext H H'):RdAt K H' a t w trs ws ex s:=by
 obtain⟨dx,h1,h2,h3,h4⟩:=r
 exact⟨dx,e _ _ h1,e _ _ h2,e _ _ h3,h4⟩
def ErrW (K:Kf) (a:Addr) (H:Hp) (E:XK) (i:Nat):Prop:=∀(d:Addr) (H':Hp),ExtB a H H'→H d=none→H' d=some (.xd [("index",.int (i:Nat))])→E (.ref (He.ga K "BadSaying")) (some d) H'
def RW (K:Kf) (a t w:Addr) (trs ws:List Str) (ex:RX) (H:Hp) (Q:VK) (E:XK) {α:Type} (rel:Hp→V→α→Prop):PR α→Prop
 | .inl i=>ErrW K a H E i
 | .inr (x,s')=>∀(H':Hp) (v:V),ExtB a H H'→RdAt K H' a t w trs ws ex s'→rel H' v x→Q v H'
theorem ErrW.mono {E:XK} {i:Nat} (h:ErrW K a H E i) (e:ExtB a H H1) (r:RdAt K H1 a t w trs ws ex s):ErrW K a H1 E i:=fun d H' e' hd h'=>by
 refine h d H' (e.trans e') ?_ h'
 cases q:H d with
 |none=>rfl
 |some o=>
  have nd:d≠a:=fun z=>by
   obtain⟨dx,h1,_⟩:=r
   rw[z,h1] at hd
   cases hd
  have:=e d o nd q
  rw[hd] at this
  cases this
theorem RW.mono {α:Type} {Q:VK} {E:XK} {rel:Hp→V→α→Prop} {p:PR α} (h:RW K a t w trs ws ex H Q E rel p) (e:ExtB a H H1) (r:RdAt K H1 a t w trs ws ex s):RW K a t w trs ws ex H1 Q E rel p:=by
 cases p with
 |inl i=>exact ErrW.mono (h:ErrW K a H E i) e r
 |inr x=>
  obtain⟨x,s'⟩:=x
  exact fun H' v e'=>h H' v (e.trans e')
end
section
variable {K:Kf} {vs:List V} {H:Hp} {Q:VK} {E:XK} {N:Nat}
theorem ExtB.out {a:Addr} {H H1 H':Hp} (e:Ext H H1) (ha:H a=none) (eB:ExtB a H1 H'):Ext H H':=fun b o h=>eB b o (fun z=>by rw[z,ha] at h;cases h) (e b o h)
end
theorem eqvAllS:∀{xs ys:List Str},PyData.eqvAll (xs.map fun x=>dataV (.str x)) (ys.map fun x=>dataV (.str x))=decide (xs=ys)
 |[],[]=>rfl
 |[],_::_=>rfl
 |_::_,[]=>rfl
 |x::r,y::s=>by
  have ih:=eqvAllS (xs:=r) (ys:=s)
  show(PyData.eqv (.str x) (.str y)&&PyData.eqvAll (r.map fun x=>dataV (.str x)) (s.map fun x=>dataV (.str x)))=_
  rw[ih]
  by_cases e:x=y
  ·subst e
   simp[PyData.eqv]
  ·simp[PyData.eqv,e]
theorem name_len {n:Str} (h:nameOk n=true):n.length≤12:=by
 unfold nameOk at h
 simp only[Bool.and_eq_true,decide_eq_true_eq] at h
 exact h.2.1
theorem strs_flat {xs:List Str}:(xs.map V.str).all flatV=true:=by simp[flatV]
theorem strs_okV {ns:List Str} (h:∀n∈ns,okV (.str n)=true):(ns.map V.str).all okV=true:=List.all_eq_true.mpr fun z hz=>by
 obtain⟨n,hn,rfl⟩:=z37.mp hz
 exact h n hn
theorem eqvTs {xs ys:List Str}:PyData.eqv (.tuple ((xs.map V.str).map dataV)) (.tuple ((ys.map V.str).map dataV))=decide (xs=ys):=by
 rw[List.map_map,List.map_map]
 exact eqvAllS
def Clean (w:Str):Prop:=1≤w.length∧∀c∈w.cps.toList,c≠32∧c≠10
def okW (t:Str):Prop:=∀c∈t.cps.toList,c<0x110000
structure WordOk (w:Str):Prop where
 len:w.length≤12
 ok:okW w
 cl:Clean w
instance (w:Str):Decidable (okW w):=inferInstanceAs (Decidable (∀c∈w.cps.toList,c<0x110000))
instance (w:Str):Decidable (Clean w):=inferInstanceAs (Decidable (_∧∀c∈w.cps.toList,_))
instance (w:Str):Decidable (WordOk w):=decidable_of_iff (w.length≤12∧okW w∧Clean w) ⟨fun h=>⟨h.1,h.2.1,h.2.2⟩,fun h=>⟨h.1,h.2,h.3⟩⟩
theorem rowTxt_get {cols:List (List Int)} {k i:Nat} (hi:i<cols.length):(rowTxt cols k).cps.toList[i]?=some (cellC ((cols.getD i []).getD k 0)):=by
 unfold rowTxt
 show((cols.map fun bs=>cellC (bs.getD k 0)).toArray).toList[i]?=_
 rw[z10,z9 hi,z14 (l:=cols),z9 hi]
 rfl
theorem name_clean {n:Str} (h:nameOk n=true):Clean n:=by
 unfold nameOk allIn at h
 simp only[Bool.and_eq_true,List.all_eq_true,decide_eq_true_eq] at h
 have hl:∀c∈LETTERS.cps.toList,c≠32∧c≠10:=by decide+kernel
 exact⟨h.1,fun c hc=>hl c (h.2.2.2 c hc)⟩
theorem name_okW {n:Str} (h:nameOk n=true):okW n:=fun c hc=>by
 unfold nameOk allIn at h
 simp only[Bool.and_eq_true,List.all_eq_true,decide_eq_true_eq] at h
 have hl:∀c∈LETTERS.cps.toList,c<0x110000:=by decide+kernel
 exact hl c (h.2.2.2 c hc)
theorem tj_cons {s a:Str} {r:List Str} (h:r≠ []):Txt.join s (a::r)=a++s++Txt.join s r:=by
 rw[TL.join_eq,TL.join_eq]
 cases r with
 |nil=>exact absurd rfl h
 |cons b r=>rfl
theorem join1 (s a:Str):Txt.join s [a]=a:=TL.join_eq _ _
abbrev RP:Str:= ")"
abbrev LP:Str:= "("
abbrev NT:Str:= "not"
theorem bra_clean:∀w∈([LP,RP,NT,"and","or","if","times","end","else"]:List Str),Clean w:=by decide+kernel
theorem line_clean:∀{ws:List Str},ws≠ []→(∀w∈ws,Clean w)→1≤(Txt.join " " ws).length∧∀c∈(Txt.join " " ws).cps.toList,c≠10
 |[a],_,h=>by
  rw[join1]
  exact⟨(h a (by simp)).1,fun c hc=>((h a (by simp)).2 c hc).2⟩
 |a::b::r,_,h=>by
  have ih:=line_clean (ws:=b::r) (by simp) fun w hw=>h w (by simp[List.mem_cons.mp hw])
  rw[tj_cons (by simp)]
  refine⟨?_,fun c hc=> ?_⟩
  ·rw[z15,z15]
   have:=(h a (by simp)).1
   omega
  ·have hc:c∈((a.cps++(" ":Str).cps)++(Txt.join " " (b::r)).cps).toList:=hc
   rw[Array.toList_append,Array.toList_append,List.mem_append,List.mem_append] at hc
   rcases hc with(hc|hc)|hc
   ·exact((h a (by simp)).2 c hc).2
   ·have:c=32:=by
     have:c∈([32]:List Nat):=hc
     simpa using this
    omega
   ·exact ih.2 c hc
theorem name_word {n:Str} (h:nameOk n=true):WordOk n:=⟨name_len h,name_okW h,name_clean h⟩
theorem split_words {ws:List Str} (h0:ws≠ []) (h:∀w∈ws,Clean w):Txt.split (Txt.join " " ws) " "=ws:=by
 have q:=TL.split_join (y:= " ") (s:=32) (S:= []) rfl (by decide+kernel) (parts:=ws) h0 (fun p hp=>fun z=>((h p hp).2 32 z).1 rfl)
 exact q
theorem drop_hd {ws r:List Str} {i:Nat} {x:Str} (h:ws.drop i=x::r):wd ws i=x∧ws.drop (i+1)=r∧i<ws.length:=by
 have hi:i<ws.length:=by
  rcases Nat.lt_or_ge i ws.length with z|z
  ·exact z
  ·rw[List.drop_eq_nil_of_le z] at h;cases h
 rw[List.drop_eq_getElem_cons hi] at h
 injection h with h1 h2
 refine⟨?_,h2,hi⟩
 unfold wd
 rw[z14,z9 hi,h1]
 rfl
theorem drop_nil {ws:List Str} {i:Nat} (h:ws.drop i= []):wd ws i= "":=by
 have hi:ws.length≤i:=List.drop_eq_nil_iff.mp h
 unfold wd
 rw[z14,z25 hi]
 rfl
def Stop (rest:List Str):Prop:=rest= []∨∃r,rest=RP::r
theorem drop_app {ws a b:List Str} {i:Nat} (h:ws.drop i=a++b):ws.drop (i+a.length)=b:=by
 rw[←List.drop_drop,h,List.drop_left]
theorem join2 (s a b:Str):Txt.join s [a,b]=a++s++b:=TL.join_eq _ _
theorem stop_wd {ws rest:List Str} {i:Nat} (h:ws.drop i=rest) (hs:Stop rest):wd ws i= "" ∨wd ws i= ")":=by
 rcases hs with e|⟨r,e⟩
 ·rw[e] at h;exact .inl (drop_nil h)
 ·rw[e] at h;exact .inr (drop_hd h).1
theorem sapp_assoc (a b c:Str):a++b++c=a++(b++c):=by
 show(⟨(a.cps++b.cps)++c.cps⟩:Str)=⟨a.cps++(b.cps++c.cps)⟩
 rw[Array.append_assoc]
theorem stop_ne {w:Str} (h:w= "" ∨w= ")"):w≠ "and" ∧w≠ "or":=by
 rcases h with e|e<;>rw[e]<;>decide+kernel
theorem tj_app {s:Str}:∀{a b:List Str},a≠ []→b≠ []→Txt.join s (a++b)=Txt.join s a++s++Txt.join s b
 |[x],b,_,hb=>by rw[join1,List.singleton_append,tj_cons hb]
 |x::y::r,b,_,hb=>by
  have ih:=tj_app (s:=s) (a:=y::r) (b:=b) (by simp) hb
  rw[List.cons_append,tj_cons (by simp),tj_cons (r:=y::r) (by simp),ih]
  simp only[sapp_assoc]
structure SSt where
 sp:Nat
 pl:Nat
 op:Nat
 bl:Nat
inductive STree where
 |bin (k:Str) (a b:STree)
 |neg (a:STree)
 |fil (x tr:Str)
 |cmp (k x y:Str)
 |blk (k:Str) (ns:List Str) (a:STree)
abbrev SPR (α:Type):=Nat ⊕ (α × SSt)
def stakeIf (ws:List Str) (b:Bool) (s:SSt):SPR Str:=if b=true∧s.sp<ws.length then .inr (wd ws s.sp,{s with sp:=s.sp+1}) else .inl s.sp
def boundL:Option (List Str)→List Str
 |none=> []
 |some ns=>ns
def colOf (ws:List Str) (bd:Option (List Str)) (s:SSt):SPR Str:=stakeIf ws (decide (wd ws s.sp∈(("here":Str)::boundL bd))) s
def KINDS3:List Str:= ["filled","ahead","is"]
def spartOf (trs ws:List Str) (bd:Option (List Str)) (s:SSt):SPR STree:=
 if s.pl=0 then .inl s.sp else
 match colOf ws bd {s with pl:=s.pl-1} with
 | .inl i=> .inl i
 | .inr (x,s1)=>match stakeIf ws (decide (wd ws s1.sp∈KINDS3)) s1 with
   | .inl i=> .inl i
   | .inr (k,s2)=>if k= "filled" then(match stakeIf ws (decide (wd ws s2.sp∈trs)) s2 with
    | .inl i=> .inl i
    | .inr (w,s3)=> .inr (.fil x w,s3))
     else match colOf ws bd s2 with
      | .inl i=> .inl i
      | .inr (y,s3)=> .inr (.cmp k x y,s3)
def snames (ws:List Str):Nat→List Str→SSt→SPR (List Str)
 |0,ns,s=>if wd ws s.sp= "(" then .inr (ns,s) else .inl s.sp
 |n+1,ns,s=>if wd ws s.sp= "(" then .inr (ns,s) else match stakeIf ws (nameOk (wd ws s.sp)&& (!decide (wd ws s.sp∈ns)&&decide (ns.length<3))) s with
  | .inl i=> .inl i
  | .inr (x,s1)=>snames ws n (ns++ [x]) s1
def sblockOf (A:List Str→SSt→SPR STree) (ws:List Str) (bd:Option (List Str)) (s:SSt):SPR STree:=
 match stakeIf ws (bd.isNone&&decide (0<s.bl)) s with
 | .inl i=> .inl i
 | .inr (k,s1)=>match stakeIf ws (nameOk (wd ws s1.sp)) {s1 with bl:=s1.bl-1} with
   | .inl i=> .inl i
   | .inr (x,s2)=>match snames ws ws.length [x] s2 with
     | .inl i=> .inl i
     | .inr (ns,s3)=>match stakeIf ws true s3 with
       | .inl i=> .inl i
       | .inr (_,s4)=>match A ns s4 with
         | .inl i=> .inl i
         | .inr (t,s5)=>match stakeIf ws (decide (wd ws s5.sp= ")")) s5 with
           | .inl i=> .inl i
           | .inr (_,s6)=> .inr (.blk k ns t,s6)
def sloopW (S:SSt→SPR STree) (ws:List Str) (k:Str):Nat→STree→SSt→SPR STree
 |0,t,s=> .inr (t,s)
 |n+1,t,s=>if wd ws s.sp=k then(match S {s with sp:=s.sp+1} with
  | .inl i=> .inl i
  | .inr (t2,s2)=>sloopW S ws k n (.bin k t t2) s2) else .inr (t,s)
def sallOf (S:SSt→SPR STree) (ws:List Str) (s:SSt):SPR STree:=match S s with
 | .inl i=> .inl i
 | .inr (t,s1)=>sloopW S ws "and" ws.length t s1
def sanyOf (S:SSt→SPR STree) (ws:List Str) (s:SSt):SPR STree:=match sallOf S ws s with
 | .inl i=> .inl i
 | .inr (t,s1)=>sloopW (sallOf S ws) ws "or" ws.length t s1
def fuelS (op:Nat) (bd:Option (List Str)):Nat:=11-op+(if bd.isNone then 1 else 0)
def BLOCKS:List Str:= ["all","some"]
def spob (G:Option (List Str)→SSt→SPR STree) (trs ws:List Str) (bd:Option (List Str)) (s:SSt):SPR STree:=
 if wd ws s.sp∈BLOCKS then sblockOf (fun ns=>sanyOf (G (some ns)) ws) ws bd s else spartOf trs ws bd s
def ssingle (trs ws:List Str):Nat→Option (List Str)→SSt→SPR STree
 |0,_,s=> .inl s.sp
 |n+1,bd,s=>if wd ws s.sp∈(["not","("]:List Str) then
   (match stakeIf ws (decide (s.op<10)) s with
   | .inl i=> .inl i
   | .inr (_,s1)=>if wd ws s.sp= "not" then(match ssingle trs ws n bd {s1 with op:=s1.op+1} with
    | .inl i=> .inl i
    | .inr (t,s2)=> .inr (.neg t,{s2 with op:=s2.op-1}))
     else(match sanyOf (ssingle trs ws n bd) ws {s1 with op:=s1.op+1} with
      | .inl i=> .inl i
      | .inr (t,s2)=>(match stakeIf ws (decide (wd ws s2.sp= ")")) s2 with
        | .inl i=> .inl i
        | .inr (_,s3)=> .inr (t,{s3 with op:=s3.op-1}))))
  else spob (ssingle trs ws n) trs ws bd s
def swholeOf (trs ws:List Str) (s:SSt):SPR STree:=match sanyOf (ssingle trs ws (fuelS s.op none) none) ws s with
 | .inl i=> .inl i
 | .inr (t,s1)=>if s1.sp<ws.length then .inl s1.sp else .inr (t,s1)
def SGood (ws:List Str) {α:Type} (S:SSt→SPR α):Prop:=∀s t s',s.sp≤ws.length→S s= .inr (t,s')→s.sp≤s'.sp∧s'.sp≤ws.length∧s'.op=s.op
theorem stakeIf_good {ws:List Str} {b:Bool} {s s':SSt} {x:Str} (h:stakeIf ws b s= .inr (x,s')):s'.sp=s.sp+1∧s'.op=s.op∧s'.sp≤ws.length∧b=true∧s'.pl=s.pl∧s'.bl=s.bl∧x=wd ws s.sp:=by
 unfold stakeIf at h
 split at h
 ·rename_i hh
  cases h
  exact⟨rfl,rfl,hh.2,hh.1,rfl,rfl,rfl⟩
 ·cases h
theorem stake_good {ws:List Str} {b:SSt→Bool}:SGood ws fun s=>stakeIf ws (b s) s:=fun s t s' _ h=>by
 obtain⟨a,b,c,_⟩:=stakeIf_good h
 exact⟨by omega,c,b⟩
theorem colOf_good {ws:List Str} {bd:Option (List Str)}:SGood ws (colOf ws bd):=stake_good
theorem spartOf_good (trs ws:List Str) (bd:Option (List Str)):SGood ws (spartOf trs ws bd):=by
 intro s t s' hs h
 unfold spartOf at h
 split at h
 ·cases h
 ·split at h
  ·cases h
  ·rename_i x s1 h1
   obtain⟨a1,a2,a3⟩:=colOf_good {s with pl:=s.pl-1} _ _ hs h1
   have a1:s.sp≤s1.sp:=a1
   have a3:s1.op=s.op:=a3
   split at h
   ·cases h
   ·rename_i k s2 h2
    obtain⟨b1,b2,b3,_⟩:=stakeIf_good h2
    split at h
    ·split at h
     ·cases h
     ·rename_i w s3 h3
      obtain⟨c1,c2,c3,_⟩:=stakeIf_good h3
      cases h
      exact⟨by omega,c3,by omega⟩
    ·split at h
     ·cases h
     ·rename_i y s3 h3
      obtain⟨c1,c2,c3⟩:=colOf_good _ _ _ b3 h3
      cases h
      exact⟨by omega,c2,by omega⟩
theorem snames_good {ws:List Str}:∀(n:Nat) (ns:List Str),SGood ws (snames ws n ns)
 |0,ns,s,t,s',hs,h=>by
  unfold snames at h
  split at h
  ·cases h;exact⟨z34 _,hs,rfl⟩
  ·cases h
 |n+1,ns,s,t,s',hs,h=>by
  unfold snames at h
  split at h
  ·cases h;exact⟨z34 _,hs,rfl⟩
  ·split at h
   ·cases h
   ·rename_i x s1 h1
    obtain⟨a1,a2,a3,_⟩:=stakeIf_good h1
    obtain⟨b1,b2,b3⟩:=snames_good n _ _ _ _ a3 h
    exact⟨by omega,b2,by omega⟩
theorem sblockOf_good {ws:List Str} {A:List Str→SSt→SPR STree} (hA:∀ns,SGood ws (A ns)) (bd:Option (List Str)):SGood ws (sblockOf A ws bd):=by
 intro s t s' hs h
 unfold sblockOf at h
 split at h
 ·cases h
 ·rename_i k s1 h1
  obtain⟨a1,a2,a3,_⟩:=stakeIf_good h1
  split at h
  ·cases h
  ·rename_i x s2 h2
   obtain⟨b1,b2,b3,_⟩:=stakeIf_good h2
   have b1:s2.sp=s1.sp+1:=b1
   have b2:s2.op=s1.op:=b2
   split at h
   ·cases h
   ·rename_i ns s3 h3
    obtain⟨c1,c2,c3⟩:=snames_good _ _ _ _ _ b3 h3
    split at h
    ·cases h
    ·rename_i y s4 h4
     obtain⟨d1,d2,d3,_⟩:=stakeIf_good h4
     split at h
     ·cases h
     ·rename_i u s5 h5
      obtain⟨e1,e2,e3⟩:=hA ns _ _ _ d3 h5
      split at h
      ·cases h
      ·rename_i z s6 h6
       obtain⟨f1,f2,f3,_⟩:=stakeIf_good h6
       cases h
       exact⟨by omega,f3,by omega⟩
theorem sloopW_good {ws:List Str} {S:SSt→SPR STree} {k:Str} (hk:k≠ "") (hS:SGood ws S):∀(n:Nat) (t:STree),SGood ws (sloopW S ws k n t)
 |0,t,s,t',s',hs,h=>by cases h;exact⟨z34 _,hs,rfl⟩
 |n+1,t,s,t',s',hs,h=>by
  unfold sloopW at h
  split at h
  ·rename_i hw
   have:=wd_lt hw hk
   split at h
   ·cases h
   ·rename_i t2 s2 h2
    obtain⟨a1,a2,a3⟩:=hS _ _ _ (show s.sp+1≤ws.length by omega) h2
    have a1:s.sp+1≤s2.sp:=a1
    have a3:s2.op=s.op:=a3
    obtain⟨b1,b2,b3⟩:=sloopW_good hk hS n _ _ _ _ a2 h
    exact⟨by omega,b2,by omega⟩
  ·cases h;exact⟨z34 _,hs,rfl⟩
theorem sallOf_good {ws:List Str} {S:SSt→SPR STree} (hS:SGood ws S):SGood ws (sallOf S ws):=by
 intro s t s' hs h
 unfold sallOf at h
 split at h
 ·cases h
 ·rename_i t1 s1 h1
  obtain⟨a1,a2,a3⟩:=hS _ _ _ hs h1
  obtain⟨b1,b2,b3⟩:=sloopW_good (by decide) hS _ _ _ _ _ a2 h
  exact⟨by omega,b2,by omega⟩
theorem sanyOf_good {ws:List Str} {S:SSt→SPR STree} (hS:SGood ws S):SGood ws (sanyOf S ws):=by
 intro s t s' hs h
 unfold sanyOf at h
 split at h
 ·cases h
 ·rename_i t1 s1 h1
  obtain⟨a1,a2,a3⟩:=sallOf_good hS _ _ _ hs h1
  obtain⟨b1,b2,b3⟩:=sloopW_good (by decide) (sallOf_good hS) _ _ _ _ _ a2 h
  exact⟨by omega,b2,by omega⟩
theorem ssingle_good (trs ws:List Str):∀n bd,SGood ws (ssingle trs ws n bd)
 |0,bd,s,t,s',hs,h=>by cases h
 |n+1,bd,s,t,s',hs,h=>by
  unfold ssingle at h
  split at h
  ·split at h
   ·cases h
   ·rename_i x s1 h1
    obtain⟨z1,z2,z3,_⟩:=stakeIf_good h1
    split at h
    ·split at h
     ·cases h
     ·rename_i t2 s2 h2
      obtain⟨a1,a2,a3⟩:=ssingle_good trs ws n bd {s1 with op:=s1.op+1} _ _ z3 h2
      have a1:s1.sp≤s2.sp:=a1
      have a3:s2.op=s1.op+1:=a3
      cases h
      exact⟨by show s.sp≤s2.sp;omega,a2,by show s2.op-1=s.op;omega⟩
    ·split at h
     ·cases h
     ·rename_i t2 s2 h2
      obtain⟨a1,a2,a3⟩:=sanyOf_good (ssingle_good trs ws n bd) {s1 with op:=s1.op+1} _ _ z3 h2
      have a1:s1.sp≤s2.sp:=a1
      have a3:s2.op=s1.op+1:=a3
      split at h
      ·cases h
      ·rename_i w s3 h3
       obtain⟨b1,b2,b3,_⟩:=stakeIf_good h3
       cases h
       exact⟨by show s.sp≤s3.sp;omega,b3,by show s3.op-1=s.op;omega⟩
  ·unfold spob at h
   split at h
   ·exact sblockOf_good (fun ns=>sanyOf_good (ssingle_good trs ws n (some ns))) bd _ _ _ hs h
   ·exact spartOf_good trs ws bd _ _ _ hs h
structure DeadW (trs:List Str) (x:Str):Prop where
 key:x∉ (["here","filled","ahead","is","(",")","not","and","or","all","some"]:List Str)
 nm:nameOk x=false
 tr:x∉trs
structure CutW (ws vs:List Str) (p:Nat):Prop where
 le:p≤vs.length
 lt:p≤ws.length
 eq:∀i,i<p→wd vs i=wd ws i
 op:wd vs p≠ "and" ∧wd vs p≠ "or"
def BdOk (bd:Option (List Str)):Prop:=∀n∈boundL bd,nameOk n=true
def Tight (trs vs:List Str) (p:Nat) {α:Type} (S V:SSt→SPR α):Prop:=∀s t s',s.sp≤p→S s= .inr (t,s')→(s'.sp≤p→V s= .inr (t,s'))∧(p<s'.sp→DeadW trs (wd vs p)→V s= .inl p)
def Loose (trs vs:List Str) (p:Nat) {α:Type} (S V:SSt→SPR α):Prop:=∀s t s',s.sp≤p→S s= .inr (t,s')→(s'.sp≤p→V s= .inr (t,s'))∧(p<s'.sp→DeadW trs (wd vs p)→V s= .inl p∨∃t2 s2,V s= .inr (t2,s2)∧s2.sp=p∧p+2≤s'.sp)
theorem Tight.loose {trs vs:List Str} {p:Nat} {α:Type} {S V:SSt→SPR α} (h:Tight trs vs p S V):Loose trs vs p S V:=fun s t s' hs e=>⟨(h s t s' hs e).1,fun z d=> .inl ((h s t s' hs e).2 z d)⟩
section
variable {trs ws vs:List Str} {p:Nat}
theorem stake_cut (c:CutW ws vs p) {b b':Bool} {s s':SSt} {x:Str} (hs:s.sp≤p) (hb:s.sp<p→b'=b) (h:stakeIf ws b s= .inr (x,s')) (hd:s.sp=p→DeadW trs (wd vs p)→b'=false):
 (s'.sp≤p→stakeIf vs b' s= .inr (x,s'))∧(p<s'.sp→DeadW trs (wd vs p)→stakeIf vs b' s= .inl p):=by
 obtain⟨a1,a2,a3,a4,a5,a6,a7⟩:=stakeIf_good h
 constructor
 ·intro z
  have lt:s.sp<p:=by omega
  unfold stakeIf at h⊢
  rw[hb lt,a4]
  rw[if_pos ⟨a4,by omega⟩] at h
  rw[if_pos ⟨rfl,by have:=c.le;omega⟩,c.eq _ lt]
  exact h
 ·intro z d
  have e:s.sp=p:=by omega
  unfold stakeIf
  rw[hd e d,if_neg (fun z=>by cases z.1),e]
theorem col_dead {bd:Option (List Str)} (hb:BdOk bd) {x:Str} (d:DeadW trs x):decide (x∈(("here":Str)::boundL bd))=false:=decide_eq_false fun z=>by
 rcases List.mem_cons.mp z with z|z
 ·exact d.key (by rw[z];simp)
 ·have:=hb x z
  rw[d.nm] at this
  cases this
theorem colOf_cut (c:CutW ws vs p) {bd:Option (List Str)} (hb:BdOk bd):Tight trs vs p (colOf ws bd) (colOf vs bd):=fun s t s' hs h=>
 stake_cut c hs (fun z=>by rw[c.eq _ z]) h fun e d=>by rw[e];exact col_dead hb d
theorem dead_no {x:Str} (d:DeadW trs x) {l:List Str} (h:∀y∈l,y∈(["here","filled","ahead","is","(",")","not","and","or","all","some"]:List Str)):x∉l:=fun z=>d.key (h x z)
theorem spart_cut (c:CutW ws vs p) {bd:Option (List Str)} (hb:BdOk bd):Tight trs vs p (spartOf trs ws bd) (spartOf trs vs bd):=by
 intro s t s' hs h
 unfold spartOf at h⊢
 by_cases pl:s.pl=0
 ·rw[if_pos pl] at h
  cases h
 rw[if_neg pl] at h⊢
 cases h1:colOf ws bd {s with pl:=s.pl-1} with
 |inl i=>rw[h1] at h;cases h
 |inr q=>
  obtain⟨x,s1⟩:=q
  rw[h1] at h
  dsimp only at h
  have g1:=colOf_good (bd:=bd) {s with pl:=s.pl-1} x s1 (Nat.le_trans hs c.lt) h1
  have C1:=colOf_cut (trs:=trs) c hb {s with pl:=s.pl-1} x s1 hs h1
  cases h2:stakeIf ws (decide (wd ws s1.sp∈KINDS3)) s1 with
  |inl i=>rw[h2] at h;cases h
  |inr q2=>
   obtain⟨kk,s2⟩:=q2
   rw[h2] at h
   dsimp only at h
   have g2:=stakeIf_good h2
   by_cases p1:s1.sp≤p
   ·rw[C1.1 p1]
    dsimp only
    have C2:=stake_cut (trs:=trs) c (b':=decide (wd vs s1.sp∈KINDS3)) p1 (fun z=>by rw[c.eq _ z]) h2 (fun e d=>decide_eq_false (by rw[e];exact dead_no d (by decide+kernel)))
    by_cases p2:s2.sp≤p
    ·rw[C2.1 p2]
     dsimp only
     by_cases kf:kk= "filled"
     ·rw[if_pos kf] at h⊢
      cases h3:stakeIf ws (decide (wd ws s2.sp∈trs)) s2 with
      |inl i=>rw[h3] at h;cases h
      |inr q3=>
       obtain⟨w,s3⟩:=q3
       rw[h3] at h
       cases h
       have C3:=stake_cut (trs:=trs) c (b':=decide (wd vs s2.sp∈trs)) p2 (fun z=>by rw[c.eq _ z]) h3 (fun e d=>decide_eq_false (by rw[e];exact d.tr))
       exact⟨fun z=>by rw[C3.1 z],fun z d=>by rw[C3.2 z d]⟩
     ·rw[if_neg kf] at h⊢
      cases h3:colOf ws bd s2 with
      |inl i=>rw[h3] at h;cases h
      |inr q3=>
       obtain⟨w,s3⟩:=q3
       rw[h3] at h
       cases h
       have C3:=colOf_cut (trs:=trs) c hb s2 w s' p2 h3
       exact⟨fun z=>by rw[C3.1 z],fun z d=>by rw[C3.2 z d]⟩
    ·have l2:s2.sp≤s'.sp:=by
       have q:s2.sp≤ws.length:=g2.2.2.1
       by_cases kf:kk= "filled"
       ·rw[if_pos kf] at h
        cases h3:stakeIf ws (decide (wd ws s2.sp∈trs)) s2 with
        |inl i=>rw[h3] at h;cases h
        |inr q3=>rw[h3] at h;cases h;have:=(stakeIf_good h3).1;omega
       ·rw[if_neg kf] at h
        cases h3:colOf ws bd s2 with
        |inl i=>rw[h3] at h;cases h
        |inr q3=>rw[h3] at h;cases h;exact(colOf_good s2 _ _ q h3).1
     exact⟨fun z=>by omega,fun z d=>by rw[C2.2 (by omega) d]⟩
   ·have l1:s1.sp≤s'.sp:=by
       have q:s2.sp≤ws.length:=g2.2.2.1
       have q1:=g2.1
       by_cases kf:kk= "filled"
       ·rw[if_pos kf] at h
        cases h3:stakeIf ws (decide (wd ws s2.sp∈trs)) s2 with
        |inl i=>rw[h3] at h;cases h
        |inr q3=>rw[h3] at h;cases h;have:=(stakeIf_good h3).1;omega
       ·rw[if_neg kf] at h
        cases h3:colOf ws bd s2 with
        |inl i=>rw[h3] at h;cases h
        |inr q3=>rw[h3] at h;cases h;have:=(colOf_good s2 _ _ q h3).1;omega
    exact⟨fun z=>by omega,fun z d=>by rw[C1.2 (by omega) d]⟩
theorem snames_cut (c:CutW ws vs p):∀(n m:Nat) (ns:List Str) (s s':SSt) (r:List Str),s.sp≤p→p-s.sp≤m→snames ws n ns s= .inr (r,s')→
 (s'.sp<p→snames vs m ns s= .inr (r,s'))∧(p≤s'.sp→DeadW trs (wd vs p)→snames vs m ns s= .inl p):=by
 have stop:∀(m:Nat) (ns:List Str) (s:SSt),s.sp=p→DeadW trs (wd vs p)→snames vs m ns s= .inl p:=fun m ns s e d=>by
  have nb:wd vs s.sp≠ "(":=fun z=>d.key (by rw[←e,z];simp)
  cases m with
  |zero=>
   unfold snames
   rw[if_neg nb,e]
  |succ m=>
   unfold snames
   rw[if_neg nb]
   have:stakeIf vs (nameOk (wd vs s.sp)&& (!decide (wd vs s.sp∈ns)&&decide (ns.length<3))) s= .inl p:=by
        unfold stakeIf
        rw[if_neg (fun z=>by rw[e,d.nm] at z;cases z.1),e]
   rw[this]
 have openB:∀(m:Nat) (ns:List Str) (s:SSt),wd vs s.sp= "(" →snames vs m ns s= .inr (ns,s):=fun m ns s e=>by
  cases m<;>(unfold snames;rw[if_pos e])
 intro n
 induction n with
 |zero=>
  intro m ns s s' r hs hm h
  unfold snames at h
  by_cases e:wd ws s.sp= "("
  ·rw[if_pos e] at h
   cases h
   exact⟨fun z=>openB _ _ _ (by rw[c.eq _ z];exact e),fun z d=>stop _ _ _ (by omega) d⟩
  ·rw[if_neg e] at h
   cases h
 |succ n ih=>
  intro m ns s s' r hs hm h
  unfold snames at h
  by_cases e:wd ws s.sp= "("
  ·rw[if_pos e] at h
   cases h
   exact⟨fun z=>openB _ _ _ (by rw[c.eq _ z];exact e),fun z d=>stop _ _ _ (by omega) d⟩
  ·rw[if_neg e] at h
   cases h1:stakeIf ws (nameOk (wd ws s.sp)&& (!decide (wd ws s.sp∈ns)&&decide (ns.length<3))) s with
   |inl i=>rw[h1] at h;cases h
   |inr q=>
    obtain⟨x,s1⟩:=q
    rw[h1] at h
    dsimp only at h
    have g1:=stakeIf_good h1
    have g2:=snames_good n _ _ _ _ g1.2.2.1 h
    by_cases lt:s.sp<p
    ·obtain⟨m,rfl⟩:∃j,m=j+1:=⟨m-1,by omega⟩
     have C1:=stake_cut (trs:=trs) c (b':=nameOk (wd vs s.sp)&& (!decide (wd vs s.sp∈ns)&&decide (ns.length<3))) hs (fun z=>by rw[c.eq _ z]) h1 (fun z d=>by rw[z,d.nm];rfl)
     have I:=ih m (ns++ [x]) s1 s' r (by have:=g1.1;omega) (by have:=g1.1;omega) h
     unfold snames
     rw[c.eq _ lt,if_neg e,←c.eq _ lt,C1.1 (by have:=g1.1;omega)]
     exact I
    ·exact⟨fun z=>by have:=g1.1;have:=g2.1;omega,fun z d=>stop _ _ _ (by omega) d⟩
theorem snames_ok:∀(n:Nat) (ns:List Str) (s s':SSt) (r:List Str),(∀x∈ns,nameOk x=true)→snames ws n ns s= .inr (r,s')→∀x∈r,nameOk x=true
 |0,ns,s,s',r,hn,h=>by
  unfold snames at h
  split at h
  ·cases h;exact hn
  ·cases h
 |n+1,ns,s,s',r,hn,h=>by
  unfold snames at h
  split at h
  ·cases h;exact hn
  ·split at h
   ·cases h
   ·rename_i x s1 h1
    obtain⟨_,_,_,b,_,_,ex⟩:=stakeIf_good h1
    refine snames_ok n _ _ _ _ (fun y hy=> ?_) h
    rcases z36.mp hy with z|z
    ·exact hn y z
    ·rw[z32.mp z,ex]
     rw[Bool.and_eq_true] at b
     exact b.1
theorem sloop_cut (c:CutW ws vs p) {k:Str} (hk:k= "and" ∨k= "or") {S V:SSt→SPR STree} (hS:Loose trs vs p S V) (gS:SGood ws S) (pS:∀s t s',s.sp≤ws.length→S s= .inr (t,s')→s.sp+1≤s'.sp):∀(n m:Nat) (t:STree) (s:SSt) (t':STree) (s':SSt),s.sp≤p→p-s.sp≤m→ws.length<n+s.sp→s.sp≤ws.length→sloopW S ws k n t s= .inr (t',s')→
 (s'.sp≤p→sloopW V vs k m t s= .inr (t',s'))∧(p<s'.sp→DeadW trs (wd vs p)→sloopW V vs k m t s= .inl p∨∃t2 s2,sloopW V vs k m t s= .inr (t2,s2)∧s2.sp=p∧p+2≤s'.sp):=by
 have nk:wd vs p≠k:=by rcases hk with rfl|rfl;exact c.op.1;exact c.op.2
 have stop:∀(m:Nat) (t:STree) (s:SSt),wd vs s.sp≠k→sloopW V vs k m t s= .inr (t,s):=fun m t s h=>by
  cases m with
  |zero=>rfl
  |succ m=>unfold sloopW;rw[if_neg h]
 have k0:k≠ "":=by rcases hk with rfl|rfl<;>decide+kernel
 intro n
 induction n with
 |zero=>intro m t s t' s' _ _ h1 h2 _;omega
 |succ n ih=>
  intro m t s t' s' hs hm hn hw h
  unfold sloopW at h
  by_cases e:wd ws s.sp=k
  ·rw[if_pos e] at h
   have lw:=wd_lt e k0
   cases h1:S {s with sp:=s.sp+1} with
   |inl i=>rw[h1] at h;cases h
   |inr q=>
    obtain⟨t2,s2⟩:=q
    rw[h1] at h
    dsimp only at h
    have pr:=pS {s with sp:=s.sp+1} _ _ (show s.sp+1≤ws.length by omega) h1
    have pr:s.sp+2≤s2.sp:=pr
    have g1:=gS {s with sp:=s.sp+1} _ _ (show s.sp+1≤ws.length by omega) h1
    have g2:=sloopW_good k0 gS n _ _ _ _ g1.2.1 h
    by_cases lt:s.sp<p
    ·obtain⟨m,rfl⟩:∃j,m=j+1:=⟨m-1,by omega⟩
     have L:=hS {s with sp:=s.sp+1} t2 s2 (show s.sp+1≤p by omega) h1
     have ev:wd vs s.sp=k:=by rw[c.eq _ lt];exact e
     by_cases p2:s2.sp≤p
     ·have I:=ih m (.bin k t t2) s2 t' s' p2 (by omega) (by omega) g1.2.1 h
      unfold sloopW
      rw[if_pos ev,L.1 p2]
      exact I
     ·refine⟨fun z=>by have:=g2.1;omega,fun z d=> ?_⟩
      unfold sloopW
      rw[if_pos ev]
      rcases L.2 (by omega) d with r|⟨t3,s3,r,e3,l3⟩
      ·rw[r]
       exact .inl rfl
      ·rw[r]
       dsimp only
       rw[stop m _ s3 (by rw[e3];exact nk)]
       exact .inr ⟨_,s3,rfl,e3,by have:=g2.1;omega⟩
    ·have ep:s.sp=p:=by omega
     refine⟨fun z=>by have:=g2.1;omega,fun z d=> ?_⟩
     rw[stop m t s (by rw[ep];exact nk)]
     exact .inr ⟨_,s,rfl,ep,by have:=g2.1;omega⟩
  ·rw[if_neg e] at h
   cases h
   refine⟨fun _=>stop m t s ?_,fun z=>by omega⟩
   by_cases lt:s.sp<p
   ·rw[c.eq _ lt]
    exact e
   ·rw[show s.sp=p by omega]
    exact nk
theorem sall_cut (c:CutW ws vs p) {S V:SSt→SPR STree} (hS:Loose trs vs p S V) (gS:SGood ws S) (pS:∀s t s',s.sp≤ws.length→S s= .inr (t,s')→s.sp+1≤s'.sp):Loose trs vs p (sallOf S ws) (sallOf V vs):=by
 intro s t s' hs h
 unfold sallOf at h⊢
 cases h1:S s with
 |inl i=>rw[h1] at h;cases h
 |inr q=>
  obtain⟨t1,s1⟩:=q
  rw[h1] at h
  dsimp only at h
  have pr:=pS _ _ _ (Nat.le_trans hs c.lt) h1
  have g1:=gS s _ _ (Nat.le_trans hs c.lt) h1
  have g2:=sloopW_good (by decide) gS _ _ _ _ _ g1.2.1 h
  have L:=hS s t1 s1 hs h1
  by_cases p1:s1.sp≤p
  ·rw[L.1 p1]
   exact sloop_cut c (.inl rfl) hS gS pS ws.length vs.length t1 s1 t s' p1 (by have:=c.le;omega) (by omega) g1.2.1 h
  ·refine⟨fun z=>by have:=g2.1;omega,fun z d=> ?_⟩
   rcases L.2 (by omega) d with r|⟨t3,s3,r,e3,l3⟩
   ·rw[r]
    exact .inl rfl
   ·rw[r]
    dsimp only
    refine .inr ⟨t3,s3,?_,e3,by have:=g2.1;omega⟩
    cases vs.length with
    |zero=>rfl
    |succ m=>unfold sloopW;rw[if_neg (by rw[e3];exact c.op.1)]
theorem sall_pr {S:SSt→SPR STree} (gS:SGood ws S) (pS:∀s t s',s.sp≤ws.length→S s= .inr (t,s')→s.sp+1≤s'.sp):∀s t s',s.sp≤ws.length→sallOf S ws s= .inr (t,s')→s.sp+1≤s'.sp:=by
 intro s t s' hw h
 unfold sallOf at h
 cases h1:S s with
 |inl i=>rw[h1] at h;cases h
 |inr q=>
  obtain⟨t1,s1⟩:=q
  rw[h1] at h
  dsimp only at h
  have pr:=pS _ _ _ hw h1
  have g2:=sloopW_good (by decide) gS _ _ _ _ _ (gS _ _ _ hw h1).2.1 h
  have:=g2.1
  omega
theorem sany_cut (c:CutW ws vs p) {S V:SSt→SPR STree} (hS:Loose trs vs p S V) (gS:SGood ws S) (pS:∀s t s',s.sp≤ws.length→S s= .inr (t,s')→s.sp+1≤s'.sp):Loose trs vs p (sanyOf S ws) (sanyOf V vs):=by
 have hA:=sall_cut c hS gS pS
 have gA:=sallOf_good gS
 have pA:=sall_pr gS pS
 intro s t s' hs h
 unfold sanyOf at h⊢
 cases h1:sallOf S ws s with
 |inl i=>rw[h1] at h;cases h
 |inr q=>
  obtain⟨t1,s1⟩:=q
  rw[h1] at h
  dsimp only at h
  have pr:=pA _ _ _ (Nat.le_trans hs c.lt) h1
  have g1:=gA s _ _ (Nat.le_trans hs c.lt) h1
  have g2:=sloopW_good (by decide) gA _ _ _ _ _ g1.2.1 h
  have L:=hA s t1 s1 hs h1
  by_cases p1:s1.sp≤p
  ·rw[L.1 p1]
   exact sloop_cut c (.inr rfl) hA gA pA ws.length vs.length t1 s1 t s' p1 (by have:=c.le;omega) (by omega) g1.2.1 h
  ·refine⟨fun z=>by have:=g2.1;omega,fun z d=> ?_⟩
   rcases L.2 (by omega) d with r|⟨t3,s3,r,e3,l3⟩
   ·rw[r]
    exact .inl rfl
   ·rw[r]
    dsimp only
    refine .inr ⟨t3,s3,?_,e3,by have:=g2.1;omega⟩
    cases vs.length with
    |zero=>rfl
    |succ m=>unfold sloopW;rw[if_neg (by rw[e3];exact c.op.2)]
theorem sblock_cut (c:CutW ws vs p) {A A':List Str→SSt→SPR STree} (hA:∀ns,(∀x∈ns,nameOk x=true)→Loose trs vs p (A ns) (A' ns)) (gA:∀ns,SGood ws (A ns)) {bd:Option (List Str)} {s s':SSt} {t:STree} (hs:s.sp<p) (h:sblockOf A ws bd s= .inr (t,s')):
 (s'.sp≤p→sblockOf A' vs bd s= .inr (t,s'))∧(p<s'.sp→DeadW trs (wd vs p)→sblockOf A' vs bd s= .inl p):=by
 unfold sblockOf at h⊢
 cases h1:stakeIf ws (bd.isNone&&decide (0<s.bl)) s with
 |inl i=>rw[h1] at h;cases h
 |inr q1=>
 obtain⟨k,s1⟩:=q1
 rw[h1] at h
 dsimp only at h
 have g1:=stakeIf_good h1
 have C1:=stake_cut (trs:=trs) c (b':=bd.isNone&&decide (0<s.bl)) (by omega:s.sp≤p) (fun _=>rfl) h1 (fun e _=>by omega)
 rw[C1.1 (by have:=g1.1;omega)]
 dsimp only
 cases h2:stakeIf ws (nameOk (wd ws s1.sp)) {s1 with bl:=s1.bl-1} with
 |inl i=>rw[h2] at h;cases h
 |inr q2=>
 obtain⟨x,s2⟩:=q2
 rw[h2] at h
 dsimp only at h
 have g2:=stakeIf_good h2
 have g21:s2.sp=s1.sp+1:=g2.1
 have C2:=stake_cut (trs:=trs) c (s:={s1 with bl:=s1.bl-1}) (b':=nameOk (wd vs s1.sp)) (show s1.sp≤p by have:=g1.1;omega) (fun z=>by rw[c.eq _ z]) h2 (fun e d=>by have e:s1.sp=p:=e;rw[e];exact d.nm)
 cases h3:snames ws ws.length [x] s2 with
 |inl i=>rw[h3] at h;cases h
 |inr q3=>
 obtain⟨ns,s3⟩:=q3
 rw[h3] at h
 dsimp only at h
 have g3:=snames_good _ _ _ _ _ g2.2.2.1 h3
 cases h4:stakeIf ws true s3 with
 |inl i=>rw[h4] at h;cases h
 |inr q4=>
 obtain⟨y,s4⟩:=q4
 rw[h4] at h
 dsimp only at h
 have g4:=stakeIf_good h4
 cases h5:A ns s4 with
 |inl i=>rw[h5] at h;cases h
 |inr q5=>
 obtain⟨u,s5⟩:=q5
 rw[h5] at h
 dsimp only at h
 have g5:=gA ns _ _ _ g4.2.2.1 h5
 cases h6:stakeIf ws (decide (wd ws s5.sp= ")")) s5 with
 |inl i=>rw[h6] at h;cases h
 |inr q6=>
 obtain⟨z6,s6⟩:=q6
 rw[h6] at h
 cases h
 have g6:=stakeIf_good h6
 have m3:=g3.1
 have m4:=g4.1
 have m5:=g5.1
 have m6:=g6.1
 by_cases p2:s2.sp≤p
 ·rw[C2.1 p2]
  dsimp only
  have C3:=snames_cut (trs:=trs) c ws.length vs.length [x] s2 s3 ns p2 (by have:=c.le;omega) h3
  by_cases p3:s3.sp<p
  ·rw[C3.1 p3]
   dsimp only
   have C4:=stake_cut (trs:=trs) c (b':=true) (by omega:s3.sp≤p) (fun _=>rfl) h4 (fun e _=>by omega)
   rw[C4.1 (by omega)]
   dsimp only
   have nk:∀x∈ns,nameOk x=true:=snames_ok _ _ _ _ _ (fun w hw=>by
     rw[z32.mp hw,g2.2.2.2.2.2.2]
     exact g2.2.2.2.1) h3
   have L:=hA ns nk s4 u s5 (by omega) h5
   by_cases p5:s5.sp≤p
   ·rw[L.1 p5]
    dsimp only
    have C6:=stake_cut (trs:=trs) c (b':=decide (wd vs s5.sp= ")")) p5 (fun z=>by rw[c.eq _ z]) h6 (fun e d=>decide_eq_false fun z=>d.key (by rw[←e,z];simp))
    exact⟨fun z=>by rw[C6.1 z],fun z d=>by rw[C6.2 z d]⟩
   ·refine⟨fun z=>by omega,fun z d=> ?_⟩
    rcases L.2 (by omega) d with r|⟨t3,s7,r,e7,l7⟩
    ·rw[r]
    ·rw[r]
     dsimp only
     have:stakeIf vs (decide (wd vs s7.sp= ")")) s7= .inl p:=by
      unfold stakeIf
      rw[if_neg (fun z=>by
        have z1:=of_decide_eq_true z.1
        exact d.key (by rw[←e7,z1];simp)),e7]
     rw[this]
  ·refine⟨fun z=>by omega,fun z d=> ?_⟩
   rw[C3.2 (by omega) d]
 ·refine⟨fun z=>by omega,fun z d=> ?_⟩
  rw[C2.2 (by omega) d]
theorem ssingle_pr:∀(n:Nat) (bd:Option (List Str)) (s:SSt) (t:STree) (s':SSt),s.sp≤ws.length→ssingle trs ws n bd s= .inr (t,s')→s.sp+1≤s'.sp
 |0,bd,s,t,s',hs,h=>by cases h
 |n+1,bd,s,t,s',hs,h=>by
  unfold ssingle at h
  split at h
  ·split at h
   ·cases h
   ·rename_i x s1 h1
    obtain⟨z1,z2,z3,_⟩:=stakeIf_good h1
    split at h
    ·split at h
     ·cases h
     ·rename_i t2 s2 h2
      obtain⟨a1,a2,a3⟩:=ssingle_good trs ws n bd {s1 with op:=s1.op+1} _ _ z3 h2
      have a1:s1.sp≤s2.sp:=a1
      cases h
      show s.sp+1≤s2.sp
      omega
    ·split at h
     ·cases h
     ·rename_i t2 s2 h2
      obtain⟨a1,a2,a3⟩:=sanyOf_good (ssingle_good trs ws n bd) {s1 with op:=s1.op+1} _ _ z3 h2
      have a1:s1.sp≤s2.sp:=a1
      split at h
      ·cases h
      ·rename_i w s3 h3
       obtain⟨b1,b2,b3,_⟩:=stakeIf_good h3
       cases h
       show s.sp+1≤s3.sp
       omega
  ·unfold spob at h
   split at h
   ·unfold sblockOf at h
    cases h1:stakeIf ws (bd.isNone&&decide (0<s.bl)) s with
    |inl i=>rw[h1] at h;cases h
    |inr q1=>
    obtain⟨k,s1⟩:=q1
    rw[h1] at h
    dsimp only at h
    have g1:=stakeIf_good h1
    cases h2:stakeIf ws (nameOk (wd ws s1.sp)) {s1 with bl:=s1.bl-1} with
    |inl i=>rw[h2] at h;cases h
    |inr q2=>
    obtain⟨x,s2⟩:=q2
    rw[h2] at h
    dsimp only at h
    have g2:=stakeIf_good h2
    have g21:s2.sp=s1.sp+1:=g2.1
    cases h3:snames ws ws.length [x] s2 with
    |inl i=>rw[h3] at h;cases h
    |inr q3=>
    obtain⟨ns,s3⟩:=q3
    rw[h3] at h
    dsimp only at h
    have g3:=snames_good _ _ _ _ _ g2.2.2.1 h3
    cases h4:stakeIf ws true s3 with
    |inl i=>rw[h4] at h;cases h
    |inr q4=>
    obtain⟨y,s4⟩:=q4
    rw[h4] at h
    dsimp only at h
    have g4:=stakeIf_good h4
    cases h5:sanyOf (ssingle trs ws n (some ns)) ws s4 with
    |inl i=>rw[h5] at h;cases h
    |inr q5=>
    obtain⟨u,s5⟩:=q5
    rw[h5] at h
    dsimp only at h
    have g5:=sanyOf_good (ssingle_good trs ws n (some ns)) _ _ _ g4.2.2.1 h5
    cases h6:stakeIf ws (decide (wd ws s5.sp= ")")) s5 with
    |inl i=>rw[h6] at h;cases h
    |inr q6=>
    obtain⟨z6,s6⟩:=q6
    rw[h6] at h
    cases h
    have g6:=stakeIf_good h6
    have:=g1.1
    have:=g3.1
    have:=g4.1
    have:=g5.1
    have:=g6.1
    omega
   ·unfold spartOf at h
    by_cases pl:s.pl=0
    ·rw[if_pos pl] at h
     cases h
    rw[if_neg pl] at h
    cases h1:colOf ws bd {s with pl:=s.pl-1} with
    |inl i=>rw[h1] at h;cases h
    |inr q1=>
    obtain⟨k,s1⟩:=q1
    rw[h1] at h
    dsimp only at h
    have g1:=(stakeIf_good h1).1
    have g1:s1.sp=s.sp+1:=g1
    cases h2:stakeIf ws (decide (wd ws s1.sp∈KINDS3)) s1 with
    |inl i=>rw[h2] at h;cases h
    |inr q2=>
    obtain⟨kk,s2⟩:=q2
    rw[h2] at h
    dsimp only at h
    have g2:=stakeIf_good h2
    by_cases kf:kk= "filled"
    ·rw[if_pos kf] at h
     cases h3:stakeIf ws (decide (wd ws s2.sp∈trs)) s2 with
     |inl i=>rw[h3] at h;cases h
     |inr q3=>rw[h3] at h;cases h;have:=(stakeIf_good h3).1;have:=g2.1;omega
    ·rw[if_neg kf] at h
     cases h3:colOf ws bd s2 with
     |inl i=>rw[h3] at h;cases h
     |inr q3=>rw[h3] at h;cases h;have:=(colOf_good s2 _ _ g2.2.2.1 h3).1;have:=g2.1;omega
theorem single_dead {bd:Option (List Str)} (hb:BdOk bd) (n:Nat) (s:SSt) (e:s.sp=p) (d:DeadW trs (wd vs p)):ssingle trs vs n bd s= .inl p:=by
 cases n with
 |zero=>show(.inl s.sp:SPR STree)=_;rw[e]
 |succ n=>
  unfold ssingle
  rw[if_neg (by rw[e];exact dead_no d (by decide+kernel))]
  unfold spob
  rw[if_neg (by rw[e];exact dead_no d (by decide+kernel))]
  unfold spartOf
  split
  ·rw[e]
  ·have:colOf vs bd {s with pl:=s.pl-1}= .inl p:=by
        unfold colOf stakeIf
        have z:=col_dead hb d
        rw[show wd vs ({s with pl:=s.pl-1}:SSt).sp=wd vs p by rw[←e],z,if_neg (fun z=>by cases z.1)]
        show(.inl s.sp:SPR Str)=_
        rw[e]
   rw[this]
theorem single_cut (c:CutW ws vs p):∀(n:Nat) (bd:Option (List Str)),BdOk bd→Tight trs vs p (ssingle trs ws n bd) (ssingle trs vs n bd)
 |0,bd,hb,s,t,s',hs,h=>by cases h
 |n+1,bd,hb,s,t,s',hs,h=>by
  by_cases lt:s.sp<p
  case neg=>
   have e:s.sp=p:=by omega
   have pr:=ssingle_pr (n+1) bd s t s' (Nat.le_trans hs c.lt) h
   exact⟨fun z=>by omega,fun z d=>single_dead hb _ s e d⟩
  have ev:=c.eq _ lt
  unfold ssingle at h⊢
  rw[ev]
  by_cases hw:wd ws s.sp∈(["not","("]:List Str)
  ·rw[if_pos hw] at h⊢
   cases h1:stakeIf ws (decide (s.op<10)) s with
   |inl i=>rw[h1] at h;cases h
   |inr q1=>
   obtain⟨x,s1⟩:=q1
   rw[h1] at h
   dsimp only at h
   have g1:=stakeIf_good h1
   have C1:=stake_cut (trs:=trs) c (b':=decide (s.op<10)) hs (fun _=>rfl) h1 (fun e _=>by omega)
   rw[C1.1 (by have:=g1.1;omega)]
   dsimp only
   by_cases hn:wd ws s.sp= "not"
   ·rw[if_pos hn] at h⊢
    cases h2:ssingle trs ws n bd {s1 with op:=s1.op+1} with
    |inl i=>rw[h2] at h;cases h
    |inr q2=>
    obtain⟨t2,s2⟩:=q2
    rw[h2] at h
    cases h
    have T:=single_cut c n bd hb {s1 with op:=s1.op+1} t2 s2 (show s1.sp≤p by have:=g1.1;omega) h2
    exact⟨fun z=>by have z:s2.sp≤p:=z;rw[T.1 z],fun z d=>by have z:p<s2.sp:=z;rw[T.2 z d]⟩
   ·rw[if_neg hn] at h⊢
    cases h2:sanyOf (ssingle trs ws n bd) ws {s1 with op:=s1.op+1} with
    |inl i=>rw[h2] at h;cases h
    |inr q2=>
    obtain⟨t2,s2⟩:=q2
    rw[h2] at h
    dsimp only at h
    have g2:=sanyOf_good (ssingle_good trs ws n bd) {s1 with op:=s1.op+1} _ _ g1.2.2.1 h2
    have L:=sany_cut c (single_cut c n bd hb).loose (ssingle_good trs ws n bd) (ssingle_pr n bd) {s1 with op:=s1.op+1} t2 s2 (show s1.sp≤p by have:=g1.1;omega) h2
    cases h3:stakeIf ws (decide (wd ws s2.sp= ")")) s2 with
    |inl i=>rw[h3] at h;cases h
    |inr q3=>
    obtain⟨w,s3⟩:=q3
    rw[h3] at h
    cases h
    have g3:=stakeIf_good h3
    by_cases p2:s2.sp≤p
    ·rw[L.1 p2]
     dsimp only
     have C3:=stake_cut (trs:=trs) c (b':=decide (wd vs s2.sp= ")")) p2 (fun z=>by rw[c.eq _ z]) h3 (fun e d=>decide_eq_false fun z=>d.key (by rw[←e,z];simp))
     exact⟨fun z=>by have z:s3.sp≤p:=z;rw[C3.1 z],fun z d=>by have z:p<s3.sp:=z;rw[C3.2 z d]⟩
    ·refine⟨fun z=>by have z:s3.sp≤p:=z;have:=g3.1;omega,fun z d=> ?_⟩
     rcases L.2 (by omega) d with r|⟨t3,s7,r,e7,l7⟩
     ·rw[r]
     ·rw[r]
      dsimp only
      have:stakeIf vs (decide (wd vs s7.sp= ")")) s7= .inl p:=by
       unfold stakeIf
       rw[if_neg (fun z=>by
         have z1:=of_decide_eq_true z.1
         exact d.key (by rw[←e7,z1];simp)),e7]
      rw[this]
  ·rw[if_neg hw] at h⊢
   unfold spob at h⊢
   rw[ev]
   by_cases hbl:wd ws s.sp∈BLOCKS
   ·rw[if_pos hbl] at h⊢
    exact sblock_cut c (A:=fun ns=>sanyOf (ssingle trs ws n (some ns)) ws) (A':=fun ns=>sanyOf (ssingle trs vs n (some ns)) vs) (fun ns hn=>sany_cut c (single_cut c n (some ns) hn).loose (ssingle_good trs ws n (some ns)) (ssingle_pr n (some ns))) (fun ns=>sanyOf_good (ssingle_good trs ws n (some ns))) lt h
   ·rw[if_neg hbl] at h⊢
    exact spart_cut c hb s t s' hs h
theorem whole_cut (c:CutW ws vs p) {s s':SSt} {t:STree} (h0:s.sp=0) (h:swholeOf trs ws s= .inr (t,s')) (hp:p<ws.length→DeadW trs (wd vs p)∧(p<vs.length∨ws.length=p+1)) (hq:p=ws.length→p<vs.length):swholeOf trs vs s= .inl p:=by
 unfold swholeOf at h⊢
 cases h1:sanyOf (ssingle trs ws (fuelS s.op none) none) ws s with
 |inl i=>rw[h1] at h;cases h
 |inr q1=>
 obtain⟨t1,s1⟩:=q1
 rw[h1] at h
 dsimp only at h
 have g1:=sanyOf_good (ssingle_good trs ws _ none) s _ _ (by omega) h1
 have es:ws.length≤s1.sp:=by
  by_cases z:s1.sp<ws.length
  ·rw[if_pos z] at h
   cases h
  ·omega
 have L:=sany_cut (trs:=trs) c (single_cut c (fuelS s.op none) none (fun n hn=>by cases hn)).loose (ssingle_good trs ws _ none) (ssingle_pr _ none) s t1 s1 (by omega) h1
 have cl:=c.lt
 have s1l:=g1.2.1
 by_cases pe:p=ws.length
 ·rw[L.1 (by omega)]
  dsimp only
  have:=hq pe
  rw[if_pos (by omega),show s1.sp=p by omega]
 ·obtain⟨d,hv⟩:=hp (by omega)
  rcases L.2 (by omega) d with r|⟨t3,s7,r,e7,l7⟩
  ·rw[r]
  ·rw[r]
   dsimp only
   rcases hv with hv|hv
   ·rw[if_pos (by omega),e7]
   ·omega
end
abbrev SRX:Type:=V × Option (List Str)
def BdAt (H:Hp):SRX→Prop
 |(v,none)=>v= .non
 |(v,some ns)=>∃b,v= .ref b∧H b=some (.lst (ns.map V.str))
abbrev srd (s:SSt) (ex:SRX):List (Str × V):= [("blocks_left",.int (s.bl:Nat)),("bound",ex.1)]
def SRdAt (K:Kf) (H:Hp) (a t w:Addr) (trs ws:List Str) (ex:SRX) (s:SSt):Prop:=∃dx,H a=some (.ins (He.ga K "SayingReader") dx (("tracks",.ref t)::("words",.ref w)::("spot",.int (s.sp:Nat))::("parts_left",.int (s.pl:Nat))::("open_ones",.int (s.op:Nat))::srd s ex))∧
 H t=some (.tup (trs.map V.str))∧H w=some (.lst (ws.map V.str))∧BdAt H ex
inductive STreeAt (H:Hp):V→STree→Prop
 |bin {p:Addr} {k:Str} {x y:V} {t u:STree}:H p=some (.tup [.str k,x,y])→STreeAt H x t→STreeAt H y u→STreeAt H (.ref p) (.bin k t u)
 |neg {p:Addr} {x:V} {t:STree}:H p=some (.tup [.str "not",x])→STreeAt H x t→STreeAt H (.ref p) (.neg t)
 |fil {p:Addr} {x w:Str}:H p=some (.tup [.str "filled",.str x,.str w])→STreeAt H (.ref p) (.fil x w)
 |cmp {p:Addr} {k x y:Str}:H p=some (.tup [.str k,.str x,.str y])→STreeAt H (.ref p) (.cmp k x y)
 |blk {p q:Addr} {k:Str} {ns:List Str} {x:V} {t:STree}:H p=some (.tup [.str k,.ref q,x])→H q=some (.tup (ns.map V.str))→STreeAt H x t→STreeAt H (.ref p) (.blk k ns t)
theorem STreeAt.keep {H H':Hp} (k:∀p xs,H p=some (.tup xs)→H' p=some (.tup xs)) {v:V} {t:STree} (h:STreeAt H v t):STreeAt H' v t:=by
 induction h with
 |bin h _ _ i1 i2=>exact .bin (k _ _ h) i1 i2
 |neg h _ i=>exact .neg (k _ _ h) i
 |fil h=>exact .fil (k _ _ h)
 |cmp h=>exact .cmp (k _ _ h)
 |blk h g _ i=>exact .blk (k _ _ h) (k _ _ g) i
theorem STreeAt.ext {H H':Hp} {v:V} {t:STree} (h:STreeAt H v t) (e:Ext H H'):STreeAt H' v t:=h.keep fun p xs q=>e p _ q
theorem BdAt.ext {H H':Hp}:∀{ex:SRX},BdAt H ex→Ext H H'→BdAt H' ex
 |(_,none),h,_=>h
 |(_,some _),⟨b,e,h⟩,x=>⟨b,e,x _ _ h⟩
section
variable {K:Kf} {H H1 H':Hp} {a t w:Addr} {trs ws:List Str} {ex:SRX} {s:SSt}
theorem SRdAt.ne {b:Addr} {xs:List V} (r:SRdAt K H a t w trs ws ex s) (h:H b=some (.tup xs)):b≠a:=fun z=>by
 obtain⟨dx,h1,_⟩:=r
 rw[z,h1] at h
 cases h
theorem SRdAt.ext (r:SRdAt K H a t w trs ws ex s) (e:Ext H H'):SRdAt K H' a t w trs ws ex s:=by
 obtain⟨dx,h1,h2,h3,h4⟩:=r
 exact⟨dx,e _ _ h1,e _ _ h2,e _ _ h3,h4.ext e⟩
def SRW (K:Kf) (a t w:Addr) (trs ws:List Str) (ex:SRX) (H:Hp) (Q:VK) (E:XK) {α:Type} (rel:Hp→V→α→Prop):SPR α→Prop
 | .inl i=>ErrW K a H E i
 | .inr (x,s')=>∀(H':Hp) (v:V),ExtB a H H'→SRdAt K H' a t w trs ws ex s'→rel H' v x→Q v H'
theorem SErrW_mono {E:XK} {i:Nat} (h:ErrW K a H E i) (e:ExtB a H H1) (r:SRdAt K H1 a t w trs ws ex s):ErrW K a H1 E i:=fun d H' e' hd h'=>by
 refine h d H' (e.trans e') ?_ h'
 cases q:H d with
 |none=>rfl
 |some o=>
  have nd:d≠a:=fun z=>by
   obtain⟨dx,h1,_⟩:=r
   rw[z,h1] at hd
   cases hd
  have:=e d o nd q
  rw[hd] at this
  cases this
theorem SRW.mono {α:Type} {Q:VK} {E:XK} {rel:Hp→V→α→Prop} {p:SPR α} (h:SRW K a t w trs ws ex H Q E rel p) (e:ExtB a H H1) (r:SRdAt K H1 a t w trs ws ex s):SRW K a t w trs ws ex H1 Q E rel p:=by
 cases p with
 |inl i=>exact SErrW_mono (h:ErrW K a H E i) e r
 |inr x=>
  obtain⟨x,s'⟩:=x
  exact fun H' v e'=>h H' v (e.trans e')
end
section
variable {K:Kf} {vs:List V} {H:Hp} {Q:VK} {E:XK}
def sayWs (txt:Str):List Str:=if txt= "" then [] else Txt.split txt " "
def sayOf (trs:List Str) (txt:Str):Nat ⊕ STree:=match swholeOf trs (sayWs txt) ⟨0,8,0,3⟩ with
 | .inl i=> .inl i
 | .inr (t,_)=> .inr t
structure SayAt (K:Kf) (H:Hp) (a:Addr) (trs:List Str) (txt:Str) (u:STree) (hh:Bool):Prop where
 ex:∃(dx t:Addr) (v:V),H a=some (.ins (He.ga K "Saying") dx [("tracks",.ref t),("text",.str txt),("tree",v),("has_here",.bl hh)])∧H t=some (.tup (trs.map V.str))∧STreeAt H v u
theorem SayAt.ext {H H':Hp} {a:Addr} {trs:List Str} {txt:Str} {u:STree} {hh:Bool} (h:SayAt K H a trs txt u hh) (e:Ext H H'):SayAt K H' a trs txt u hh:=by
 obtain⟨dx,t,v,h1,h2,h3⟩:=h.ex
 exact⟨dx,t,v,e _ _ h1,e _ _ h2,h3.ext e⟩
def sp_Saying_init (K:Kf):Sp:=fun vs H Q E=>∃(H0:Hp) (a dx p:Addr) (trs:List Str) (txt:Str),vs= [.ref a,.ref p,.str txt]∧H a=some (.ins (He.ga K "Saying") dx [])∧Ext H0 H∧H0 a=none∧SeqO H p (trs.map V.str)∧(∀x∈trs,x.length<16777216)∧txt.length+2≤16777216∧MC K∧
 (∀i,wrongAt 0 [] trs=some i→∀(d:Addr) (H':Hp),Ext H0 H'→H0 d=none→H' d=some (.xd [("index",.int (i:Nat))])→E (.ref (He.ga K "BadTracks")) (some d) H')∧
 (wrongAt 0 [] trs=none→∀n,sayOf trs txt= .inl n→∀(d:Addr) (H':Hp),Ext H0 H'→H0 d=none→H' d=some (.xd [("index",.int (n:Nat))])→E (.ref (He.ga K "BadSaying")) (some d) H')∧
 (wrongAt 0 [] trs=none→∀u,sayOf trs txt= .inr u→∀H':Hp,Ext H0 H'→SayAt K H' a trs txt u (decide (("here":Str)∈sayWs txt))→Q .non H')
end
def rowAt (ns ss:List Str) (w:Str):Str:=(ss[ns.idxOf w]?).getD ""
def upN (f:Str→Nat) (x:Str) (c:Nat):Str→Nat:=fun y=>if y=x then c else f y
def blkT (m:Nat) (k:Str) (g:(Str→Nat)→Bool):List Str→(Str→Nat)→Bool
 |[],f=>g f
 |x::ns,f=>if k= "all" then(List.range m).all fun c=>blkT m k g ns (upN f x c) else(List.range m).any fun c=>blkT m k g ns (upN f x c)
def saysT (ns ss:List Str) (m:Nat):STree→(Str→Nat)→Bool
 | .bin k a b,f=>if k= "and" then saysT ns ss m a f&&saysT ns ss m b f else saysT ns ss m a f||saysT ns ss m b f
 | .neg a,f=> !saysT ns ss m a f
 | .fil x w,f=>decide ((rowAt ns ss w).cps.toList[f x]?=some 35)
 | .cmp k x y,f=>if k= "ahead" then decide (f x<f y) else decide (f x=f y)
 | .blk k xs a,f=>blkT m k (saysT ns ss m a) xs f
def STree.Wf (trs:List Str):List Str→STree→Prop
 |bd,.bin k a b=>(k= "and" ∨k= "or")∧STree.Wf trs bd a∧STree.Wf trs bd b
 |bd,.neg a=>STree.Wf trs bd a
 |bd,.fil x w=>x∈bd∧w∈trs
 |bd,.cmp k x y=>(k= "ahead" ∨k= "is")∧x∈bd∧y∈bd
 |_,.blk k xs a=>(k= "all" ∨k= "some")∧xs.length≤3∧STree.Wf trs ("here"::xs) a
def STree.dep:STree→Nat
 | .bin _ a b=>max a.dep b.dep+1
 | .neg a=>a.dep+1
 | .fil _ _=>1
 | .cmp _ _ _=>1
 | .blk _ xs a=>a.dep+xs.length+2
structure CB (kvs:List (Key × V)) (bd:List Str) (f:Str→Nat) (m:Nat):Prop where
 nd:(kvs.map (·.1)).Nodup
 at_:∀x∈bd,valV kvs (Sum.inr x)=some (.int ((f x:Nat):Int))∧f x<m
structure ShS (K:Kf) (H:Hp) (a:Addr) (ns ss:List Str) (m:Nat):Prop where
 sh:SheetAt K H a ns ss
 nd:ns.Nodup
 len:ns.length=ss.length
 one:1≤ns.length
 row:∀s∈ss,s.length=m
 big:m≤1000000
theorem ShS.ext {K:Kf} {H H':Hp} {a:Addr} {ns ss:List Str} {m:Nat} (h:ShS K H a ns ss m) (e:Ext H H'):ShS K H' a ns ss m:=⟨h.sh.ext e,h.nd,h.len,h.one,h.row,h.big⟩
def STree.parts:STree→Nat
 | .bin _ a b=>a.parts+b.parts
 | .neg a=>a.parts
 | .fil _ _=>1
 | .cmp _ _ _=>1
 | .blk _ _ a=>a.parts
theorem STree.parts_pos:∀t:STree,1≤t.parts
 | .bin _ a b=>by have:=STree.parts_pos a;show 1≤a.parts+b.parts;omega
 | .neg a=>STree.parts_pos a
 | .fil _ _=>z34 1
 | .cmp _ _ _=>z34 1
 | .blk _ _ a=>STree.parts_pos a
def bdX (bd:Option (List Str)):Nat:=if bd.isNone then 4 else 0
def SWell (trs:List Str) (bd:Option (List Str)) (n:Nat) (S:SSt→SPR STree):Prop:=∀s t s',S s= .inr (t,s')→t.Wf trs (("here":Str)::boundL bd)∧t.parts+s'.pl≤s.pl∧t.dep≤t.parts+n+bdX bd
theorem spartOf_w (trs ws:List Str) (bd:Option (List Str)) (n:Nat):SWell trs bd n (spartOf trs ws bd):=by
 intro s t s' h
 unfold spartOf at h
 split at h
 ·cases h
 ·split at h
  ·cases h
  ·rename_i hp _ x s1 h1
   obtain⟨a1,a2,a3,a4,a5,a6,a7⟩:=stakeIf_good h1
   have a5:s1.pl=s.pl-1:=a5
   have hx:x∈(("here":Str)::boundL bd):=by rw[a7];exact of_decide_eq_true a4
   split at h
   ·cases h
   ·rename_i k s2 h2
    obtain⟨b1,b2,b3,b4,b5,b6,b7⟩:=stakeIf_good h2
    have hk:k∈KINDS3:=by rw[b7];exact of_decide_eq_true b4
    split at h
    ·split at h
     ·cases h
     ·rename_i w s3 h3
      obtain⟨c1,c2,c3,c4,c5,c6,c7⟩:=stakeIf_good h3
      have hw:w∈trs:=by rw[c7];exact of_decide_eq_true c4
      cases h
      refine⟨⟨hx,hw⟩,?_,?_⟩
      ·show 1+s'.pl≤s.pl
       omega
      ·show 1≤1+n+bdX bd
       omega
    ·rename_i hf
     split at h
     ·cases h
     ·rename_i y s3 h3
      obtain⟨c1,c2,c3,c4,c5,c6,c7⟩:=stakeIf_good h3
      have hy:y∈(("here":Str)::boundL bd):=by rw[c7];exact of_decide_eq_true c4
      cases h
      refine⟨⟨?_,hx,hy⟩,?_,?_⟩
      ·simp only[KINDS3,List.mem_cons,z13,or_false] at hk
       rcases hk with z|z|z
       ·exact absurd z hf
       ·exact .inl z
       ·exact .inr z
      ·show 1+s'.pl≤s.pl
       omega
      ·show 1≤1+n+bdX bd
       omega
theorem sloopW_w {trs ws:List Str} {bd:Option (List Str)} {n:Nat} {S:SSt→SPR STree} {k:Str} (hk:k= "and" ∨k= "or") (hS:SWell trs bd n S):∀(m:Nat) (t:STree) (s:SSt) (t':STree) (s':SSt),t.Wf trs (("here":Str)::boundL bd)→t.dep≤t.parts+n+bdX bd→sloopW S ws k m t s= .inr (t',s')→
 t'.Wf trs (("here":Str)::boundL bd)∧t'.parts+s'.pl≤t.parts+s.pl∧t'.dep≤t'.parts+n+bdX bd
 |0,t,s,t',s',h1,h2,h=>by cases h;exact⟨h1,z34 _,h2⟩
 |m+1,t,s,t',s',h1,h2,h=>by
  unfold sloopW at h
  split at h
  ·split at h
   ·cases h
   ·rename_i u s2 hu
    obtain⟨a1,a2,a3⟩:=hS _ _ _ hu
    have a2:u.parts+s2.pl≤s.pl:=a2
    have pt:=t.parts_pos
    have pu:=u.parts_pos
    obtain⟨b1,b2,b3⟩:=sloopW_w hk hS m (.bin k t u) s2 t' s' ⟨hk,h1,a1⟩ (by show max t.dep u.dep+1≤t.parts+u.parts+n+bdX bd;omega) h
    have b2:t'.parts+s'.pl≤t.parts+u.parts+s2.pl:=b2
    exact⟨b1,by omega,b3⟩
  ·cases h;exact⟨h1,z34 _,h2⟩
theorem sallOf_w {trs ws:List Str} {bd:Option (List Str)} {n:Nat} {S:SSt→SPR STree} (hS:SWell trs bd n S):SWell trs bd n (sallOf S ws):=by
 intro s t s' h
 unfold sallOf at h
 split at h
 ·cases h
 ·rename_i t1 s1 h1
  obtain⟨a1,a2,a3⟩:=hS _ _ _ h1
  obtain⟨b1,b2,b3⟩:=sloopW_w (.inl rfl) hS _ _ _ _ _ a1 a3 h
  exact⟨b1,by omega,b3⟩
theorem sanyOf_w {trs ws:List Str} {bd:Option (List Str)} {n:Nat} {S:SSt→SPR STree} (hS:SWell trs bd n S):SWell trs bd n (sanyOf S ws):=by
 intro s t s' h
 unfold sanyOf at h
 split at h
 ·cases h
 ·rename_i t1 s1 h1
  obtain⟨a1,a2,a3⟩:=sallOf_w hS _ _ _ h1
  obtain⟨b1,b2,b3⟩:=sloopW_w (.inr rfl) (sallOf_w hS) _ _ _ _ _ a1 a3 h
  exact⟨b1,by omega,b3⟩
theorem snames_w {ws:List Str}:∀(n:Nat) (ns:List Str) (s:SSt) (t:List Str) (s':SSt),ns.length≤3→snames ws n ns s= .inr (t,s')→t.length≤3∧s'.pl=s.pl
 |0,ns,s,t,s',hn,h=>by
  unfold snames at h
  split at h
  ·cases h;exact⟨hn,rfl⟩
  ·cases h
 |n+1,ns,s,t,s',hn,h=>by
  unfold snames at h
  split at h
  ·cases h;exact⟨hn,rfl⟩
  ·split at h
   ·cases h
   ·rename_i x s1 h1
    obtain⟨a1,a2,a3,a4,a5,_⟩:=stakeIf_good h1
    have a4:ns.length<3:=by
     rw[Bool.and_eq_true,Bool.and_eq_true] at a4
     exact of_decide_eq_true a4.2.2
    obtain⟨b1,b2⟩:=snames_w n _ _ _ _ (by rw[z17];simp;omega) h
    exact⟨b1,by omega⟩
theorem sblockOf_w {trs ws:List Str} {n:Nat} {A:List Str→SSt→SPR STree} (hA:∀ns,SWell trs (some ns) n (A ns)) (bd:Option (List Str)) (s:SSt) (t:STree) (s':SSt) (hb:wd ws s.sp∈BLOCKS) (h:sblockOf A ws bd s= .inr (t,s')):
 t.Wf trs (("here":Str)::boundL bd)∧t.parts+s'.pl≤s.pl∧t.dep≤t.parts+(n+1)+bdX bd:=by
 unfold sblockOf at h
 split at h
 ·cases h
 ·rename_i k s1 h1
  obtain⟨a1,a2,a3,a4,a5,a6,a7⟩:=stakeIf_good h1
  have hbd:bd.isNone=true:=by
   rw[Bool.and_eq_true] at a4
   exact a4.1
  have hk:k= "all" ∨k= "some":=by
   have:k∈BLOCKS:=by rw[a7];exact hb
   simpa[BLOCKS] using this
  split at h
  ·cases h
  ·rename_i x s2 h2
   obtain⟨b1,b2,b3,b4,b5,b6,b7⟩:=stakeIf_good h2
   have b5:s2.pl=s1.pl:=b5
   split at h
   ·cases h
   ·rename_i ns s3 h3
    obtain⟨c1,c2⟩:=snames_w _ _ _ _ _ (by simp) h3
    split at h
    ·cases h
    ·rename_i y s4 h4
     obtain⟨d1,d2,d3,d4,d5,_⟩:=stakeIf_good h4
     split at h
     ·cases h
     ·rename_i u s5 h5
      obtain⟨e1,e2,e3⟩:=hA ns _ _ _ h5
      split at h
      ·cases h
      ·rename_i z s6 h6
       obtain⟨f1,f2,f3,f4,f5,_⟩:=stakeIf_good h6
       cases h
       refine⟨⟨hk,c1,e1⟩,?_,?_⟩
       ·show u.parts+s'.pl≤s.pl
        omega
       ·show u.dep+ns.length+2≤u.parts+(n+1)+bdX bd
        have e3:u.dep≤u.parts+n+0:=e3
        unfold bdX
        rw[if_pos hbd]
        omega
theorem ssingle_w (trs ws:List Str):∀n bd,SWell trs bd n (ssingle trs ws n bd)
 |0,bd,s,t,s',h=>by
  unfold ssingle at h
  cases h
 |n+1,bd,s,t,s',h=>by
  unfold ssingle at h
  split at h
  ·split at h
   ·cases h
   ·rename_i w s1 h1
    obtain⟨a1,a2,a3,a4,a5,_⟩:=stakeIf_good h1
    split at h
    ·split at h
     ·cases h
     ·rename_i t2 s2 h2
      obtain⟨b1,b2,b3⟩:=ssingle_w trs ws n bd _ _ _ h2
      have b2:t2.parts+s2.pl≤s1.pl:=b2
      cases h
      exact⟨b1,by show t2.parts+s2.pl≤s.pl;omega,by show t2.dep+1≤t2.parts+(n+1)+bdX bd;omega⟩
    ·split at h
     ·cases h
     ·rename_i t2 s2 h2
      obtain⟨b1,b2,b3⟩:=sanyOf_w (ssingle_w trs ws n bd) _ _ _ h2
      have b2:t2.parts+s2.pl≤s1.pl:=b2
      split at h
      ·cases h
      ·rename_i w s3 h3
       obtain⟨c1,c2,c3,c4,c5,_⟩:=stakeIf_good h3
       cases h
       exact⟨b1,by show t.parts+s3.pl≤s.pl;omega,by omega⟩
  ·unfold spob at h
   split at h
   ·rename_i hb
    exact sblockOf_w (fun ns=>sanyOf_w (ssingle_w trs ws n (some ns))) bd s t s' hb h
   ·exact spartOf_w trs ws bd (n+1) s t s' h
structure STOk (trs:List Str) (t:STree):Prop where
 ok:t.Wf trs ["here"]
 parts:t.parts≤8
 dep:t.dep≤24
theorem sayOf_ok {trs:List Str} {txt:Str} {t:STree} (h:sayOf trs txt= .inr t):STOk trs t:=by
 unfold sayOf at h
 split at h
 ·cases h
 ·rename_i u s1 h1
  cases h
  unfold swholeOf at h1
  split at h1
  ·cases h1
  ·rename_i u s2 h2
   obtain⟨a1,a2,a3⟩:=sanyOf_w (ssingle_w trs (sayWs txt) (fuelS 0 none) none) _ _ _ h2
   split at h1
   ·cases h1
   ·cases h1
    have a2:t.parts+s1.pl≤8:=a2
    have a3:t.dep≤t.parts+12+4:=a3
    exact⟨a1,by omega,by omega⟩
def bnT:STree→Nat
 | .bin _ a b=>bnT a+bnT b
 | .neg a=>bnT a
 | .fil _ _=>0
 | .cmp _ _ _=>0
 | .blk _ xs _=>xs.length
structure FS (K:Kf):Prop where
 mc:MC K
 str:PySem.W.kitOne K (.type "str") (.ref (He.ga K "Rows"))=some false
structure Trk (ys:List Str):Prop where
 n1:1≤ys.length
 n3:ys.length≤3
 nd:ys.Nodup
 nm:∀y∈ys,nameOk y=true
theorem Trk.short {ys:List Str} (h:Trk ys):∀y∈ys,y.length≤12:=fun y hy=>name_len (h.nm y hy)
theorem name_okS {y:Str} (h:nameOk y=true):okS y:=fun c hc=>by have:=nameOk_chars h c hc;omega
theorem Trk.lay {ys:List Str} (h:Trk ys):∀y∈ys,okV (.str y)=true:=fun y hy=>okS_lay (name_okS (h.nm y hy))
structure ShJ (ys ss:List Str) (m:Nat):Prop where
 nd:ys.Nodup
 nm:∀y∈ys,nameOk y=true
 len:ys.length=ss.length
 one:1≤ys.length
 row:∀s∈ss,(∀c∈s.cps.toList,c=35∨c=46)∧s.length=m
theorem ShOk.j {ys ss:List Str} {m:Nat} (h:ShOk ys ss m):ShJ ys ss m:=⟨h.nd,h.nm,h.len,h.one,fun s hs=>⟨rowOk_chars (h.row s hs).1,(h.row s hs).2⟩⟩
section
variable {K:Kf} {vs:List V} {H:Hp} {Q:VK} {E:XK}
theorem make_sheet {R:Addr→Hp→Prop} {E':XK} {ys ss:List Str} {m:Nat} (F:FS K) (sh:ShOk ys ss m) (hm:m≤1000) (q:∀a H2,Ext H H2→H a=none→SheetAt K H2 a ys ss→R a H2):
 ∀x dx,H x=none→H dx=none→dx≠x→sp_Sheet_init K [.ref x,.str (txtOf ys ss)] (upd (upd H dx (.own x)) x (.ins (He.ga K "Sheet") dx [])) (fun v H2=>v= .non∧R x H2) E':=by
 intro x dx nx nd hne
 have e:Ext H (upd (upd H dx (.own x)) x (.ins (He.ga K "Sheet") dx [])):=(Ext.new nd).mut nx
 have tl:=txtOf_len sh
 refine⟨x,dx,upd_same,.inl ⟨_,rfl,by omega,F.mc.barred,F.str,fun n z=>(by rw[sh.scan] at z;cases z),fun ns ss' z H' eb hS=> ?_⟩⟩
 rw[sh.scan] at z
 injection z with z
 injection z with z1 z2
 subst z1 z2
 exact⟨rfl,q x H' (fun b u hb=>eb b u (ne_of_none hb nx) (e b u hb)) nx hS⟩
def sp_Saying_holds (K:Kf):Sp:=fun vs H Q E=>∃(sy a p:Addr) (ys ns:List Str) (txt:Str) (u:STree) (hh:Bool) (ss:List Str) (m:Nat) (tr:Str) (c:Int),vs= [.ref sy,.ref a,.ref p]∧Trk ys∧SayAt K H sy ys txt u hh∧STOk ys u∧SheetAt K H a ns ss∧(∀n∈ns,okV (.str n)=true)∧(ns=ys→ShJ ys ss m)∧m≤1000000∧SqT K H p [.str tr,.int c]∧tr.length≤1000000∧
 (ns≠ys→E (.ref (He.ga K "OtherTracks")) none H)∧
 (ns=ys→tr∉ys→∀(d:Addr) (H':Hp),Ext H H'→H d=none→H' d=some (.xd [("name",.str tr)])→E (.ref (He.ga K "NoTrack")) (some d) H')∧
 (ns=ys→tr∈ys→¬(0≤c∧c<(m:Nat))→∀(d:Addr) (H':Hp),Ext H H'→H d=none→H' d=some (.xd [("column",.int c)])→E (.ref (He.ga K "NoColumn")) (some d) H')∧
 (ns=ys→tr∈ys→0≤c→c<(m:Nat)→∀H',Ext H H'→Q (.bl (saysT ys ss m u fun _=>c.toNat)) H')
def sp_drawn_place (_:Kf):Sp:=fun vs H Q _=>∃(p c sh:Addr) (n:Nat) (ys:List Str) (cols:List (List Int)),vs= [.ref p,.ref sh]∧PenAt H p c n∧n+100<1152921504606846976∧SheetC H sh ys cols∧1≤ys.length∧ys.length≤3∧1≤cols.length∧cols.length<1000000∧
 ∀(tr:Str) (k:Nat) (T:Addr) (H':Hp),tr∈ys→k<cols.length→Kp H H'→H' T=some (.tup [.str tr,.int (k:Nat)])→PenAt H' p c (n+5)→Q (.ref T) H'
end
def XW:List Str:= ["here","x","y","z"]
def OWN3:List Str:= ["x","y","z"]
abbrev O1:List Str:= ["x"]
abbrev O2:List Str:= ["x","y"]
abbrev O3:List Str:= ["x","y","z"]
def swT:STree→List Str
 | .bin k a b=>LP::(swT a++(RP::k::LP::(swT b++ [RP])))
 | .neg a=>NT::LP::(swT a++ [RP])
 | .fil x w=> [x,"filled",w]
 | .cmp k x y=> [x,k,y]
 | .blk k ns a=>k::(ns++(LP::(swT a++ [RP])))
def sTxt:STree→Str
 | .bin k a b=>Txt.join (" " ++k++ " ") ["( " ++sTxt a++ " )","( " ++sTxt b++ " )"]
 | .neg a=> "not " ++("( " ++sTxt a++ " )")
 | .fil x w=>Txt.join " " [x,"filled",w]
 | .cmp k x y=>Txt.join " " [x,k,y]
 | .blk k ns a=>Txt.join " " (([k]++ns)++([LP,sTxt a,RP]:List Str))
def sopn:STree→Nat
 | .bin _ a b=>1+max (sopn a) (sopn b)
 | .neg a=>2+sopn a
 | .fil _ _=>0
 | .cmp _ _ _=>0
 | .blk _ _ a=>sopn a
def sfu:STree→Nat
 | .bin _ a b=>1+max (sfu a) (sfu b)
 | .neg a=>2+sfu a
 | .fil _ _=>1
 | .cmp _ _ _=>1
 | .blk _ _ a=>1+sfu a
def sbl:STree→Nat
 | .bin _ a b=>sbl a+sbl b
 | .neg a=>sbl a
 | .fil _ _=>0
 | .cmp _ _ _=>0
 | .blk _ _ a=>1+sbl a
def STree.Rd (trs:List Str):Option (List Str)→STree→Prop
 |bd,.bin k a b=>(k= "and" ∨k= "or")∧STree.Rd trs bd a∧STree.Rd trs bd b
 |bd,.neg a=>STree.Rd trs bd a
 |bd,.fil x w=>x∈XW∧x∈(("here":Str)::boundL bd)∧w∈trs
 |bd,.cmp k x y=>(k= "ahead" ∨k= "is")∧x∈XW∧x∈(("here":Str)::boundL bd)∧y∈XW∧y∈(("here":Str)::boundL bd)
 |bd,.blk k ns a=>bd=none∧k∈BLOCKS∧(ns=O1∨ns=O2∨ns=O3)∧STree.Rd trs (some ns) a
theorem sloop_stop {S:SSt→SPR STree} {ws:List Str} {k:Str} {n:Nat} {t:STree} {s:SSt} (h:wd ws s.sp≠k):sloopW S ws k n t s= .inr (t,s):=by
 cases n with
 |zero=>rfl
 |succ n=>
  unfold sloopW
  rw[if_neg h]
theorem stake_yes {ws:List Str} {b:Bool} {s:SSt} {x:Str} {r:List Str} (hd:ws.drop s.sp=x::r) (hb:b=true):stakeIf ws b s= .inr (x,{s with sp:=s.sp+1}):=by
 obtain⟨h1,_,h3⟩:=drop_hd hd
 unfold stakeIf
 rw[if_pos ⟨hb,h3⟩,h1]
theorem xw_no:∀x∈XW,x∉ (["not","("]:List Str)∧x∉BLOCKS:=by decide+kernel
theorem spart_one {trs ws:List Str} {n:Nat} {bd:Option (List Str)} {s:SSt} {x:Str} {r:List Str} (hx:x∈XW) (hd:ws.drop s.sp=x::r):ssingle trs ws (n+1) bd s=spartOf trs ws bd s:=by
 obtain⟨h1,_,_⟩:=drop_hd hd
 obtain⟨n1,n2⟩:=xw_no x hx
 unfold ssingle
 rw[if_neg (by rw[h1];exact n1)]
 unfold spob
 rw[if_neg (by rw[h1];exact n2)]
theorem spart_fil {trs ws rest:List Str} {bd:Option (List Str)} {s:SSt} {x w:Str} (hx:x∈(("here":Str)::boundL bd)) (hw:w∈trs) (hd:ws.drop s.sp=x:: "filled"::w::rest) (hp:1≤s.pl):
 spartOf trs ws bd s= .inr (.fil x w,⟨s.sp+3,s.pl-1,s.op,s.bl⟩):=by
 obtain⟨h1,h2,h3⟩:=drop_hd hd
 obtain⟨g1,g2,g3⟩:=drop_hd h2
 obtain⟨k1,k2,k3⟩:=drop_hd g2
 unfold spartOf
 rw[if_neg (by omega)]
 have e1:colOf ws bd {s with pl:=s.pl-1}= .inr (x,⟨s.sp+1,s.pl-1,s.op,s.bl⟩):=by
  unfold colOf
  exact stake_yes (s:={s with pl:=s.pl-1}) hd (decide_eq_true (by show wd ws s.sp∈_;rw[h1];exact hx))
 rw[e1]
 dsimp only
 have e2:stakeIf ws (decide (wd ws (s.sp+1)∈KINDS3)) ⟨s.sp+1,s.pl-1,s.op,s.bl⟩= .inr ("filled",⟨s.sp+2,s.pl-1,s.op,s.bl⟩):=
  stake_yes (s:=⟨s.sp+1,s.pl-1,s.op,s.bl⟩) h2 (decide_eq_true (by rw[g1];decide+kernel))
 rw[e2]
 dsimp only
 rw[if_pos rfl]
 have e3:stakeIf ws (decide (wd ws (s.sp+2)∈trs)) ⟨s.sp+2,s.pl-1,s.op,s.bl⟩= .inr (w,⟨s.sp+3,s.pl-1,s.op,s.bl⟩):=
  stake_yes (s:=⟨s.sp+2,s.pl-1,s.op,s.bl⟩) g2 (decide_eq_true (by rw[k1];exact hw))
 rw[e3]
theorem spart_cmp {trs ws rest:List Str} {bd:Option (List Str)} {s:SSt} {k x y:Str} (hk:k= "ahead" ∨k= "is") (hx:x∈(("here":Str)::boundL bd)) (hy:y∈(("here":Str)::boundL bd)) (hd:ws.drop s.sp=x::k::y::rest) (hp:1≤s.pl):
 spartOf trs ws bd s= .inr (.cmp k x y,⟨s.sp+3,s.pl-1,s.op,s.bl⟩):=by
 obtain⟨h1,h2,h3⟩:=drop_hd hd
 obtain⟨g1,g2,g3⟩:=drop_hd h2
 obtain⟨k1,k2,k3⟩:=drop_hd g2
 have hk3:k∈KINDS3∧k≠ "filled":=by
  rcases hk with e|e<;>rw[e]<;>decide+kernel
 unfold spartOf
 rw[if_neg (by omega)]
 have e1:colOf ws bd {s with pl:=s.pl-1}= .inr (x,⟨s.sp+1,s.pl-1,s.op,s.bl⟩):=by
  unfold colOf
  exact stake_yes (s:={s with pl:=s.pl-1}) hd (decide_eq_true (by show wd ws s.sp∈_;rw[h1];exact hx))
 rw[e1]
 dsimp only
 have e2:stakeIf ws (decide (wd ws (s.sp+1)∈KINDS3)) ⟨s.sp+1,s.pl-1,s.op,s.bl⟩= .inr (k,⟨s.sp+2,s.pl-1,s.op,s.bl⟩):=
  stake_yes (s:=⟨s.sp+1,s.pl-1,s.op,s.bl⟩) h2 (decide_eq_true (by rw[g1];exact hk3.1))
 rw[e2]
 dsimp only
 rw[if_neg hk3.2]
 have e3:colOf ws bd ⟨s.sp+2,s.pl-1,s.op,s.bl⟩= .inr (y,⟨s.sp+3,s.pl-1,s.op,s.bl⟩):=by
  unfold colOf
  exact stake_yes (s:=⟨s.sp+2,s.pl-1,s.op,s.bl⟩) g2 (decide_eq_true (by show wd ws (s.sp+2)∈_;rw[k1];exact hy))
 rw[e3]
theorem own_name:∀x∈OWN3,nameOk x=true∧x≠ "(":=by decide+kernel
theorem snames_read {ws rest:List Str}:∀(more acc:List Str) (n:Nat) (s:SSt),ws.drop s.sp=more++(LP::rest)→more.length≤n→(acc++more).Nodup→(∀x∈more,x∈OWN3)→(acc++more).length≤3→snames ws n acc s= .inr (acc++more,{s with sp:=s.sp+more.length})
 |[],acc,n,s,hd,_,_,_,_=>by
  obtain⟨h1,_,_⟩:=drop_hd hd
  cases n with
  |zero=>unfold snames;rw[if_pos h1,z26];rfl
  |succ n=>unfold snames;rw[if_pos h1,z26];rfl
 |x::more,acc,n+1,s,hd,hn,nd,ho,hl=>by
  obtain⟨h1,h2,_⟩:=drop_hd hd
  obtain⟨o1,o2⟩:=own_name x (ho x (z31 ..))
  have nx:x∉acc:=fun z=>(List.nodup_append.mp nd).2.2 x z x (z31 ..) rfl
  have la:acc.length<3:=by
   rw[z17,z27] at hl
   omega
  unfold snames
  rw[if_neg (by rw[h1];exact o2),stake_yes hd (by rw[h1,o1,decide_eq_true la,decide_eq_false nx];rfl)]
  dsimp only
  rw[snames_read more (acc++ [x]) n {s with sp:=s.sp+1} h2 (by rw[z27] at hn;omega) (by rw[z19];exact nd) (fun y hy=>ho y (z23 _ hy)) (by rw[z19];exact hl)]
  show(Sum.inr _:SPR (List Str))=_
  rw[z19,z27]
  show(Sum.inr (acc++(x::more),(⟨s.sp+1+more.length,_,_,_⟩:SSt)):SPR (List Str))=_
  rw[show s.sp+1+more.length=s.sp+(more.length+1) by omega]
theorem sbr_read {trs ws rest:List Str} {n:Nat} {bd:Option (List Str)} {t:STree} {s:SSt} (ho:s.op<10) (hd:ws.drop s.sp=LP::(swT t++(RP::rest))) (hA:sanyOf (ssingle trs ws n bd) ws ⟨s.sp+1,s.pl,s.op+1,s.bl⟩= .inr (t,⟨s.sp+1+(swT t).length,s.pl-t.parts,s.op+1,s.bl-sbl t⟩)):
 ssingle trs ws (n+1) bd s= .inr (t,⟨s.sp+(swT t).length+2,s.pl-t.parts,s.op,s.bl-sbl t⟩):=by
 obtain⟨h1,h2,h3⟩:=drop_hd hd
 have h4:=drop_app h2
 obtain⟨g1,g2,g3⟩:=drop_hd h4
 unfold ssingle
 rw[if_pos (by rw[h1];decide+kernel),stake_yes hd (decide_eq_true ho)]
 dsimp only
 rw[if_neg (by rw[h1];decide+kernel),hA]
 dsimp only
 rw[stake_yes (s:=⟨s.sp+1+(swT t).length,s.pl-t.parts,s.op+1,s.bl-sbl t⟩) h4 (decide_eq_true g1)]
 show(Sum.inr (t,(⟨s.sp+1+(swT t).length+1,_,s.op+1-1,_⟩:SSt)):SPR STree)=_
 rw[show s.sp+1+(swT t).length+1=s.sp+(swT t).length+2 by omega]
 rfl
theorem own3_sub {ns:List Str} (h:ns=O1∨ns=O2∨ns=O3):∃r,ns=("x":Str)::r∧(∀x∈r,x∈OWN3)∧ns.Nodup∧ns.length≤3∧(∀x∈ns,x∈OWN3):=by
 rcases h with e|e|e<;>subst e
 ·exact⟨[],rfl,by decide+kernel⟩
 ·exact⟨["y"],rfl,by decide+kernel⟩
 ·exact⟨["y","z"],rfl,by decide+kernel⟩
theorem blocks_no:∀x∈BLOCKS,x∉ (["not","("]:List Str):=by decide+kernel
theorem sany_read {trs ws:List Str}:∀(t:STree) (n:Nat) (bd:Option (List Str)) (s:SSt) (rest:List Str),ws.drop s.sp=swT t++rest→Stop rest→sfu t≤n→s.op+sopn t≤10→t.parts≤s.pl→sbl t≤s.bl→t.Rd trs bd→
 sanyOf (ssingle trs ws n bd) ws s= .inr (t,⟨s.sp+(swT t).length,s.pl-t.parts,s.op,s.bl-sbl t⟩)
 | .fil x w,n,bd,s,rest,hd,hs,hf,ho,hp,hb,ok=>by
   obtain⟨ok1,ok2,ok3⟩:=ok
   have hf:1≤n:=hf
   obtain⟨n,rfl⟩:∃m,n=m+1:=⟨n-1,by omega⟩
   have hd2:ws.drop s.sp=x:: "filled"::w::rest:=hd
   have h5:=stop_ne (stop_wd (drop_app hd) hs)
   unfold sanyOf sallOf
   rw[spart_one ok1 hd2,spart_fil ok2 ok3 hd2 hp]
   dsimp only
   rw[sloop_stop h5.1]
   dsimp only
   rw[sloop_stop h5.2]
   rfl
 | .cmp k x y,n,bd,s,rest,hd,hs,hf,ho,hp,hb,ok=>by
   obtain⟨ok1,ok2,ok3,ok4,ok5⟩:=ok
   have hf:1≤n:=hf
   obtain⟨n,rfl⟩:∃m,n=m+1:=⟨n-1,by omega⟩
   have hd2:ws.drop s.sp=x::k::y::rest:=hd
   have h5:=stop_ne (stop_wd (drop_app hd) hs)
   unfold sanyOf sallOf
   rw[spart_one ok2 hd2,spart_cmp ok1 ok3 ok5 hd2 hp]
   dsimp only
   rw[sloop_stop h5.1]
   dsimp only
   rw[sloop_stop h5.2]
   rfl
 | .neg a,n,bd,s,rest,hd,hs,hf,ho,hp,hb,ok=>by
   have hf:2+sfu a≤n:=hf
   have ho:s.op+(2+sopn a)≤10:=ho
   obtain⟨n,rfl⟩:∃m,n=m+2:=⟨n-2,by omega⟩
   have hp:a.parts≤s.pl:=hp
   have hb:sbl a≤s.bl:=hb
   have hd2:ws.drop s.sp=NT::LP::(swT a++(RP::rest)):=by
    rw[hd]
    show NT::LP::((swT a++ [RP])++rest)=_
    rw[z19]
    rfl
   obtain⟨h1,h2,h3⟩:=drop_hd hd2
   obtain⟨g1,g2,g3⟩:=drop_hd h2
   have hA:=sany_read a n bd ⟨s.sp+2,s.pl,s.op+2,s.bl⟩ (RP::rest) g2 (.inr ⟨_,rfl⟩) (by omega) (by show s.op+2+sopn a≤10;omega) hp hb ok
   have hB:=sbr_read (trs:=trs) (s:=⟨s.sp+1,s.pl,s.op+1,s.bl⟩) (show s.op+1<10 by omega) h2 hA
   have h5:=stop_ne (stop_wd (drop_app hd) hs)
   have lw:(swT (.neg a)).length=(swT a).length+3:=by
    show((swT a++ [RP]).length+1+1)=_
    rw[z17]
    rfl
   rw[lw] at h5
   have e:ssingle trs ws (n+1+1) bd s= .inr (.neg a,⟨s.sp+((swT a).length+3),s.pl-a.parts,s.op,s.bl-sbl a⟩):=by
    unfold ssingle
    rw[if_pos (by rw[h1];decide+kernel),stake_yes hd2 (decide_eq_true (by omega))]
    dsimp only
    rw[if_pos h1,hB]
    show(Sum.inr (STree.neg a,(⟨s.sp+1+(swT a).length+2,s.pl-a.parts,s.op+1-1,s.bl-sbl a⟩:SSt)):SPR STree)=_
    rw[show s.sp+1+(swT a).length+2=s.sp+((swT a).length+3) by omega]
    rfl
   unfold sanyOf sallOf
   rw[e]
   dsimp only
   rw[sloop_stop h5.1]
   dsimp only
   rw[sloop_stop h5.2,lw]
   rfl
 | .bin k a b,n,bd,s,rest,hd,hs,hf,ho,hp,hb,ok=>by
   obtain⟨hk,oa,ob⟩:=ok
   have hf:1+max (sfu a) (sfu b)≤n:=hf
   have ho:s.op+(1+max (sopn a) (sopn b))≤10:=ho
   obtain⟨n,rfl⟩:∃m,n=m+1:=⟨n-1,by omega⟩
   have hp:a.parts+b.parts≤s.pl:=hp
   have hb:sbl a+sbl b≤s.bl:=hb
   have hd2:ws.drop s.sp=LP::(swT a++(RP::(k::LP::(swT b++(RP::rest))))):=by
    rw[hd]
    show LP::((swT a++(RP::k::LP::(swT b++ [RP])))++rest)=_
    simp
   obtain⟨h1,h2,h3⟩:=drop_hd hd2
   have hA:=sany_read a n bd ⟨s.sp+1,s.pl,s.op+1,s.bl⟩ _ h2 (.inr ⟨_,rfl⟩) (by omega) (by show s.op+1+sopn a≤10;omega) (by show a.parts≤s.pl;omega) (by show sbl a≤s.bl;omega) oa
   have hB:=sbr_read (trs:=trs) (s:=s) (by omega) hd2 hA
   have d3:ws.drop (s.sp+(swT a).length+2)=k::LP::(swT b++(RP::rest)):=by
    have:=drop_app h2
    have:=(drop_hd this).2.1
    rw[show s.sp+(swT a).length+2=s.sp+1+(swT a).length+1 by omega]
    exact this
   obtain⟨g1,g2,g3⟩:=drop_hd d3
   obtain⟨i1,i2,i3⟩:=drop_hd g2
   have hA2:=sany_read b n bd ⟨s.sp+(swT a).length+2+1+1,s.pl-a.parts,s.op+1,s.bl-sbl a⟩ _ i2 (.inr ⟨_,rfl⟩) (by omega) (by show s.op+1+sopn b≤10;omega) (by show b.parts≤s.pl-a.parts;omega) (by show sbl b≤s.bl-sbl a;omega) ob
   have hB2:=sbr_read (trs:=trs) (s:=⟨s.sp+(swT a).length+2+1,s.pl-a.parts,s.op,s.bl-sbl a⟩) (show s.op<10 by omega) g2 hA2
   have h5:=stop_ne (stop_wd (drop_app hd) hs)
   have lw:(swT (.bin k a b)).length=(swT a).length+(swT b).length+5:=by
    show(swT a++(RP::k::LP::(swT b++ [RP]))).length+1=_
    simp
    omega
   rw[lw] at h5
   have fu:∃m,ws.length=m+1:=⟨ws.length-1,by omega⟩
   obtain⟨m,hm⟩:=fu
   have es:s.sp+(swT a).length+2+1+(swT b).length+2=s.sp+((swT a).length+(swT b).length+5):=by omega
   have ep:s.pl-a.parts-b.parts=s.pl- (a.parts+b.parts):=by omega
   have eb:s.bl-sbl a-sbl b=s.bl- (sbl a+sbl b):=by omega
   rcases hk with e|e
   ·subst e
    unfold sanyOf sallOf
    rw[hB]
    dsimp only
    rw[hm]
    have step:sloopW (ssingle trs ws (n+1) bd) ws "and" (m+1) a ⟨s.sp+(swT a).length+2,s.pl-a.parts,s.op,s.bl-sbl a⟩= .inr (.bin "and" a b,⟨s.sp+((swT a).length+(swT b).length+5),s.pl- (a.parts+b.parts),s.op,s.bl- (sbl a+sbl b)⟩):=by
        unfold sloopW
        rw[if_pos g1]
        show(match ssingle trs ws (n+1) bd ⟨s.sp+(swT a).length+2+1,s.pl-a.parts,s.op,s.bl-sbl a⟩ with| .inl i=>_| .inr (t2,s2)=>_)=_
        rw[hB2]
        dsimp only
        rw[es,ep,eb]
        exact sloop_stop h5.1
    rw[step]
    dsimp only
    rw[sloop_stop h5.2,lw]
    rfl
   ·subst e
    have na:wd ws (s.sp+(swT a).length+2)≠ "and":=by rw[g1];decide+kernel
    have all2:sallOf (ssingle trs ws (n+1) bd) ws ⟨s.sp+(swT a).length+2+1,s.pl-a.parts,s.op,s.bl-sbl a⟩= .inr (b,⟨s.sp+((swT a).length+(swT b).length+5),s.pl- (a.parts+b.parts),s.op,s.bl- (sbl a+sbl b)⟩):=by
        unfold sallOf
        rw[hB2]
        dsimp only
        rw[es,ep,eb]
        exact sloop_stop h5.1
    have all1:sallOf (ssingle trs ws (n+1) bd) ws s= .inr (a,⟨s.sp+(swT a).length+2,s.pl-a.parts,s.op,s.bl-sbl a⟩):=by
        unfold sallOf
        rw[hB]
        exact sloop_stop na
    unfold sanyOf
    rw[all1]
    dsimp only
    rw[hm]
    unfold sloopW
    rw[if_pos g1]
    show(match sallOf (ssingle trs ws (n+1) bd) ws ⟨s.sp+(swT a).length+2+1,s.pl-a.parts,s.op,s.bl-sbl a⟩ with| .inl i=>_| .inr (t2,s2)=>_)=_
    rw[all2]
    dsimp only
    rw[sloop_stop h5.2,lw]
    rfl
 | .blk k ns a,n,bd,s,rest,hd,hs,hf,ho,hp,hb,ok=>by
   obtain⟨rfl,hk,hns,oa⟩:=ok
   have hf:1+sfu a≤n:=hf
   obtain⟨n,rfl⟩:∃m,n=m+1:=⟨n-1,by omega⟩
   have ho:s.op+sopn a≤10:=ho
   have hp:a.parts≤s.pl:=hp
   have hb:1+sbl a≤s.bl:=hb
   obtain⟨r,er,r3,nnd,nl,_⟩:=own3_sub hns
   have hd2:ws.drop s.sp=k::("x":Str)::(r++(LP::(swT a++(RP::rest)))):=by
    rw[hd,er]
    show k::(((("x":Str)::r)++(LP::(swT a++ [RP])))++rest)=_
    simp
   obtain⟨h1,h2,h3⟩:=drop_hd hd2
   obtain⟨g1,g2,g3⟩:=drop_hd h2
   have d4:=drop_app g2
   obtain⟨j1,j2,j3⟩:=drop_hd d4
   have hA:=sany_read a n (some ns) ⟨s.sp+1+1+r.length+1,s.pl,s.op,s.bl-1⟩ (RP::rest) j2 (.inr ⟨_,rfl⟩) (by omega) ho hp (by show sbl a≤s.bl-1;omega) oa
   have d5:=drop_app j2
   have h5:=stop_ne (stop_wd (drop_app hd) hs)
   have lw:(swT (.blk k ns a)).length=r.length+(swT a).length+4:=by
    show(ns++(LP::(swT a++ [RP]))).length+1=_
    rw[er]
    simp
    omega
   rw[lw] at h5
   have e:ssingle trs ws (n+1) none s= .inr (.blk k ns a,⟨s.sp+(r.length+(swT a).length+4),s.pl-a.parts,s.op,s.bl- (1+sbl a)⟩):=by
    unfold ssingle
    rw[if_neg (by rw[h1];exact blocks_no k hk)]
    unfold spob
    rw[if_pos (by rw[h1];exact hk)]
    unfold sblockOf
    rw[stake_yes hd2 (by show(true&&decide (0<s.bl))=true;rw[decide_eq_true (by omega)];rfl)]
    dsimp only
    rw[stake_yes (s:=⟨s.sp+1,s.pl,s.op,s.bl-1⟩) h2 (by rw[g1];decide+kernel)]
    dsimp only
    rw[snames_read r [("x":Str)] ws.length ⟨s.sp+1+1,s.pl,s.op,s.bl-1⟩ g2 (by omega) (by rw[List.singleton_append,←er];exact nnd) r3 (by rw[List.singleton_append,←er];exact nl)]
    rw[List.singleton_append,←er]
    dsimp only
    rw[stake_yes (s:=⟨s.sp+1+1+r.length,s.pl,s.op,s.bl-1⟩) d4 rfl]
    dsimp only
    rw[hA]
    dsimp only
    rw[stake_yes (s:=⟨s.sp+1+1+r.length+1+(swT a).length,s.pl-a.parts,s.op,s.bl-1-sbl a⟩) d5 (decide_eq_true (drop_hd d5).1)]
    show(Sum.inr (STree.blk k ns a,(⟨s.sp+1+1+r.length+1+(swT a).length+1,_,_,s.bl-1-sbl a⟩:SSt)):SPR STree)=_
    rw[show s.sp+1+1+r.length+1+(swT a).length+1=s.sp+(r.length+(swT a).length+4) by omega,show s.bl-1-sbl a=s.bl- (1+sbl a) by omega]
   unfold sanyOf sallOf
   rw[e]
   dsimp only
   rw[sloop_stop h5.1]
   dsimp only
   rw[sloop_stop h5.2,lw]
   rfl
theorem swT_ne (t:STree):swT t≠ []:=by
 cases t<;>simp[swT]
theorem sTxt_join:∀t:STree,sTxt t=Txt.join " " (swT t)
 | .fil x w=>rfl
 | .cmp k x y=>rfl
 | .neg a=>by
   have ih:=sTxt_join a
   have e:swT (.neg a)= [NT,LP]++(swT a++ [RP]):=rfl
   rw[e,tj_app (by simp) (by simp),tj_app (swT_ne a) (by simp),join2,join1,←ih]
   show "not " ++("( " ++sTxt a++ " )")=_
   have e1:("not ":Str)=NT++ " ":=by decide+kernel
   have e2:("( ":Str)=LP++ " ":=by decide+kernel
   have e3:(" )":Str)= " " ++RP:=by decide+kernel
   rw[e1,e2,e3]
   simp only[sapp_assoc]
 | .bin k a b=>by
   have ia:=sTxt_join a
   have ib:=sTxt_join b
   have e:swT (.bin k a b)= [LP]++(swT a++([RP,k,LP]++(swT b++ [RP]))):=rfl
   rw[e,tj_app (by simp) (by simp),tj_app (swT_ne a) (by simp),tj_app (by simp) (by simp),tj_app (swT_ne b) (by simp),join1,join1,←ia,←ib]
   show Txt.join (" " ++k++ " ") ["( " ++sTxt a++ " )","( " ++sTxt b++ " )"]=_
   rw[join2,tj_cons (r:= [k,LP]) (by simp),join2]
   have e2:("( ":Str)=LP++ " ":=by decide+kernel
   have e3:(" )":Str)= " " ++RP:=by decide+kernel
   rw[e2,e3]
   simp only[sapp_assoc]
 | .blk k ns a=>by
   have ih:=sTxt_join a
   have e:swT (.blk k ns a)=([k]++ns)++([LP]++(swT a++ [RP])):=by
    show k::(ns++(LP::(swT a++ [RP])))=_
    simp
   have e2:sTxt (.blk k ns a)=Txt.join " " (([k]++ns)++([LP]++([sTxt a]++ [RP]))):=rfl
   rw[e,e2,tj_app (a:= [k]++ns) (by simp) (by simp),tj_app (a:= [LP]) (b:= [sTxt a]++ [RP]) (by simp) (by simp),tj_app (a:= [sTxt a]) (b:= [RP]) (by simp) (by simp),tj_app (a:= [k]++ns) (b:= [LP]++(swT a++ [RP])) (by simp) (by simp),tj_app (a:= [LP]) (b:=swT a++ [RP]) (by simp) (by simp),tj_app (a:=swT a) (b:= [RP]) (swT_ne a) (by simp),join1 _ (sTxt a),ih]
theorem xw_clean:∀w∈XW++(["filled","ahead","is","all","some"]:List Str),Clean w:=by decide+kernel
theorem swT_clean {trs:List Str} (ht:∀x∈trs,nameOk x=true):∀{t:STree} {bd:Option (List Str)},t.Rd trs bd→∀w∈swT t,Clean w
 | .fil x y,bd,h,w,hw=>by
   have hw:w∈ [x,"filled",y]:=hw
   simp only[List.mem_cons,z13,or_false] at hw
   rcases hw with e|e|e
   ·rw[e];exact xw_clean _ (z18 _ h.1)
   ·rw[e];exact xw_clean _ (by decide+kernel)
   ·rw[e];exact(name_word (ht y h.2.2)).cl
 | .cmp k x y,bd,h,w,hw=>by
   have hw:w∈ [x,k,y]:=hw
   simp only[List.mem_cons,z13,or_false] at hw
   rcases hw with e|e|e
   ·rw[e];exact xw_clean _ (z18 _ h.2.1)
   ·rw[e]
    rcases h.1 with z|z<;>rw[z]<;>exact xw_clean _ (by decide+kernel)
   ·rw[e];exact xw_clean _ (z18 _ h.2.2.2.1)
 | .neg a,bd,h,w,hw=>by
   have hw:w∈NT::LP::(swT a++ [RP]):=hw
   simp only[List.mem_cons,List.mem_append,z13,or_false] at hw
   rcases hw with e|e|e|e
   ·rw[e];exact bra_clean _ (by simp)
   ·rw[e];exact bra_clean _ (by simp)
   ·exact swT_clean ht (t:=a) (bd:=bd) h w e
   ·rw[e];exact bra_clean _ (by simp)
 | .bin k a b,bd,h,w,hw=>by
   have hw:w∈LP::(swT a++(RP::k::LP::(swT b++ [RP]))):=hw
   simp only[List.mem_cons,List.mem_append,z13,or_false] at hw
   rcases hw with e|e|e|e|e|e|e
   ·rw[e];exact bra_clean _ (by simp)
   ·exact swT_clean ht h.2.1 w e
   ·rw[e];exact bra_clean _ (by simp)
   ·rw[e]
    rcases h.1 with z|z<;>rw[z]<;>exact bra_clean _ (by simp)
   ·rw[e];exact bra_clean _ (by simp)
   ·exact swT_clean ht h.2.2 w e
   ·rw[e];exact bra_clean _ (by simp)
 | .blk k ns a,bd,h,w,hw=>by
   obtain⟨_,hk,hns,oa⟩:=h
   obtain⟨_,_,_,_,_,o3⟩:=own3_sub hns
   have hw:w∈k::(ns++(LP::(swT a++ [RP]))):=hw
   simp only[List.mem_cons,List.mem_append,z13,or_false] at hw
   rcases hw with e|e|e|e|e
   ·rw[e]
    have hk:k∈(["all","some"]:List Str):=hk
    simp only[List.mem_cons,z13,or_false] at hk
    rcases hk with z|z<;>rw[z]<;>exact xw_clean _ (by decide+kernel)
   ·exact xw_clean _ (z18 _ (z23 _ (o3 w e)))
   ·rw[e];exact bra_clean _ (by simp)
   ·exact swT_clean ht oa w e
   ·rw[e];exact bra_clean _ (by simp)
theorem say_words {trs:List Str} (ht:∀x∈trs,nameOk x=true) {t:STree} (h:t.Rd trs none):sayWs (sTxt t)=swT t:=by
 have cl:=swT_clean ht h
 have ne:=swT_ne t
 rw[sTxt_join]
 unfold sayWs
 rw[if_neg (fun z=>by
  have:=(line_clean ne cl).1
  rw[z] at this
  revert this
  decide+kernel)]
 exact split_words ne cl
theorem say_read {trs:List Str} (ht:∀x∈trs,nameOk x=true) {t:STree} (h:t.Rd trs none) (hf:sfu t≤12) (ho:sopn t≤10) (hp:t.parts≤8) (hb:sbl t≤3):sayOf trs (sTxt t)= .inr t:=by
 unfold sayOf
 rw[say_words ht h]
 unfold swholeOf
 have:=sany_read (trs:=trs) (ws:=swT t) t (fuelS 0 none) none ⟨0,8,0,3⟩ [] (by simp) (.inl rfl) (by show sfu t≤12;exact hf) (by show 0+sopn t≤10;omega) hp hb h
 rw[this]
 dsimp only
 rw[if_neg (by show¬(0+(swT t).length<(swT t).length);omega)]
theorem Rd_wf {trs:List Str}:∀{t:STree} {bd:Option (List Str)},t.Rd trs bd→t.Wf trs (("here":Str)::boundL bd)
 | .fil x y,bd,h=>⟨h.2.1,h.2.2⟩
 | .cmp k x y,bd,h=>⟨h.1,h.2.2.1,h.2.2.2.2⟩
 | .neg a,bd,h=>Rd_wf (t:=a) (bd:=bd) h
 | .bin k a b,bd,h=>⟨h.1,Rd_wf h.2.1,Rd_wf h.2.2⟩
 | .blk k ns a,bd,h=>by
   obtain⟨_,hk,hns,oa⟩:=h
   obtain⟨_,_,_,_,nl,_⟩:=own3_sub hns
   have hk:k∈(["all","some"]:List Str):=hk
   simp only[List.mem_cons,z13,or_false] at hk
   exact⟨hk,nl,Rd_wf oa⟩
inductive LSayAt (H:Hp):V→STree→Prop
 |bin {p:Addr} {k:Str} {x y:V} {t u:STree}:H p=some (.tup [.str k,x,y])→LSayAt H x t→LSayAt H y u→LSayAt H (.ref p) (.bin k t u)
 |neg {p:Addr} {x:V} {t:STree}:H p=some (.tup [.str "not",x])→LSayAt H x t→LSayAt H (.ref p) (.neg t)
 |fil {p:Addr} {x w:Str}:H p=some (.tup [.str "filled",.str x,.str w])→LSayAt H (.ref p) (.fil x w)
 |cmp {p:Addr} {k x y:Str}:H p=some (.tup [.str k,.str x,.str y])→LSayAt H (.ref p) (.cmp k x y)
 |blk {p q:Addr} {k:Str} {ns:List Str} {x:V} {t:STree}:H p=some (.tup [.str k,.ref q,x])→H q=some (.lst (ns.map V.str))→LSayAt H x t→LSayAt H (.ref p) (.blk k ns t)
theorem LSayAt.keep {H H':Hp} (k:∀p xs,H p=some (.tup xs)→H' p=some (.tup xs)) (l:∀p xs,H p=some (.lst xs)→H' p=some (.lst xs)) {v:V} {t:STree} (h:LSayAt H v t):LSayAt H' v t:=by
 induction h with
 |bin h _ _ i1 i2=>exact .bin (k _ _ h) i1 i2
 |neg h _ i=>exact .neg (k _ _ h) i
 |fil h=>exact .fil (k _ _ h)
 |cmp h=>exact .cmp (k _ _ h)
 |blk h g _ i=>exact .blk (k _ _ h) (l _ _ g) i
theorem LSayAt.ext {H H':Hp} {v:V} {t:STree} (h:LSayAt H v t) (e:Ext H H'):LSayAt H' v t:=h.keep (fun p _ q=>e p _ q) fun p _ q=>e p _ q
theorem LSayAt.kp {H H':Hp} {v:V} {t:STree} (h:LSayAt H v t) (e:Kp H H'):LSayAt H' v t:=h.keep (fun _ _ q=>e.tup q) fun _ _ q=>e.lst q
theorem sTxt_bin (k:Str) (a b:STree):(sTxt (.bin k a b)).length=(sTxt a).length+(sTxt b).length+k.length+10:=by
 have e:sTxt (.bin k a b)=Txt.join (" " ++k++ " ") ["( " ++sTxt a++ " )","( " ++sTxt b++ " )"]:=rfl
 rw[e,join2]
 simp only[z15]
 have c2:("( ":Str).length=2:=by decide+kernel
 have c3:(" )":Str).length=2:=by decide+kernel
 have c4:(" ":Str).length=1:=by decide+kernel
 omega
theorem sTxt_neg (a:STree):(sTxt (.neg a)).length=(sTxt a).length+8:=by
 have e:sTxt (.neg a)= "not " ++("( " ++sTxt a++ " )"):=rfl
 rw[e]
 simp only[z15]
 have c2:("( ":Str).length=2:=by decide+kernel
 have c3:(" )":Str).length=2:=by decide+kernel
 have c4:("not ":Str).length=4:=by decide+kernel
 omega
theorem tj_len {s:Str}:∀{ws:List Str},ws≠ []→(Txt.join s ws).length+s.length=(ws.map (·.length)).sum+ws.length*s.length
 |[a],_=>by rw[join1];simp
 |a::b::r,_=>by
  have ih:=tj_len (s:=s) (ws:=b::r) (by simp)
  rw[tj_cons (by simp),z15,z15]
  rw[List.map_cons,List.sum_cons,z27,Nat.succ_mul]
  omega
section
variable {K:Kf} {vs:List V} {H:Hp} {Q:VK} {E:XK} {N:Nat}
def sp_saying_text (N:Nat) (_:Kf):Sp:=fun vs H Q _=>∃(v:V) (t:STree) (trs bd:List Str),vs= [v]∧LSayAt H v t∧t.Wf trs bd∧t.dep≤N∧(sTxt t).length≤1000000∧∀H',Ext H H'→Q (.str (sTxt t)) H'
def STree.WL (trs:List Str):List Str→STree→Prop
 |bd,.bin k a b=>(k= "and" ∨k= "or")∧STree.WL trs bd a∧STree.WL trs bd b
 |bd,.neg a=>STree.WL trs bd a
 |bd,.fil x w=>x∈bd∧w∈trs
 |bd,.cmp k x y=>(k= "ahead" ∨k= "is")∧x∈bd∧y∈bd
 |bd,.blk k xs a=>(k= "all" ∨k= "some")∧(∀x∈xs,x∈OWN3)∧STree.WL trs (xs++bd) a
theorem STree.WL.mono {trs:List Str}:∀{t:STree} {bd bd':List Str},(∀x∈bd,x∈bd')→t.WL trs bd→t.WL trs bd'
 | .bin k a b,bd,bd',s,h=>⟨h.1,STree.WL.mono s h.2.1,STree.WL.mono s h.2.2⟩
 | .neg a,bd,bd',s,h=>STree.WL.mono (t:=a) s h
 | .fil x w,bd,bd',s,h=>⟨s _ h.1,h.2⟩
 | .cmp k x y,bd,bd',s,h=>⟨h.1,s _ h.2.1,s _ h.2.2⟩
 | .blk k xs a,bd,bd',s,h=>⟨h.1,h.2.1,STree.WL.mono (t:=a) (fun x hx=>(z36.mp hx).elim (fun z=>z18 _ z) fun z=>z12 _ (s x z)) h.2.2⟩
theorem Rd_WL {trs:List Str}:∀{t:STree} {bd:Option (List Str)} {b:List Str},(∀x∈(("here":Str)::boundL bd),x∈b)→t.Rd trs bd→t.WL trs b
 | .bin k a b,bd,_,s,h=>⟨h.1,Rd_WL s h.2.1,Rd_WL s h.2.2⟩
 | .neg a,bd,_,s,h=>Rd_WL (t:=a) (bd:=bd) s h
 | .fil x w,bd,_,s,h=>⟨s _ h.2.1,h.2.2⟩
 | .cmp k x y,bd,_,s,h=>⟨h.1,s _ h.2.2.1,s _ h.2.2.2.2⟩
 | .blk k xs a,bd,_,s,h=>by
   obtain⟨_,hk,hns,oa⟩:=h
   obtain⟨_,_,_,_,_,o3⟩:=own3_sub hns
   have hk:k∈(["all","some"]:List Str):=hk
   simp only[List.mem_cons,z13,or_false] at hk
   exact⟨hk,o3,Rd_WL (t:=a) (bd:=some xs) (fun x hx=>(List.mem_cons.mp hx).elim (fun z=>z12 _ (s x (by rw[z];exact z31 ..))) fun z=>z18 _ z) oa⟩
def sp_says (N:Nat) (K:Kf):Sp:=fun vs H Q _=>∃(d sp:Addr) (v:V) (t:STree) (ys bd:List Str) (cols:List (List Int)) (kvs:List (Key × V)) (f:Str→Nat),vs= [.ref d,v,.ref sp]∧LSayAt H v t∧SheetV H d ys cols∧ColOk ys.length cols∧cols.length≤1000000∧t.WL ys bd∧H sp=some (.dK kvs)∧CB kvs bd f cols.length∧t.dep≤N∧kvs.length+N≤100∧
 ∀H',Ext H H'→Q (.bl (saysT ys (rowsOf cols ys.length) cols.length t f)) H'
theorem row_bit {ys:List Str} {cols:List (List Int)} {w:Str} {j:Nat} {col:List Int} (hw:w∈ys) (hj:cols[j]?=some col):decide ((rowAt ys (rowsOf cols ys.length) w).cps.toList[j]?=some 35)=decide (col.getD (ys.idxOf w) 0=1):=by
 have hi:ys.idxOf w<ys.length:=List.idxOf_lt_length_iff.mpr hw
 have hr:rowAt ys (rowsOf cols ys.length) w=rowTxt cols (ys.idxOf w):=by
  unfold rowAt rowsOf
  rw[z10,List.getElem?_range hi]
  rfl
 have hl:j<cols.length:=by
  rcases Nat.lt_or_ge j cols.length with z|z
  ·exact z
  ·rw[z25 z] at hj;cases hj
 rw[hr,rowTxt_get hl]
 have:cols.getD j []=col:=by
  rw[z14,hj]
  rfl
 rw[this]
 unfold cellC
 by_cases e:col.getD (ys.idxOf w) 0=1
 ·rw[if_pos e,decide_eq_true rfl,decide_eq_true e]
 ·rw[if_neg e,decide_eq_false e,decide_eq_false]
  intro z
  have z:=z33 z
  revert z
  decide
end
def LeafAt (H:Hp) (trs ws:List Str) (a:Addr) (t:STree):Prop:=
 (∃x w:Str,H a=some (.tup [.str "filled",.str x,.str w])∧t= .fil x w∧x∈ws∧w∈trs)∨∃k x y:Str,(k= "ahead" ∨k= "is")∧H a=some (.tup [.str k,.str x,.str y])∧t= .cmp k x y∧x∈ws∧y∈ws
theorem LeafAt.keep {H H':Hp} {trs ws:List Str} {a:Addr} {t:STree} (h:LeafAt H trs ws a t) (k:∀xs,H a=some (.tup xs)→H' a=some (.tup xs)):LeafAt H' trs ws a t:=by
 rcases h with⟨x,w,h1,h2⟩|⟨q,x,y,h0,h1,h2⟩
 ·exact .inl ⟨x,w,k _ h1,h2⟩
 ·exact .inr ⟨q,x,y,h0,k _ h1,h2⟩
theorem LeafAt.say {H:Hp} {trs ws:List Str} {a:Addr} {t:STree} (h:LeafAt H trs ws a t):LSayAt H (.ref a) t:=by
 rcases h with⟨x,w,h1,rfl,_⟩|⟨q,x,y,h0,h1,rfl,_⟩
 ·exact .fil h1
 ·exact .cmp h1
structure ClT (trs ws:List Str) (t:STree) (p d o f:Nat):Prop where
 rd:∀bd,(∀x∈ws,x∈(("here":Str)::boundL bd))→t.Rd trs bd
 parts:t.parts≤p
 dep:t.dep≤d
 op:sopn t≤o
 fu:sfu t≤f
 bl:sbl t=0
 bn:bnT t=0
theorem LeafAt.cl {H:Hp} {trs ws:List Str} {a:Addr} {t:STree} (wx:∀x∈ws,x∈XW) (h:LeafAt H trs ws a t):ClT trs ws t 1 1 0 1:=by
 rcases h with⟨x,w,h1,rfl,h3,h4⟩|⟨q,x,y,h0,h1,rfl,h3,h4⟩
 ·exact⟨fun bd hb=>⟨wx x h3,hb x h3,h4⟩,z34 _,z34 _,z34 _,z34 _,rfl,rfl⟩
 ·exact⟨fun bd hb=>⟨h0,wx x h3,hb x h3,wx y h4,hb y h4⟩,z34 _,z34 _,z34 _,z34 _,rfl,rfl⟩
section
variable {trs ws:List Str} {t u:STree} {p d o f p' d' o' f':Nat}
theorem ClT.neg (h:ClT trs ws t p d o f):ClT trs ws (.neg t) p (d+1) (2+o) (2+f):=
 ⟨fun bd hb=>h.rd bd hb,h.parts,Nat.succ_le_succ h.dep,by have:=h.op;show 2+sopn t≤_;omega,by have:=h.fu;show 2+sfu t≤_;omega,h.bl,h.bn⟩
theorem ClT.bin {k:Str} (hk:k= "and" ∨k= "or") (h:ClT trs ws t p d o f) (g:ClT trs ws u p' d' o' f'):ClT trs ws (.bin k t u) (p+p') (max d d'+1) (1+max o o') (1+max f f'):=
 ⟨fun bd hb=>⟨hk,h.rd bd hb,g.rd bd hb⟩,by have:=h.parts;have:=g.parts;show t.parts+u.parts≤_;omega,by have:=h.dep;have:=g.dep;show max t.dep u.dep+1≤_;omega,
  by have:=h.op;have:=g.op;show 1+max (sopn t) (sopn u)≤_;omega,by have:=h.fu;have:=g.fu;show 1+max (sfu t) (sfu u)≤_;omega,by show sbl t+sbl u=0;rw[h.bl,g.bl],by show bnT t+bnT u=0;rw[h.bn,g.bn]⟩
theorem ClT.le (h:ClT trs ws t p d o f) (a:p≤p') (b:d≤d') (c:o≤o') (e:f≤f'):ClT trs ws t p' d' o' f':=⟨h.rd,Nat.le_trans h.parts a,Nat.le_trans h.dep b,Nat.le_trans h.op c,Nat.le_trans h.fu e,h.bl,h.bn⟩
end
structure SyT (trs:List Str) (t:STree) (p d o f b n:Nat):Prop where
 rd:t.Rd trs none
 parts:t.parts≤p
 dep:t.dep≤d
 op:sopn t≤o
 fu:sfu t≤f
 bl:sbl t≤b
 bn:bnT t=n
section
variable {trs:List Str} {t u:STree} {p d o f b n p' d' o' f' b' n':Nat}
theorem SyT.neg (h:SyT trs t p d o f b n):SyT trs (.neg t) p (d+1) (2+o) (2+f) b n:=
 ⟨h.rd,h.parts,Nat.succ_le_succ h.dep,by have:=h.op;show 2+sopn t≤_;omega,by have:=h.fu;show 2+sfu t≤_;omega,h.bl,h.bn⟩
theorem SyT.bin {k:Str} (hk:k= "and" ∨k= "or") (h:SyT trs t p d o f b n) (g:SyT trs u p' d' o' f' b' n'):SyT trs (.bin k t u) (p+p') (max d d'+1) (1+max o o') (1+max f f') (b+b') (n+n'):=
 ⟨⟨hk,h.rd,g.rd⟩,by have:=h.parts;have:=g.parts;show t.parts+u.parts≤_;omega,by have:=h.dep;have:=g.dep;show max t.dep u.dep+1≤_;omega,
   by have:=h.op;have:=g.op;show 1+max (sopn t) (sopn u)≤_;omega,by have:=h.fu;have:=g.fu;show 1+max (sfu t) (sfu u)≤_;omega,by have:=h.bl;have:=g.bl;show sbl t+sbl u≤_;omega,by show bnT t+bnT u=_;rw[h.bn,g.bn]⟩
theorem SyT.le (h:SyT trs t p d o f b n) (a1:p≤p') (a2:d≤d') (a3:o≤o') (a4:f≤f') (a5:b≤b'):SyT trs t p' d' o' f' b' n:=⟨h.rd,Nat.le_trans h.parts a1,Nat.le_trans h.dep a2,Nat.le_trans h.op a3,Nat.le_trans h.fu a4,Nat.le_trans h.bl a5,h.bn⟩
end
theorem ClT.blk {trs ws:List Str} {t:STree} {p d o f:Nat} {k:Str} {ns:List Str} (hk:k= "all" ∨k= "some") (hns:ns=O1∨ns=O2∨ns=O3) (hw:∀x∈ws,x∈(("here":Str)::ns)) (h:ClT trs ws t p d o f):SyT trs (.blk k ns t) p (d+ns.length+2) o (1+f) 1 ns.length:=
 ⟨⟨rfl,by rcases hk with e|e<;>rw[e]<;>decide+kernel,hns,h.rd _ hw⟩,h.parts,by have:=h.dep;show t.dep+ns.length+2≤_;omega,h.op,by have:=h.fu;show 1+sfu t≤_;omega,by show 1+sbl t≤1;rw[h.bl];exact z34 _,rfl⟩
section
variable {K:Kf} {vs:List V} {H:Hp} {Q:VK} {E:XK} {N:Nat}
def PP (b k:Nat):Nat:=if b=1 then 3 else b+k+1
def sp_new_saying (N:Nat) (_:Kf):Sp:=fun vs H Q _=>∃(p c tl wl:Addr) (n b k:Nat) (trs ws:List Str),vs= [.ref p,.ref tl,.int (b:Nat),.ref wl,.int (k:Nat)]∧PenAt H p c n∧n+40*k+200<1152921504606846976∧H tl=some (.lst (trs.map V.str))∧H wl=some (.lst (ws.map V.str))∧trs≠ []∧trs.length≤3∧ws.length≤1∧(∀x∈ws,x= "here")∧(b=0→ws≠ [])∧b≤k+1∧k≤3∧1≤k∧k≤N∧
 ∀(v:V) (t:STree) (H':Hp),LSayAt H' v t→SyT trs t (PP b k) (10+k) (6+k) (8+k) k b→Kp H H'→PenAt H' p c (n+40*k)→Q v H'
end
def badOf (trs ws:List Str):Option Nat:=match sayOf trs (Txt.join " " ws) with
 | .inl n=>some n
 | .inr _=>none
def badW (trs ws:List Str):Option Nat:=match swholeOf trs ws ⟨0,8,0,3⟩ with
 | .inl n=>some n
 | .inr _=>none
def NoSp (w:Str):Prop:=∀c∈w.cps.toList,c≠32
instance (w:Str):Decidable (NoSp w):=inferInstanceAs (Decidable (∀c∈w.cps.toList,c≠32))
theorem Clean.nosp {w:Str} (h:Clean w):NoSp w:=fun c hc=>(h.2 c hc).1
theorem sayWs_join {ws:List Str} (h0:ws≠ []) (h1:ws≠([""]:List Str)) (h:∀w∈ws,NoSp w):sayWs (Txt.join " " ws)=ws:=by
 unfold sayWs
 rw[if_neg (fun z=> ?_)]
 ·exact TL.split_join (y:= " ") (s:=32) (S:= []) rfl (by decide+kernel) (parts:=ws) h0 (fun p hp=>fun z=>h p hp 32 z rfl)
 ·have hz:=congrArg Str.length z
  have e0:("":Str).length=0:=by decide+kernel
  rw[e0] at hz
  match ws,h0,h1 with
  |[a],_,h1=>
   rw[join1] at z
   exact h1 (by rw[z])
  |a::b::r,_,_=>
   rw[tj_cons (by simp),z15,z15] at hz
   have:(" ":Str).length=1:=by decide+kernel
   omega
theorem badOf_eq {trs ws:List Str} (h0:ws≠ []) (h1:ws≠([""]:List Str)) (h:∀w∈ws,NoSp w):badOf trs ws=badW trs ws:=by
 unfold badOf badW sayOf
 rw[sayWs_join h0 h1 h]
 cases swholeOf trs ws ⟨0,8,0,3⟩<;>rfl
section
variable {trs trs' ws:List Str} (h:∀i,wd ws i= "filled" →(wd ws (i+1)∈trs↔wd ws (i+1)∈trs'))
include h
end
abbrev RowT:=List (List Str × Option Nat)
def TB (K:Kf):List (Addr × Str):= [((He.cT K ("_law_places_right",none)).2,(("_law_places_right":Str)++(".<locals>.":Str))++("<lambda>":Str))]
def ERR:List (Str × Str):= [("OtherTracks","tracks"),("NoTrack","name"),("NoColumn","column"),("BadTracks","index"),("BadSaying","index")]
section
variable {K:Kf} {vs:List V} {H:Hp} {Q:VK} {E:XK}
def dueV:Option Nat→V
 |none=> .non
 |some n=> .int (n:Nat)
theorem wrongAt_good:∀{r seen:List Str} {i:Nat},seen.length=i→i+r.length≤3→1≤i+r.length→(∀x∈r,nameOk x=true)→(seen++r).Nodup→wrongAt i seen r=none
 |[],seen,i,hs,h3,h1,hn,hd=>by
  show(if i=0 then some 0 else none)=none
  rw[if_neg (by simp at h1;omega)]
 |n::r,seen,i,hs,h3,h1,hn,hd=>by
  have hl:(n::r).length=r.length+1:=rfl
  rw[hl] at h3
  show(if i=3∨nameOk n=false∨n∈seen then some i else wrongAt (i+1) (seen++ [n]) r)=none
  rw[if_neg (fun z=> ?_)]
  ·exact wrongAt_good (by simp[hs]) (by omega) (by omega) (fun x hx=>hn x (by simp[hx])) (by rw[z19];exact hd)
  ·rcases z with z|z|z
   ·omega
   ·rw[hn n (by simp)] at z;cases z
   ·exact(List.nodup_append.mp hd).2.2 n z n (by simp) rfl
theorem trk_right {ys:List Str} (h:Trk ys):wrongAt 0 [] ys=none:=wrongAt_good rfl (by have:=h.n3;omega) (by have:=h.n1;omega) h.nm h.nd
def sp_bad (K:Kf):Sp:=fun vs H Q _=>∃(tl wl:Addr) (ys ws:List Str),vs= [.ref tl,.ref wl]∧FS K∧XFs K ERR∧Trk ys∧H tl=some (.lst (ys.map V.str))∧H wl=some (.lst (ws.map V.str))∧(ws.map (·.length)).sum+ws.length≤2000000∧∀H',Ext H H'→Q (dueV (badOf ys ws)) H'
end
def Mkw (H0:Hp) (σ:L2.St) (te:TE) (P:Hp→V→Prop):Prop:=∀(H:Hp) (Q:VK),Ext H0 H→(∀v H',Ext H H'→P H' v→Q v H')→te σ H Q
def MkwS (σ:L2.St) (ta:TA) (ws:List Str):Prop:=∀(H:Hp) (Q:List V→Hp→Prop),Q (ws.map V.str) H→ta σ H Q
def WP (ws:List Str):Hp→V→Prop:=fun H v=>∃a:Addr,v= .ref a∧H a=some (.lst (ws.map V.str))
def RowP (r:List Str × Option Nat):Hp→V→Prop:=fun H v=>∃p a:Addr,v= .ref p∧H p=some (.tup [.ref a,dueV r.2])∧H a=some (.lst (r.1.map V.str))
inductive AllR {α:Type} (R:α→V→Prop):List V→List α→Prop
 |nil:AllR R [] []
 |cons {v:V} {r:α} {vs:List V} {rs:List α}:R r v→AllR R vs rs→AllR R (v::vs) (r::rs)
abbrev RowL (H:Hp) (vs:List V) (rs:RowT):Prop:=AllR (fun r v=>RowP r H v) vs rs
def RsP (rs:RowT):Hp→V→Prop:=fun H v=>∃(a:Addr) (vs:List V),v= .ref a∧H a=some (.lst vs)∧RowL H vs rs
section
variable {H0 H H':Hp} {σ:L2.St} {te tb tc td:TE} {ta:TA} {P R:Hp→V→Prop} {K:Kf}
theorem WP.ext {ws:List Str} {v:V} (h:WP ws H v) (e:Ext H H'):WP ws H' v:=by
 obtain⟨a,h1,h2⟩:=h
 exact⟨a,h1,e _ _ h2⟩
theorem RowP.ext {r:List Str × Option Nat} {v:V} (h:RowP r H v) (e:Ext H H'):RowP r H' v:=by
 obtain⟨p,a,h1,h2,h3⟩:=h
 exact⟨p,a,h1,e _ _ h2,e _ _ h3⟩
theorem AllR.imp {α:Type} {R S:α→V→Prop} {rs:List α} {vs:List V} (h:AllR R vs rs) (k:∀r v,R r v→S r v):AllR S vs rs:=by
 induction h with
 |nil=>exact .nil
 |cons h _ ih=>exact .cons (k _ _ h) ih
theorem AllR.len {α:Type} {R:α→V→Prop} {rs:List α} {vs:List V} (h:AllR R vs rs):vs.length=rs.length:=by
 induction h with
 |nil=>rfl
 |cons _ _ ih=>exact congrArg (· +1) ih
theorem AllR.get {α:Type} {R:α→V→Prop} {rs:List α} {vs:List V} (h:AllR R vs rs):∀{k:Nat} {v:V},vs[k]?=some v→∃r,r∈rs∧R r v:=by
 induction h with
 |nil=>exact fun z=>by simp at z
 |cons h _ ih=>
  intro k v z
  cases k with
  |zero=>
   rw[List.getElem?_cons_zero] at z
   cases z
   exact⟨_,z31 ..,h⟩
  |succ k=>
   rw[List.getElem?_cons_succ] at z
   obtain⟨r,hr,q⟩:=ih z
   exact⟨r,z23 _ hr,q⟩
theorem rowL_ext {rs:RowT} {vs:List V} (h:RowL H vs rs) (e:Ext H H'):RowL H' vs rs:=AllR.imp h fun _ _ z=>z.ext e
theorem RsP.ext {rs:RowT} {v:V} (h:RsP rs H v) (e:Ext H H'):RsP rs H' v:=by
 obtain⟨a,vs,h1,h2,h3⟩:=h
 exact⟨a,vs,h1,e _ _ h2,rowL_ext h3 e⟩
theorem mwS_nil:MkwS σ tNil []:=fun _ _ q=>q
theorem mwS_c {x:Str} {ws:List Str} (h:MkwS σ ta ws):MkwS σ (tCons (tC (.str x)) ta) (x::ws):=fun H Q q=>h H _ q
theorem mw_words {ws:List Str} (h:MkwS σ ta ws) (hl:ws.length≤100):Mkw H0 σ (tLst ta) (WP ws):=fun H Q e q=>
 h H _ ⟨by rw[z8,sizeLine_eq];omega,fun p np=>q _ _ (Ext.new np) ⟨p,rfl,upd_same⟩⟩
theorem mw_var {i:Nat} {v:V} {ws:List Str} (hi:σ[i]?=some (some v)) (h:WP ws H0 v):Mkw H0 σ (yVar i) (WP ws):=fun H Q e q=>yVar_at (v:=v) hi (q v H (Ext.refl _) (h.ext e))
end
section
variable {H:Hp} {σ:L2.St} {te tb:TE} {P R:Hp→V→Prop} {rest:TS} {D:Ends} {i j:Nat}
theorem seq_id (h:te σ H fun x H1=>rest D (σ.set i (some x)) H1):tSeq (tAsg te (gName i)) rest D σ H:=h
end
theorem lc_empty {g:TG} {tt:TT} {te:TE} {vs:List Nat} {σ:L2.St} {n:Nat} {G:Hp→Prop} {Y:Nat→Hp→V→Hp→Prop} {H1:Hp} {Q:VK} {D:Addr} (hD:H1 D=none) (hG:∀H',Ext H1 H'→G H')
 (step:∀(k:Nat) (x:V) (H H':Hp) (C:L2.St→Bool→Hp→Prop),k<n→Ext H1 H→Y k H x H'→(∀σ2 H3,Ext H H3→C σ2 false H3)→g x (wipe σ vs) H' fun σ2 H2=>wipe σ2 vs=wipe σ vs∧tt σ2 H2 (C σ2)) (q:∀H',Ext H1 H'→H' D=some (.lst [])→Q (.ref D) H'):
 ∃Pv:Nat→List V→Hp→Prop,Pv 0 [] (upd H1 D (.lst []))∧(∀i acc H,i≤n→Pv i acc H→G H∧H D=some (.lst acc)∧acc.length<sizeLine)∧
  (∀i x acc H H',i<n→Pv i acc H→Y i H x H'→g x (wipe σ vs) H' fun σ2 H2=>wipe σ2 vs=wipe σ vs∧tt σ2 H2 fun b H3=>
        yBr b (te σ2 H3 fun y H4=>H4 D=some (.lst acc)∧Pv (i+1) (acc++ [y]) (upd H4 D (.lst (acc++ [y])))) (Pv (i+1) acc H3))∧∀acc H,Pv n acc H→Q (.ref D) H:=by
 refine⟨fun _ acc H=>acc= []∧Ext H1 H∧H D=some (.lst []),⟨rfl,Ext.new hD,upd_same⟩,?_,?_,fun acc H ⟨_,e,d⟩=>q H e d⟩
 ·rintro i acc H _ ⟨rfl,e,d⟩
  exact⟨hG H e,d,by decide⟩
 ·rintro i x acc H H' hi ⟨rfl,e,d⟩ hy
  exact step i x H H' _ hi e hy fun σ2 H3 e3=>brF rfl ⟨rfl,e.trans e3,e3 _ _ d⟩
section
variable {K:Kf} {vs:List V} {H:Hp} {Q:VK} {E:XK}
def sp_hand_right (K:Kf):Sp:=fun vs H Q _=>∃(tl:Addr) (ys:List Str),vs= [.ref tl]∧FS K∧XFs K ERR∧Trk ys∧(∀y∈ys,y∈NAMES)∧H tl=some (.lst (ys.map V.str))∧∀H',Ext H H'→Q (.bl true) H'
def RowF (D:Addr) (r:List Str × Option Nat) (H:Hp) (v:V):Prop:=∃p a:Addr,v= .ref p∧H p=some (.tup [.ref a,dueV r.2])∧H a=some (.lst (r.1.map V.str))∧p≠D∧a≠D
theorem RowF.ext {D:Addr} {r:List Str × Option Nat} {H H':Hp} {v:V} (h:RowF D r H v) (e:Ext H H'):RowF D r H' v:=by
 obtain⟨p,a,h1,h2,h3,h4⟩:=h
 exact⟨p,a,h1,e _ _ h2,e _ _ h3,h4⟩
theorem RowF.mut {D:Addr} {o:HO} {r:List Str × Option Nat} {H:Hp} {v:V} (h:RowF D r H v):RowF D r (upd H D o) v:=by
 obtain⟨p,a,h1,h2,h3,h4,h5⟩:=h
 exact⟨p,a,h1,by rw[upd_ne h4];exact h2,by rw[upd_ne h5];exact h3,h4,h5⟩
end
abbrev BrT:=List (Str × Bool)
def BrP (r:Str × Bool):Hp→V→Prop:=fun H v=>∃p:Addr,v= .ref p∧H p=some (.tup [.str r.1,.bl r.2])
def BsP (rs:BrT):Hp→V→Prop:=fun H v=>∃(a:Addr) (vs:List V),v= .ref a∧H a=some (.lst vs)∧AllR (fun r v=>BrP r H v) vs rs
section
variable {H0 H H':Hp} {σ:L2.St} {te tb td:TE} {ta:TA} {K:Kf} {x y:Str} {n k:Nat} {d:Bool} {rs us:BrT}
theorem BrP.ext {r:Str × Bool} {v:V} (h:BrP r H v) (e:Ext H H'):BrP r H' v:=by
 obtain⟨p,h1,h2⟩:=h
 exact⟨p,h1,e _ _ h2⟩
theorem BsP.ext {v:V} (h:BsP rs H v) (e:Ext H H'):BsP rs H' v:=by
 obtain⟨a,vs,h1,h2,h3⟩:=h
 exact⟨a,vs,h1,e _ _ h2,h3.imp fun _ _ z=>z.ext e⟩
end
section
variable {K:Kf} {vs:List V} {H:Hp} {Q:VK} {E:XK}
def sp_ranks_right (K:Kf):Sp:=fun vs H Q _=>∃(tl a p:Addr) (t:Str) (r ss:List Str) (m:Nat) (tr:Str) (c:Nat),vs= [.ref tl,.ref a,.ref p,.bl (saysT (t::r) ss m (.fil "here" t) fun _=>c)]∧FS K∧Trk (t::r)∧(∀y∈t::r,y∈NAMES)∧H tl=some (.lst ((t::r).map V.str))∧
 SheetAt K H a (t::r) ss∧ShJ (t::r) ss m∧m≤1000000∧SqT K H p [.str tr,.int (c:Nat)]∧tr∈t::r∧c<m∧∀H',Ext H H'→Q (.bl true) H'
theorem zNe_same {x:Str} {G:Hp} {Q:VK} (q:Q (.bl false) G):zNe (.str x) (.str x) G Q:=by
 show(match(some (decide (x=x))) with|some b=>Q (.bl (!b)) G|none=>False)
 rw[decide_eq_true rfl]
 exact q
theorem repr_bl {b:Bool} {G:Hp} {Q:VK} (q:Q (.str (if b then "True" else "False")) G):zRepr [.bl b] G Q:=q
end
structure AskOk (K:Kf) (t:Str) (r:List Str) (u:STree) (ss:List Str) (m:Nat):Prop where
 F:FS K
 tk:Trk (t::r)
 nm:∀y∈t::r,y∈NAMES
 ok:STOk (t::r) u
 sj:ShJ (t::r) ss m
 m9:m≤900
def dueJ:Nat→List V
 |0=> [.str "tracks",.non]
 |1=> [.str "track",.str "odd"]
 |2=> [.str "column",.int 999]
 |3=> [.str "column",.int (-1)]
 |4=> [.str "index",.int ((0:Nat):Int)]
 |_=> [.str "index",.int ((1:Nat):Int)]
section
variable {H H':Hp} {K:Kf} {lo:Nat→Addr→Addr→HO}
def QL:Str:=((("_law_places_right":Str)++(".<locals>.":Str))++("<lambda>":Str))
def RowJ (lo:Nat→Addr→Addr→HO) (D:Addr) (j:Nat) (G:Hp) (v:V):Prop:=∃p f c' d:Addr,v= .ref p∧G p=some (.tup [.ref f,.ref d])∧G f=some (lo j f c')∧G c'=some (LamX.CodeO c' QL)∧G d=some (.tup (dueJ j))∧p≠D∧f≠D∧c'≠D∧d≠D
theorem RowJ.mut {D:Addr} {j:Nat} {v:V} {o:HO} (h:RowJ lo D j H v):RowJ lo D j (upd H D o) v:=by
 obtain⟨p,f,c',d,h1,h2,h3,h4,h5,n1,n2,n3,n4⟩:=h
 exact⟨p,f,c',d,h1,by rw[upd_ne n1];exact h2,by rw[upd_ne n2];exact h3,by rw[upd_ne n3];exact h4,by rw[upd_ne n4];exact h5,n1,n2,n3,n4⟩
end
section
variable {K:Kf} {vs:List V} {H:Hp} {Q:VK} {E:XK} {lo:Nat→Addr→Addr→HO}
def sp_places_right (K:Kf):Sp:=fun vs H Q _=>∃(tl sy a:Addr) (t:Str) (r:List Str) (txt:Str) (u:STree) (hh:Bool) (ss:List Str) (m:Nat),vs= [.ref tl,.ref sy,.ref a]∧XFs K ERR∧AskOk K t r u ss m∧LamX.Tabs (TB K) H∧H tl=some (.lst ((t::r).map V.str))∧SayAt K H sy (t::r) txt u hh∧SheetAt K H a (t::r) ss∧
 ∀H',LamX.ExtN H H'→LamX.Tabs (TB K) H'→Q (.bl true) H'
end
theorem sTxt_dep {trs:List Str} (h12:∀x∈trs,x.length≤12):∀{t:STree} {bd:Option (List Str)},t.Rd trs bd→(sTxt t).length+40≤60*2^t.dep
 | .fil x w,bd,h=>by
   have hx:x.length≤12:=(show∀x∈XW,x.length≤12 by decide+kernel) x h.1
   have hw:=h12 w h.2.2
   have e:sTxt (.fil x w)=Txt.join " " [x,"filled",w]:=rfl
   have z:=tj_len (s:= " ") (ws:= [x,"filled",w]) (by simp)
   rw[e]
   have c4:(" ":Str).length=1:=by decide+kernel
   have c6:("filled":Str).length=6:=by decide+kernel
   simp only[List.map_cons,List.map_nil,List.sum_cons,List.sum_nil,z27,List.length_nil,c4,c6] at z
   show _≤60*2^1
   omega
 | .cmp k x y,bd,h=>by
   have hx:x.length≤12:=(show∀x∈XW,x.length≤12 by decide+kernel) x h.2.1
   have hy:y.length≤12:=(show∀x∈XW,x.length≤12 by decide+kernel) y h.2.2.2.1
   have hk:k.length≤5:=by rcases h.1 with e|e<;>rw[e]<;>decide+kernel
   have e:sTxt (.cmp k x y)=Txt.join " " [x,k,y]:=rfl
   have z:=tj_len (s:= " ") (ws:= [x,k,y]) (by simp)
   rw[e]
   have c4:(" ":Str).length=1:=by decide+kernel
   simp only[List.map_cons,List.map_nil,List.sum_cons,List.sum_nil,z27,List.length_nil,c4] at z
   show _≤60*2^1
   omega
 | .neg a,bd,h=>by
   have ih:=sTxt_dep h12 (t:=a) (bd:=bd) h
   rw[sTxt_neg]
   show _≤60*2^ (a.dep+1)
   rw[Nat.pow_succ]
   omega
 | .bin k a b,bd,h=>by
   have ia:=sTxt_dep h12 h.2.1
   have ib:=sTxt_dep h12 h.2.2
   have hk:k.length≤3:=by rcases h.1 with e|e<;>rw[e]<;>decide+kernel
   rw[sTxt_bin]
   have pa:2^a.dep≤2^ (max a.dep b.dep):=Nat.pow_le_pow_right (by decide) (Nat.le_max_left ..)
   have pb:2^b.dep≤2^ (max a.dep b.dep):=Nat.pow_le_pow_right (by decide) (Nat.le_max_right ..)
   show _≤60*2^ (max a.dep b.dep+1)
   rw[Nat.pow_succ]
   omega
 | .blk k ns a,bd,h=>by
   obtain⟨_,hk,hns,oa⟩:=h
   obtain⟨_,_,_,_,nl,o3⟩:=own3_sub hns
   have ih:=sTxt_dep h12 oa
   have hk2:k.length≤4:=(show∀x∈BLOCKS,x.length≤4 by decide+kernel) k hk
   have hn:(ns.map (·.length)).sum≤3:=by
    rcases hns with e|e|e<;>rw[e]<;>decide+kernel
   have e:sTxt (.blk k ns a)=Txt.join " " (([k]++ns)++([LP,sTxt a,RP]:List Str)):=rfl
   have z:=tj_len (s:= " ") (ws:=([k]++ns)++([LP,sTxt a,RP]:List Str)) (by simp)
   have c4:(" ":Str).length=1:=by decide+kernel
   have c1:LP.length=1:=by decide+kernel
   have c2:RP.length=1:=by decide+kernel
   have hl:(([k]++ns)++([LP,sTxt a,RP]:List Str)).length=ns.length+4:=by simp
   have hs:((([k]++ns)++([LP,sTxt a,RP]:List Str)).map (·.length)).sum=k.length+(ns.map (·.length)).sum+(1+((sTxt a).length+1)):=by
    rw[z16,List.sum_append,z16,List.sum_append]
    simp[c1,c2]
   rw[c4,Nat.mul_one,hl,hs] at z
   rw[e]
   have pw:2^ (a.dep+1)≤2^ (a.dep+ns.length+2):=Nat.pow_le_pow_right (by decide) (by omega)
   rw[Nat.pow_succ] at pw
   show _≤60*2^ (a.dep+ns.length+2)
   omega
structure LPx (ys:List Str) (t:STree):Prop where
 tk:Trk ys
 nm:∀y∈ys,y∈NAMES
 rd:t.Rd ys none
 dep:t.dep≤13
 read:sayOf ys (sTxt t)= .inr t
theorem LPx.txt {ys:List Str} {t:STree} (L:LPx ys t):(sTxt t).length≤500000:=by
 have z:=sTxt_dep L.tk.short L.rd
 have:2^t.dep≤2^13:=Nat.pow_le_pow_right (by decide) L.dep
 omega
theorem LPx.cl {ys:List Str} {t:STree} (L:LPx ys t):∀w∈swT t,Clean w:=swT_clean L.tk.nm L.rd
theorem LPx.split {ys:List Str} {t:STree} (L:LPx ys t):Txt.split (sTxt t) " "=swT t:=by
 rw[sTxt_join]
 exact split_words (swT_ne t) L.cl
def tot (ws:List Str):Nat:=(ws.map (·.length)).sum+ws.length
theorem tot_app (a b:List Str):tot (a++b)=tot a+tot b:=by
 unfold tot
 rw[z16,List.sum_append,z17]
 omega
theorem tot_take (ws:List Str) (p:Nat):tot (ws.take p)≤tot ws:=by
 have:=tot_app (ws.take p) (ws.drop p)
 rw[List.take_append_drop] at this
 omega
theorem tot_drop (ws:List Str) (p:Nat):tot (ws.drop p)≤tot ws:=by
 have:=tot_app (ws.take p) (ws.drop p)
 rw[List.take_append_drop] at this
 omega
theorem LPx.tot {ys:List Str} {t:STree} (L:LPx ys t):tot (swT t)≤500001:=by
 have h:=L.txt
 have z:=tj_len (s:= " ") (ws:=swT t) (swT_ne t)
 rw[sTxt_join] at h
 have c4:(" ":Str).length=1:=by decide+kernel
 rw[c4] at z
 unfold Eb.tot
 omega
theorem swT_len:∀t:STree,3≤(swT t).length
 | .fil x w=>z34 _
 | .cmp k x y=>z34 _
 | .neg a=>by
   have:=swT_len a
   show 3≤(swT a++ [RP]).length+1+1
   rw[z17]
   omega
 | .bin k a b=>by
   have:=swT_len a
   show 3≤(swT a++(RP::k::LP::(swT b++ [RP]))).length+1
   rw[z17]
   omega
 | .blk k ns a=>by
   have:=swT_len a
   show 3≤(ns++(LP::(swT a++ [RP]))).length+1
   rw[z17,z27,z17]
   omega
theorem cut_of {ws r:List Str} {p:Nat} (hp:p≤ws.length) (hr:r.getD 0 "" ≠ "and" ∧r.getD 0 "" ≠ "or"):CutW ws (ws.take p++r) p∧wd (ws.take p++r) p=r.getD 0 "":=by
 have hl:(ws.take p).length=p:=by rw[z22];omega
 have hw:wd (ws.take p++r) p=r.getD 0 "":=by
  unfold wd
  rw[z14,z29 (by omega),hl,Nat.sub_self,←z14]
 refine⟨⟨by rw[z17,hl];omega,hp,fun i hi=> ?_,by rw[hw];exact hr⟩,hw⟩
 unfold wd
 rw[z14,z14,z28 (by omega),List.getElem?_take_of_lt hi]
theorem bad_take {ys r:List Str} {t:STree} {p:Nat} (L:LPx ys t) (hp:p≤(swT t).length) (hr:r.getD 0 "" ≠ "and" ∧r.getD 0 "" ≠ "or") (hd:p<(swT t).length→DeadW ys (r.getD 0 "")∧(r≠ []∨(swT t).length=p+1)) (hq:p=(swT t).length→r≠ [])
 (hn:∀w∈r,NoSp w) (h2:2≤((swT t).take p++r).length):badOf ys ((swT t).take p++r)=some p:=by
 obtain⟨c,hw⟩:=cut_of hp hr
 have hl:((swT t).take p).length=p:=by rw[z22];omega
 have ne:∀{r:List Str},r≠ []→p<((swT t).take p++r).length:=fun{r} h=>by
  have:0<r.length:=List.length_pos_iff.mpr h
  rw[z17,hl]
  omega
 rw[badOf_eq (fun z=>by rw[z] at h2;simp at h2) (fun z=>by rw[z] at h2;simp at h2) fun w hw=>(z36.mp hw).elim (fun z=>(L.cl w (List.mem_of_mem_take z)).nosp) (hn w)]
 have rd:=L.read
 unfold sayOf at rd
 rw[say_words L.tk.nm L.rd] at rd
 cases hs:swholeOf ys (swT t) ⟨0,8,0,3⟩ with
 |inl n=>rw[hs] at rd;cases rd
 |inr q=>
  obtain⟨u,s'⟩:=q
  unfold badW
  rw[whole_cut c rfl hs (fun z=>by rw[hw];exact⟨(hd z).1,(hd z).2.elim (fun y=> .inl (ne y)) .inr⟩) fun z=>ne (hq z)]
theorem names_nm:∀x∈NAMES,nameOk x=true:=by decide+kernel
theorem dead_A {ys:List Str} (nm:∀y∈ys,y∈NAMES):DeadW ys "A":=⟨by decide+kernel,by decide+kernel,fun z=>absurd (nm _ z) (by decide+kernel)⟩
theorem dead_0 {ys:List Str} (nm:∀y∈ys,y∈NAMES):DeadW ys "":=⟨by decide+kernel,by decide+kernel,fun z=>absurd (nm _ z) (by decide+kernel)⟩
section
variable {ys:List Str} {t:STree} {k:Nat}
theorem LPx.sp (L:LPx ys t):∀{w:Str} {q:Nat},w∈(swT t).drop q→NoSp w:=fun h=>(L.cl _ (List.mem_of_mem_drop h)).nosp
theorem bad_1 (L:LPx ys t) (hk:k<(swT t).length):badOf ys (((swT t).take k++(["A"]:List Str))++(swT t).drop (k+1))=some k:=by
 rw[z19]
 have h3:=swT_len t
 exact bad_take L (by omega) (show(("A":Str)≠ "and")∧(("A":Str)≠ "or") by decide+kernel) (fun _=>⟨dead_A L.nm,.inl (by simp)⟩) (fun z=>by omega) (fun w hw=>(List.mem_cons.mp hw).elim (fun z=>by rw[z];decide+kernel) L.sp)
  (by rw[z17,z17,z22,List.length_drop,List.length_singleton];omega)
theorem bad_2 (L:LPx ys t) (hk:k≤(swT t).length):badOf ys (((swT t).take k++([""]:List Str))++(swT t).drop k)=some k:=by
 rw[z19]
 have h3:=swT_len t
 exact bad_take L hk (show(("":Str)≠ "and")∧(("":Str)≠ "or") by decide+kernel) (fun _=>⟨dead_0 L.nm,.inl (by simp)⟩) (fun _=>by simp) (fun w hw=>(List.mem_cons.mp hw).elim (fun z=>by rw[z];decide+kernel) L.sp)
  (by rw[z17,z17,z22,List.length_drop,List.length_singleton];omega)
theorem bad_3 (L:LPx ys t):badOf ys ((swT t).take ((swT t).length-1))=some ((swT t).length-1):=by
 have h3:=swT_len t
 have z:=bad_take (r:= []) (p:=(swT t).length-1) L (by omega) (show(("":Str)≠ "and")∧(("":Str)≠ "or") by decide+kernel) (fun _=>⟨dead_0 L.nm,.inr (by omega)⟩) (fun z=>by omega) (fun w hw=>by cases hw) (by rw[z26,z22];omega)
 rw[z26] at z
 exact z
theorem bad_4 (L:LPx ys t):badOf ys (swT t++(["here"]:List Str))=some (swT t).length:=by
 have h3:=swT_len t
 have z:=bad_take (r:= ["here"]) (p:=(swT t).length) L (z34 _) (show(("here":Str)≠ "and")∧(("here":Str)≠ "or") by decide+kernel) (fun z=>by omega) (fun _=>by simp) (fun w hw=>by rw[z32.mp hw];decide+kernel) (by rw[z17,z22];omega)
 rw[List.take_length] at z
 exact z
theorem tot_1 (L:LPx ys t) {x:Str} (hx:x.length≤4) (a b:Nat):tot (((swT t).take a++ [x])++(swT t).drop b)≤1000010:=by
 have h:=L.tot
 rw[tot_app,tot_app]
 have h1:=tot_take (swT t) a
 have h2:=tot_drop (swT t) b
 have h3:tot [x]=x.length+1:=by unfold tot;simp
 omega
end
theorem list_shaped {ds:List PyData} (h:∀d∈ds,PyData.canLay0 d=true∧PyData.depth d≤3):SeqAt.shaped (.list ds)=true:=by
 have h1:PyData.canLayAll0 ds=true∧PyData.depthAll ds≤3:=by
  induction ds with
  |nil=>exact⟨rfl,z35 _⟩
  |cons a r ih=>
   obtain⟨i1,i2⟩:=ih fun d hd=>h d (z23 _ hd)
   obtain⟨j1,j2⟩:=h a (z31 ..)
   refine⟨?_,?_⟩
   ·show(PyData.canLay0 a&&PyData.canLayAll0 r)=true
    rw[i1,j1]
    rfl
   ·show max (PyData.depth a) (PyData.depthAll r)≤3
    omega
 show(PyData.canLayAll0 ds&&decide (PyData.depthAll ds+1≤64))=true
 rw[h1.1,decide_eq_true (by omega)]
 rfl
theorem list_eqv {ds:List PyData} (h:∀d∈ds,PyData.eqv d d=true):PyData.eqv (.list ds) (.list ds)=true:=by
 show PyData.eqvAll ds ds=true
 induction ds with
 |nil=>rfl
 |cons a r ih=>
  show(PyData.eqv a a&&PyData.eqvAll r r)=true
  rw[h a (z31 ..),ih fun d hd=>h d (z23 _ hd)]
  rfl
def WALL:List Str:= ["here","x","y","z","filled","ahead","is","all","some","(",")","not","and","or"]
theorem xw_all:∀w∈XW,w∈WALL:=by decide+kernel
theorem own_all:∀w∈OWN3,w∈WALL:=by decide+kernel
theorem wall_in {w:Str} (h:decide (w∈WALL)=true):w∈WALL:=of_decide_eq_true h
theorem swT_mem {trs:List Str}:∀{t:STree} {bd:Option (List Str)},t.Rd trs bd→∀w∈swT t,w∈trs∨w∈WALL
 | .fil x y,_,h,w,hw=>by
   have hw:w∈([x,"filled",y]:List Str):=hw
   simp only[List.mem_cons,z13,or_false] at hw
   rcases hw with rfl|rfl|rfl
   ·exact .inr (xw_all _ h.1)
   ·exact .inr (wall_in (by decide+kernel))
   ·exact .inl h.2.2
 | .cmp k x y,_,h,w,hw=>by
   have hw:w∈([x,k,y]:List Str):=hw
   simp only[List.mem_cons,z13,or_false] at hw
   rcases hw with rfl|rfl|rfl
   ·exact .inr (xw_all _ h.2.1)
   ·rcases h.1 with e|e<;>rw[e]<;>exact .inr (wall_in (by decide+kernel))
   ·exact .inr (xw_all _ h.2.2.2.1)
 | .neg a,bd,h,w,hw=>by
   have hw:w∈NT::LP::(swT a++ [RP]):=hw
   simp only[List.mem_cons,List.mem_append,z13,or_false] at hw
   rcases hw with e|e|e|e
   ·rw[e];exact .inr (wall_in (by decide+kernel))
   ·rw[e];exact .inr (wall_in (by decide+kernel))
   ·exact swT_mem (t:=a) (bd:=bd) h w e
   ·rw[e];exact .inr (wall_in (by decide+kernel))
 | .bin k a b,bd,h,w,hw=>by
   obtain⟨hk,oa,ob⟩:=h
   have hw:w∈LP::(swT a++(RP::k::LP::(swT b++ [RP]))):=hw
   simp only[List.mem_cons,List.mem_append,z13,or_false] at hw
   rcases hw with e|e|e|e|e|e|e
   ·rw[e];exact .inr (wall_in (by decide+kernel))
   ·exact swT_mem oa w e
   ·rw[e];exact .inr (wall_in (by decide+kernel))
   ·rcases hk with z|z<;>rw[e,z]<;>exact .inr (wall_in (by decide+kernel))
   ·rw[e];exact .inr (wall_in (by decide+kernel))
   ·exact swT_mem ob w e
   ·rw[e];exact .inr (wall_in (by decide+kernel))
 | .blk k ns a,bd,h,w,hw=>by
   obtain⟨_,hk,hns,oa⟩:=h
   have hw:w∈k::(ns++(LP::(swT a++ [RP]))):=hw
   obtain⟨_,_,_,_,_,o3⟩:=own3_sub hns
   simp only[List.mem_cons,List.mem_append,z13,or_false] at hw
   rcases hw with e|e|e|e|e
   ·rw[e]
    have hk:k∈(["all","some"]:List Str):=hk
    simp only[List.mem_cons,z13,or_false] at hk
    rcases hk with z|z<;>rw[z]<;>exact .inr (wall_in (by decide+kernel))
   ·exact .inr (own_all _ (o3 w e))
   ·rw[e];exact .inr (wall_in (by decide+kernel))
   ·exact swT_mem oa w e
   ·rw[e];exact .inr (wall_in (by decide+kernel))
theorem wall_ok:∀w∈WALL,okW w:=by decide+kernel
theorem join_ok:∀{ws:List Str},(∀w∈ws,okW w)→okW (Txt.join " " ws)
 |[],_=>by
  intro c hc
  cases hc
 |[a],h=>by
  rw[join1]
  exact h a (z31 ..)
 |a::b::r,h=>by
  have ih:=join_ok (ws:=b::r) fun w hw=>h w (z23 _ hw)
  rw[tj_cons (by simp)]
  intro c hc
  have hc:c∈((a.cps++(" ":Str).cps)++(Txt.join " " (b::r)).cps).toList:=hc
  rw[Array.toList_append,Array.toList_append,List.mem_append,List.mem_append] at hc
  rcases hc with(hc|hc)|hc
  ·exact h a (z31 ..) c hc
  ·have:c∈([32]:List Nat):=hc
   have:c=32:=by simpa using this
   omega
  ·exact ih c hc
theorem LPx.okT {ys:List Str} {t:STree} (L:LPx ys t):okV (.str (sTxt t))=true:=okS_lay (by
 rw[sTxt_join]
 exact join_ok fun w hw=>(swT_mem L.rd w hw).elim (fun z=>name_okW (L.tk.nm w z)) (wall_ok w))
structure LT (K:Kf) (H:Hp) (p c tl tld sg:Addr) (sv:V) (n:Nat) (ys:List Str) (t:STree):Prop where
 pen:PenAt H p c n
 tab:LamX.Tabs (TB K) H
 trk:H tl=some (.lst (ys.map V.str))
 say:LSayAt H sv t
 sd:SayAt K H tld ys (sTxt t) t (decide (("here":Str)∈swT t))
 sg:H sg=some (.lst ((swT t).map V.str))
section
variable {K:Kf} {H H':Hp} {p c tl tld sg:Addr} {sv:V} {n m:Nat} {ys:List Str} {t:STree}
theorem LT.ext (h:LT K H p c tl tld sg sv n ys t) (e:Ext H H'):LT K H' p c tl tld sg sv n ys t:=⟨h.pen.ext e,h.tab.ext e,e _ _ h.trk,h.say.ext e,h.sd.ext e,e _ _ h.sg⟩
theorem SayAt.kp {a:Addr} {trs:List Str} {txt:Str} {u:STree} {hh:Bool} (h:SayAt K H a trs txt u hh) (k:Kp H H'):SayAt K H' a trs txt u hh:=by
 obtain⟨dx,t,v,h1,h2,h3⟩:=h.ex
 exact⟨dx,t,v,k.keep h1 (fun z=>z),k.tup h2,h3.keep fun p xs q=>k.tup q⟩
theorem LT.kp (h:LT K H p c tl tld sg sv n ys t) (k:Kp H H') (P:PenAt H' p c m):LT K H' p c tl tld sg sv m ys t:=⟨P,tabs_kp h.tab k,k.lst h.trk,h.say.kp k,h.sd.kp k,k.lst h.sg⟩
end
section
variable {K:Kf} {vs:List V} {H:Hp} {Q:VK} {E:XK}
def t_turn (K:Kf) (E:XK):TS:=
 (tSeq (tAsg (tTup (tCons (yCall (sp_new_tracks K) E0 (tCons (yVar 1) (tCons (tC (.int 3)) tNil))) (tCons (tOp zRepL (tLst (tCons (tC (.str "here")) tNil)) (tCB zInt (tCons (tOp zGt (yCall (sp_draw K) E0 (tCons (yVar 1) (tCons (tC (.int 3)) tNil))) (tC (.int 0))) tNil))) tNil))) (gTup K 2 (gCons (gName 3) (gCons (gName 4) gNil))))
    (tSeq (tAsg (yCall (sp_new_saying 3 K) E0 (tCons (yVar 1) (tCons (yVar 3) (tCons (tOp zAdd (tC (.int 1)) (yCall (sp_draw K) E0 (tCons (yVar 1) (tCons (tC (.int 4)) tNil)))) (tCons (yVar 4) (tCons (tC (.int 3)) tNil)))))) (gName 5))
    (tSeq (tAsg (yCall (sp_saying_text 24 K) E0 (tCons (yVar 5) tNil)) (gName 6))
    (tSeq (tAsg (tTup (tCons (yNew (He.ga K "Saying") (sp_Saying_init K) W0 (tCons (yIfE (yTst (tOp zEq (yVar 2) (tC (.int 1)))) (tCB (zTuple K) (tCons (yVar 3) tNil)) (tCB (zList K) (tCons (yVar 3) tNil))) (tCons (yVar 6) tNil))) (tCons (tBM K "str" zSplit (yVar 6) (tCons (tC (.str " ")) tNil)) tNil))) (gTup K 2 (gCons (gName 7) (gCons (gName 8) gNil))))
    (tSeq (yIf (yTst (tOp (zNeD K) (tLst (tCons (yFld (isC K ["Saying"]) (yVar 7) "text") (tCons (yFld (isC K ["Saying"]) (yVar 7) "tracks") (tCons (yFld (isC K ["Saying"]) (yVar 7) "has_here") tNil)))) (tLst (tCons (yVar 6) (tCons (tCB (zTuple K) (tCons (yVar 3) tNil)) (tCons (tOp (zIn K false) (tC (.str "here")) (yVar 8)) tNil)))))) (tRet (tC (.bl false))) tNext)
    (tSeq (yFor (jRng (tC (.int 6))) (gName 9) (tSeq (tAsg (yCall (sp_new_sheet K) E0 (tCons (yVar 1) (tCons (yVar 3) (tCons (tOp zAdd (tC (.int 1)) (yCall (sp_draw K) E0 (tCons (yVar 1) (tCons (tC (.int 9)) tNil)))) tNil)))) (gName 11))
    (tSeq (yPar 12 13 (tCons (yNew (He.ga K "Sheet") (sp_Sheet_init K) W0 (tCons (yCall (sp_sheet_text K) E0 (tCons (yVar 11) tNil)) tNil)) (tCons (yCall (sp_drawn_place K) E0 (tCons (yVar 1) (tCons (yVar 11) tNil))) tNil)))
    (yIf (yTst (tOp zNe (tCB zRepr (tCons (yMeth (He.ga K "Saying") "holds" (sp_Saying_holds K) W0 (yVar 7) (tCons (yVar 12) (tCons (yVar 13) tNil))) tNil)) (tCB zRepr (tCons (yCall (sp_says 24 K) E0 (tCons (yVar 11) (tCons (yVar 5) (tCons (tDisp (((tC (.str "here")),(tOp (zIxL K) (yVar 13) (tC (.int 1))))::[])) tNil)))) tNil)))) (tRet (tC (.bl false))) tNext))))
    (tSeq (tAsg (yCall (sp_draw K) E0 (tCons (yVar 1) (tCons (tCB (zLen K) (tCons (yVar 8) tNil)) tNil))) (gName 10))
    (tSeq (yIf (yTst (tOp zNe (yCall (sp_bad K) E0 (tCons (yVar 3) (tCons (tOp zCatL (tOp zCatL (tSl (zSlL K) (yVar 8) tNoPart (tPart (yVar 10))) (tLst (tCons (tC (.str "A")) tNil))) (tSl (zSlL K) (yVar 8) (tPart (tOp zAdd (yVar 10) (tC (.int 1)))) tNoPart)) tNil))) (yVar 10))) (tRet (tC (.bl false))) tNext)
    (tSeq (yIf (yTst (tOp (zNeD K) (yLc (jRng (tOp zAdd (tCB (zLen K) (tCons (yVar 8) tNil)) (tC (.int 1)))) (gName 14) (yTst (tOp zNe (yCall (sp_bad K) E0 (tCons (yVar 3) (tCons (tOp zCatL (tOp zCatL (tSl (zSlL K) (yVar 8) tNoPart (tPart (yVar 14))) (tLst (tCons (tC (.str "")) tNil))) (tSl (zSlL K) (yVar 8) (tPart (yVar 14)) tNoPart)) tNil))) (yVar 14))) (yVar 14) [14]) (tLst tNil))) (tRet (tC (.bl false))) tNext)
    (tSeq (yIf (yNot (yTst (yCall (sp_ranks_right K) E0 (tCons (yVar 3) (tCons (yVar 12) (tCons (yVar 13) (tCons (tOp zEq (tOp (zIxL K) (tOp (zIxL K) (yDGet (yVar 11) (tC (.str "cols"))) (tOp (zIxL K) (yVar 13) (tC (.int 1)))) (tC (.int 0))) (tC (.int 1))) tNil))))))) (tRet (tC (.bl false))) tNext)
    (tSeq (yIf (yOr (yTst (tOp zNe (yCall (sp_bad K) E0 (tCons (yVar 3) (tCons (tSl (zSlL K) (yVar 8) tNoPart (tPart (tUn zNeg (tC (.int 1))))) tNil))) (tOp zSub (tCB (zLen K) (tCons (yVar 8) tNil)) (tC (.int 1))))) (yTst (tOp zNe (yCall (sp_bad K) E0 (tCons (yVar 3) (tCons (tOp zCatL (yVar 8) (tLst (tCons (tC (.str "here")) tNil))) tNil))) (tCB (zLen K) (tCons (yVar 8) tNil))))) (tRet (tC (.bl false))) tNext)
    (yIf (yOr (yNot (yTst (yCall (sp_hand_right K) E0 (tCons (yVar 3) tNil)))) (yNot (yTst (yCall (sp_places_right K) E0 (tCons (yVar 3) (tCons (yVar 7) (tCons (yVar 12) tNil))))))) (tRet (tC (.bl false))) tNext))))))))))))
def t_l4 (K:Kf) (E:XK):TS:=
 (tSeq (yIf (yTst (tOp (zNeD K) (tLst (tCons (yFld (isC K ["Saying"]) (yVar 7) "text") (tCons (yFld (isC K ["Saying"]) (yVar 7) "tracks") (tCons (yFld (isC K ["Saying"]) (yVar 7) "has_here") tNil)))) (tLst (tCons (yVar 6) (tCons (tCB (zTuple K) (tCons (yVar 3) tNil)) (tCons (tOp (zIn K false) (tC (.str "here")) (yVar 8)) tNil)))))) (tRet (tC (.bl false))) tNext)
    (tSeq (yFor (jRng (tC (.int 6))) (gName 9) (tSeq (tAsg (yCall (sp_new_sheet K) E0 (tCons (yVar 1) (tCons (yVar 3) (tCons (tOp zAdd (tC (.int 1)) (yCall (sp_draw K) E0 (tCons (yVar 1) (tCons (tC (.int 9)) tNil)))) tNil)))) (gName 11))
    (tSeq (yPar 12 13 (tCons (yNew (He.ga K "Sheet") (sp_Sheet_init K) W0 (tCons (yCall (sp_sheet_text K) E0 (tCons (yVar 11) tNil)) tNil)) (tCons (yCall (sp_drawn_place K) E0 (tCons (yVar 1) (tCons (yVar 11) tNil))) tNil)))
    (yIf (yTst (tOp zNe (tCB zRepr (tCons (yMeth (He.ga K "Saying") "holds" (sp_Saying_holds K) W0 (yVar 7) (tCons (yVar 12) (tCons (yVar 13) tNil))) tNil)) (tCB zRepr (tCons (yCall (sp_says 24 K) E0 (tCons (yVar 11) (tCons (yVar 5) (tCons (tDisp (((tC (.str "here")),(tOp (zIxL K) (yVar 13) (tC (.int 1))))::[])) tNil)))) tNil)))) (tRet (tC (.bl false))) tNext))))
    (tSeq (tAsg (yCall (sp_draw K) E0 (tCons (yVar 1) (tCons (tCB (zLen K) (tCons (yVar 8) tNil)) tNil))) (gName 10))
    (tSeq (yIf (yTst (tOp zNe (yCall (sp_bad K) E0 (tCons (yVar 3) (tCons (tOp zCatL (tOp zCatL (tSl (zSlL K) (yVar 8) tNoPart (tPart (yVar 10))) (tLst (tCons (tC (.str "A")) tNil))) (tSl (zSlL K) (yVar 8) (tPart (tOp zAdd (yVar 10) (tC (.int 1)))) tNoPart)) tNil))) (yVar 10))) (tRet (tC (.bl false))) tNext)
    (tSeq (yIf (yTst (tOp (zNeD K) (yLc (jRng (tOp zAdd (tCB (zLen K) (tCons (yVar 8) tNil)) (tC (.int 1)))) (gName 14) (yTst (tOp zNe (yCall (sp_bad K) E0 (tCons (yVar 3) (tCons (tOp zCatL (tOp zCatL (tSl (zSlL K) (yVar 8) tNoPart (tPart (yVar 14))) (tLst (tCons (tC (.str "")) tNil))) (tSl (zSlL K) (yVar 8) (tPart (yVar 14)) tNoPart)) tNil))) (yVar 14))) (yVar 14) [14]) (tLst tNil))) (tRet (tC (.bl false))) tNext)
    (tSeq (yIf (yNot (yTst (yCall (sp_ranks_right K) E0 (tCons (yVar 3) (tCons (yVar 12) (tCons (yVar 13) (tCons (tOp zEq (tOp (zIxL K) (tOp (zIxL K) (yDGet (yVar 11) (tC (.str "cols"))) (tOp (zIxL K) (yVar 13) (tC (.int 1)))) (tC (.int 0))) (tC (.int 1))) tNil))))))) (tRet (tC (.bl false))) tNext)
    (tSeq (yIf (yOr (yTst (tOp zNe (yCall (sp_bad K) E0 (tCons (yVar 3) (tCons (tSl (zSlL K) (yVar 8) tNoPart (tPart (tUn zNeg (tC (.int 1))))) tNil))) (tOp zSub (tCB (zLen K) (tCons (yVar 8) tNil)) (tC (.int 1))))) (yTst (tOp zNe (yCall (sp_bad K) E0 (tCons (yVar 3) (tCons (tOp zCatL (yVar 8) (tLst (tCons (tC (.str "here")) tNil))) tNil))) (tCB (zLen K) (tCons (yVar 8) tNil))))) (tRet (tC (.bl false))) tNext)
    (yIf (yOr (yNot (yTst (yCall (sp_hand_right K) E0 (tCons (yVar 3) tNil)))) (yNot (yTst (yCall (sp_places_right K) E0 (tCons (yVar 3) (tCons (yVar 7) (tCons (yVar 12) tNil))))))) (tRet (tC (.bl false))) tNext))))))))
def t_l5 (K:Kf) (E:XK):TS:=
 (tSeq (yFor (jRng (tC (.int 6))) (gName 9) (tSeq (tAsg (yCall (sp_new_sheet K) E0 (tCons (yVar 1) (tCons (yVar 3) (tCons (tOp zAdd (tC (.int 1)) (yCall (sp_draw K) E0 (tCons (yVar 1) (tCons (tC (.int 9)) tNil)))) tNil)))) (gName 11))
    (tSeq (yPar 12 13 (tCons (yNew (He.ga K "Sheet") (sp_Sheet_init K) W0 (tCons (yCall (sp_sheet_text K) E0 (tCons (yVar 11) tNil)) tNil)) (tCons (yCall (sp_drawn_place K) E0 (tCons (yVar 1) (tCons (yVar 11) tNil))) tNil)))
    (yIf (yTst (tOp zNe (tCB zRepr (tCons (yMeth (He.ga K "Saying") "holds" (sp_Saying_holds K) W0 (yVar 7) (tCons (yVar 12) (tCons (yVar 13) tNil))) tNil)) (tCB zRepr (tCons (yCall (sp_says 24 K) E0 (tCons (yVar 11) (tCons (yVar 5) (tCons (tDisp (((tC (.str "here")),(tOp (zIxL K) (yVar 13) (tC (.int 1))))::[])) tNil)))) tNil)))) (tRet (tC (.bl false))) tNext))))
    (tSeq (tAsg (yCall (sp_draw K) E0 (tCons (yVar 1) (tCons (tCB (zLen K) (tCons (yVar 8) tNil)) tNil))) (gName 10))
    (tSeq (yIf (yTst (tOp zNe (yCall (sp_bad K) E0 (tCons (yVar 3) (tCons (tOp zCatL (tOp zCatL (tSl (zSlL K) (yVar 8) tNoPart (tPart (yVar 10))) (tLst (tCons (tC (.str "A")) tNil))) (tSl (zSlL K) (yVar 8) (tPart (tOp zAdd (yVar 10) (tC (.int 1)))) tNoPart)) tNil))) (yVar 10))) (tRet (tC (.bl false))) tNext)
    (tSeq (yIf (yTst (tOp (zNeD K) (yLc (jRng (tOp zAdd (tCB (zLen K) (tCons (yVar 8) tNil)) (tC (.int 1)))) (gName 14) (yTst (tOp zNe (yCall (sp_bad K) E0 (tCons (yVar 3) (tCons (tOp zCatL (tOp zCatL (tSl (zSlL K) (yVar 8) tNoPart (tPart (yVar 14))) (tLst (tCons (tC (.str "")) tNil))) (tSl (zSlL K) (yVar 8) (tPart (yVar 14)) tNoPart)) tNil))) (yVar 14))) (yVar 14) [14]) (tLst tNil))) (tRet (tC (.bl false))) tNext)
    (tSeq (yIf (yNot (yTst (yCall (sp_ranks_right K) E0 (tCons (yVar 3) (tCons (yVar 12) (tCons (yVar 13) (tCons (tOp zEq (tOp (zIxL K) (tOp (zIxL K) (yDGet (yVar 11) (tC (.str "cols"))) (tOp (zIxL K) (yVar 13) (tC (.int 1)))) (tC (.int 0))) (tC (.int 1))) tNil))))))) (tRet (tC (.bl false))) tNext)
    (tSeq (yIf (yOr (yTst (tOp zNe (yCall (sp_bad K) E0 (tCons (yVar 3) (tCons (tSl (zSlL K) (yVar 8) tNoPart (tPart (tUn zNeg (tC (.int 1))))) tNil))) (tOp zSub (tCB (zLen K) (tCons (yVar 8) tNil)) (tC (.int 1))))) (yTst (tOp zNe (yCall (sp_bad K) E0 (tCons (yVar 3) (tCons (tOp zCatL (yVar 8) (tLst (tCons (tC (.str "here")) tNil))) tNil))) (tCB (zLen K) (tCons (yVar 8) tNil))))) (tRet (tC (.bl false))) tNext)
    (yIf (yOr (yNot (yTst (yCall (sp_hand_right K) E0 (tCons (yVar 3) tNil)))) (yNot (yTst (yCall (sp_places_right K) E0 (tCons (yVar 3) (tCons (yVar 7) (tCons (yVar 12) tNil))))))) (tRet (tC (.bl false))) tNext)))))))
theorem turnA {D:Ends} {s p c:Addr} {n i:Nat} {x3 x4 x5 x6 x7 x8 x9 x10 x11 x12 x13 x14:Option V} (F:FS K) (P:PenAt H p c n) (T:LamX.Tabs (TB K) H) (hn:n+2000<1152921504606846976)
 (q:∀(tl tld sg:Addr) (y4 sv:V) (ys:List Str) (t:STree) (H':Hp),LPx ys t→LT K H' p c tl tld sg sv (n+200) ys t→t_l4 K E D [some (.ref s),some (.ref p),some (.int (i:Nat)),some (.ref tl),some y4,some sv,some (.str (sTxt t)),some (.ref tld),some (.ref sg),x9,x10,x11,x12,x13,x14] H'):
 t_turn K E D [some (.ref s),some (.ref p),some (.int (i:Nat)),x3,x4,x5,x6,x7,x8,x9,x10,x11,x12,x13,x14] H:=by
 refine⟨p,c,n,3,rfl,by decide,by decide,P,by omega,fun ys tl H1 nd nm y1 y3 k1 g1 P1=> ?_⟩
 refine⟨(show 1≤sizeLine by decide),fun L0 n0=> ?_⟩
 have e0:=Ext.new (o:= .lst [.str "here"]) n0
 have h0:(upd H1 L0 (.lst [.str "here"])) L0=some (.lst [.str "here"]):=upd_same
 generalize upd H1 L0 (.lst [.str "here"])=H2 at e0 h0⊢
 refine⟨p,c,n+13,3,rfl,P1.ext e0,by omega,by decide,by decide,fun r H3 r0 r1 k3 P3=> ?_⟩
 obtain⟨wls,hw,w1,wh⟩:∃wls:List Str,(List.replicate (if decide (r>0) then(1:Int) else 0).toNat [V.str "here"]).flatten=wls.map V.str∧wls.length≤1∧∀x∈wls,x= "here":=by
  by_cases h:r>0
  ·rw[decide_eq_true h]
   exact⟨["here"],rfl,z34 _,fun x hx=>by simpa using hx⟩
  ·rw[decide_eq_false h]
   exact⟨[],rfl,z35 _,fun x hx=>by cases hx⟩
 have kb:(if decide (r>0) then(1:Int) else 0)=0∨(if decide (r>0) then(1:Int) else 0)=1:=by split<;>simp
 refine⟨_,k3.lst h0,?_,?_,?_,fun wl nwl=> ?_⟩
 ·rcases kb with z|z<;>rw[z]<;>decide
 ·rcases kb with z|z<;>rw[z]<;>decide
 ·rcases kb with z|z<;>rw[z]<;>decide
 have ew:=Ext.new (o:= .lst (wls.map V.str)) nwl
 rw[hw]
 have gw:(upd H3 wl (.lst (wls.map V.str))) wl=some (.lst (wls.map V.str)):=upd_same
 have T4:=(tabs_kp ((tabs_kp T k1).ext e0) k3).ext ew
 have g4:=ew _ _ (k3.lst (e0 _ _ g1))
 have P4:=P3.ext ew
 generalize upd H3 wl (.lst (wls.map V.str))=H4 at gw T4 g4 P4⊢
 refine⟨(show 2≤sizeLine by decide),fun o1 no1=>⟨o1,_,rfl,SqT.of upd_same,rfl,_,_,rfl,_,_,rfl,rfl,?_⟩⟩
 have eo:=Ext.new (o:= .tup [.ref tl,.ref wl]) no1
 replace gw:=eo _ _ gw
 replace T4:=T4.ext eo
 replace g4:=eo _ _ g4
 replace P4:=P4.ext eo
 generalize upd H4 o1 (.tup [.ref tl,.ref wl])=H4 at gw T4 g4 P4⊢
 refine⟨p,c,_,4,rfl,P4,by omega,by decide,by decide,fun r2 H5 r20 r21 k5 P5=> ?_⟩
 obtain⟨ri,rfl⟩:=Int.eq_ofNat_of_zero_le r20
 have tk:Trk ys:=⟨y1,y3,nd,fun y hy=>names_nm y (nm y hy)⟩
 refine⟨p,c,tl,wl,_,1+ri,3,ys,wls,rfl,P5,by omega,k5.lst g4,k5.lst gw,(fun z=>by rw[z] at y1;exact absurd y1 (by decide)),y3,w1,wh,fun z=>by omega,by omega,by decide,by decide,z34 _,fun sv t H6 hs sy k6 P6=> ?_⟩
 have L:LPx ys t:=⟨tk,nm,sy.rd,sy.dep,say_read tk.nm sy.rd (Nat.le_trans sy.fu (by decide)) (Nat.le_trans sy.op (by decide)) (Nat.le_trans sy.parts (by unfold PP;split<;>omega)) sy.bl⟩
 refine⟨sv,t,ys,["here"],rfl,hs,Rd_wf (bd:=none) sy.rd,Nat.le_trans sy.dep (by decide),Nat.le_trans L.txt (by decide),fun H7 e7=> ?_⟩
 have g7:=e7 _ _ (k6.lst (k5.lst g4))
 have P7:=P6.ext e7
 have T7:=(tabs_kp (tabs_kp T4 k5) k6).ext e7
 have hs7:=hs.ext e7
 have fin:∀(G:Hp) (x sg:Addr),Ext H7 G→∀u,sayOf ys (sTxt t)= .inr u→SayAt K G x ys (sTxt t) u (decide (("here":Str)∈sayWs (sTxt t)))→G sg=some (.lst ((Txt.split (sTxt t) " ").map V.str))→
  t_l4 K E D [some (.ref s),some (.ref p),some (.int (i:Nat)),some (.ref tl),some (.ref wl),some sv,some (.str (sTxt t)),some (.ref x),some (.ref sg),x9,x10,x11,x12,x13,x14] G:=by
  intro G x sg e9 u hu S9 hsg
  rw[L.read] at hu
  injection hu with hu
  subst hu
  rw[say_words tk.nm sy.rd] at S9
  exact q tl x sg (.ref wl) sv ys t _ L ⟨(P7.ext e9).mono (by omega),T7.ext e9,e9 _ _ g7,hs7.ext e9,S9,by rw[hsg,L.split]⟩
 refine brD (fun _=> ?_) fun _=> ?_
 ·refine⟨_,.inl ⟨SqL.of g7,fun l nl=> ?_⟩⟩
  have el:=Ext.new (o:= .tup (ys.map V.str)) nl
  have hl:SeqO (upd H7 l (.tup (ys.map V.str))) l (ys.map V.str):= .inr upd_same
  generalize upd H7 l (.tup (ys.map V.str))=H8 at el hl⊢
  intro x dx nx nd hne
  have e0:Ext H8 (upd (upd H8 dx (.own x)) x (.ins (He.ga K "Saying") dx [])):=(Ext.new nd).mut nx
  refine⟨H8,x,dx,l,ys,sTxt t,rfl,upd_same,e0,nx,hl.ext e0,(fun y hy=>by have:=tk.short y hy;omega),by have:=L.txt;omega,F.mc,fun i hi=>(by rw[trk_right tk] at hi;cases hi),fun _ n hz=>(by rw[L.read] at hz;cases hz),fun _ u hu H9 e9 S9=>⟨rfl,tyS,(by decide+kernel),by have:=L.txt;rw[sizeLine_eq];omega,fun sg nsg=> ?_⟩⟩
  have es:=Ext.new (o:= .lst ((Txt.split (sTxt t) " ").map V.str)) nsg
  refine⟨(show 2≤sizeLine by decide),fun o2 no2=>⟨o2,_,rfl,SqT.of upd_same,rfl,_,_,rfl,_,_,rfl,rfl,?_⟩⟩
  have eo:=Ext.new (o:= .tup [.ref x,.ref sg]) no2
  exact fin _ x sg (((el.trans e9).trans es).trans eo) u hu ((S9.ext es).ext eo) (eo _ _ upd_same)
 ·refine⟨_,.inl (SqL.of g7),fun l nl=> ?_⟩
  have el:=Ext.new (o:= .lst (ys.map V.str)) nl
  have hl:SeqO (upd H7 l (.lst (ys.map V.str))) l (ys.map V.str):= .inl upd_same
  generalize upd H7 l (.lst (ys.map V.str))=H8 at el hl⊢
  intro x dx nx nd hne
  have e0:Ext H8 (upd (upd H8 dx (.own x)) x (.ins (He.ga K "Saying") dx [])):=(Ext.new nd).mut nx
  refine⟨H8,x,dx,l,ys,sTxt t,rfl,upd_same,e0,nx,hl.ext e0,(fun y hy=>by have:=tk.short y hy;omega),by have:=L.txt;omega,F.mc,fun i hi=>(by rw[trk_right tk] at hi;cases hi),fun _ n hz=>(by rw[L.read] at hz;cases hz),fun _ u hu H9 e9 S9=>⟨rfl,tyS,(by decide+kernel),by have:=L.txt;rw[sizeLine_eq];omega,fun sg nsg=> ?_⟩⟩
  have es:=Ext.new (o:= .lst ((Txt.split (sTxt t) " ").map V.str)) nsg
  refine⟨(show 2≤sizeLine by decide),fun o2 no2=>⟨o2,_,rfl,SqT.of upd_same,rfl,_,_,rfl,_,_,rfl,rfl,?_⟩⟩
  have eo:=Ext.new (o:= .tup [.ref x,.ref sg]) no2
  exact fin _ x sg (((el.trans e9).trans es).trans eo) u hu ((S9.ext es).ext eo) (eo _ _ upd_same)
theorem turnB {D:Ends} {s p c tl tld sg:Addr} {sv x2 y4:V} {n:Nat} {ys:List Str} {t:STree} {x9 x10 x11 x12 x13 x14:Option V} (L:LPx ys t) (S:LT K H p c tl tld sg sv n ys t)
 (q:∀H',LT K H' p c tl tld sg sv n ys t→t_l5 K E D [some (.ref s),some (.ref p),some x2,some (.ref tl),some y4,some sv,some (.str (sTxt t)),some (.ref tld),some (.ref sg),x9,x10,x11,x12,x13,x14] H'):
 t_l4 K E D [some (.ref s),some (.ref p),some x2,some (.ref tl),some y4,some sv,some (.str (sTxt t)),some (.ref tld),some (.ref sg),x9,x10,x11,x12,x13,x14] H:=by
 obtain⟨dx,t2,v,g1,g2,g3⟩:=S.sd.ex
 refine⟨_,dx,_,_,g1,rfl,rfl,_,dx,_,_,g1,rfl,rfl,_,dx,_,_,g1,rfl,rfl,(show 3≤sizeLine by decide),fun L1 n1=> ?_⟩
 have e1:=Ext.new (o:= .lst [.str (sTxt t),.ref t2,.bl (decide (("here":Str)∈swT t))]) n1
 have h1:(upd H L1 (.lst [.str (sTxt t),.ref t2,.bl (decide (("here":Str)∈swT t))])) L1=some (.lst [.str (sTxt t),.ref t2,.bl (decide (("here":Str)∈swT t))]):=upd_same
 generalize upd H L1 (.lst [.str (sTxt t),.ref t2,.bl (decide (("here":Str)∈swT t))])=H1 at e1 h1⊢
 refine⟨_,.inl ⟨SqL.of (e1 _ _ S.trk),fun T nT=> ?_⟩⟩
 have e2:=Ext.new (o:= .tup (ys.map V.str)) nT
 have h2:(upd H1 T (.tup (ys.map V.str))) T=some (.tup (ys.map V.str)):=upd_same
 generalize upd H1 T (.tup (ys.map V.str))=H2 at e2 h2⊢
 refine⟨_,.inl (SqL.of (e2 _ _ (e1 _ _ S.sg))),rfl,flat_strs,?_⟩
 simp only[Bool.false_eq_true,if_false]
 rw[inV_str]
 refine⟨(show 3≤sizeLine by decide),fun L2 n2=> ?_⟩
 have e3:=Ext.new (o:= .lst [.str (sTxt t),.ref T,.bl (decide (("here":Str)∈swT t))]) n2
 have h3:(upd H2 L2 (.lst [.str (sTxt t),.ref T,.bl (decide (("here":Str)∈swT t))])) L2=some (.lst [.str (sTxt t),.ref T,.bl (decide (("here":Str)∈swT t))]):=upd_same
 generalize upd H2 L2 (.lst [.str (sTxt t),.ref T,.bl (decide (("here":Str)∈swT t))])=H3 at e3 h3⊢
 have e13:=(e1.trans e2).trans e3
 have a2:=e13 _ _ g2
 have a1:=e3 _ _ (e2 _ _ h1)
 have aT:=e3 _ _ h2
 have cl:PyData.canLay0 (.tuple ((ys.map V.str).map dataV))=true∧PyData.depth (.tuple ((ys.map V.str).map dataV))≤3:=by
  refine⟨lay_flat (strs_okV L.tk.lay),?_⟩
  show PyData.depthAll ((ys.map V.str).map dataV)+1≤3
  rw[depth_flat]
  decide
 have sh:SeqAt.shaped (.list [.str (sTxt t),.tuple ((ys.map V.str).map dataV),.bool (decide (("here":Str)∈swT t))])=true:=list_shaped fun d hd=>by
  simp only[List.mem_cons,z13,or_false] at hd
  rcases hd with rfl|rfl|rfl
  ·exact⟨L.okT,(show(0:Nat)≤3 by decide)⟩
  ·exact cl
  ·exact⟨rfl,(show(0:Nat)≤3 by decide)⟩
 have eq:PyData.eqv (.list [.str (sTxt t),.tuple ((ys.map V.str).map dataV),.bool (decide (("here":Str)∈swT t))]) (.list [.str (sTxt t),.tuple ((ys.map V.str).map dataV),.bool (decide (("here":Str)∈swT t))])=true:=list_eqv fun d hd=>by
  simp only[List.mem_cons,z13,or_false] at hd
  rcases hd with rfl|rfl|rfl
  ·simp[PyData.eqv]
  ·rw[eqvTs]
   exact decide_eq_true rfl
  ·simp[PyData.eqv]
 refine⟨_,_,.lst (SqL.of a1) (.cons (.str _) (.cons (.tup (SqT.of a2) (dpAll_flat strs_flat)) (.cons (.bl _) .nil))),.lst (SqL.of h3) (.cons (.str _) (.cons (.tup (SqT.of aT) (dpAll_flat strs_flat)) (.cons (.bl _) .nil))),sh,sh,brF (by rw[eq];rfl) ?_⟩
 exact q _ (S.ext e13)
end
structure LG (K:Kf) (H:Hp) (d a pl:Addr) (ys:List Str) (cols:List (List Int)) (tr:Str) (k:Nat):Prop where
 pln:SheetC H d ys cols
 ok:ColOk ys.length cols
 c1:1≤cols.length
 c9:cols.length≤9
 made:SheetAt K H a ys (rowsOf cols ys.length)
 at_:H pl=some (.tup [.str tr,.int (k:Nat)])
 tr:tr∈ys
 k:k<cols.length
section
variable {K:Kf} {H H':Hp} {d a pl:Addr} {ys:List Str} {cols:List (List Int)} {tr:Str} {k:Nat}
theorem LG.ext (h:LG K H d a pl ys cols tr k) (e:Ext H H'):LG K H' d a pl ys cols tr k:=⟨h.pln.ext e,h.ok,h.c1,h.c9,h.made.ext e,e _ _ h.at_,h.tr,h.k⟩
theorem LG.kp (h:LG K H d a pl ys cols tr k) (tk:Trk ys) (e:Kp H H'):LG K H' d a pl ys cols tr k:=⟨h.pln.kp e,h.ok,h.c1,h.c9,h.made.kp e tk.nd (by simp[rowsOf]) tk.nm,e.tup h.at_,h.tr,h.k⟩
theorem LG.sh (h:LG K H d a pl ys cols tr k) (tk:Trk ys):ShOk ys (rowsOf cols ys.length) cols.length:=shOk_plain tk.nd tk.nm tk.n1 tk.n3 h.c1 (Nat.le_trans h.c9 (by decide))
end
section
variable {K:Kf} {vs:List V} {H:Hp} {Q:VK} {E:XK}
def t_ag (K:Kf) (E:XK):TS:=
 (tSeq (tAsg (yCall (sp_new_sheet K) E0 (tCons (yVar 1) (tCons (yVar 3) (tCons (tOp zAdd (tC (.int 1)) (yCall (sp_draw K) E0 (tCons (yVar 1) (tCons (tC (.int 9)) tNil)))) tNil)))) (gName 11))
    (tSeq (yPar 12 13 (tCons (yNew (He.ga K "Sheet") (sp_Sheet_init K) W0 (tCons (yCall (sp_sheet_text K) E0 (tCons (yVar 11) tNil)) tNil)) (tCons (yCall (sp_drawn_place K) E0 (tCons (yVar 1) (tCons (yVar 11) tNil))) tNil)))
    (yIf (yTst (tOp zNe (tCB zRepr (tCons (yMeth (He.ga K "Saying") "holds" (sp_Saying_holds K) W0 (yVar 7) (tCons (yVar 12) (tCons (yVar 13) tNil))) tNil)) (tCB zRepr (tCons (yCall (sp_says 24 K) E0 (tCons (yVar 11) (tCons (yVar 5) (tCons (tDisp (((tC (.str "here")),(tOp (zIxL K) (yVar 13) (tC (.int 1))))::[])) tNil)))) tNil)))) (tRet (tC (.bl false))) tNext)))
def t_l6 (K:Kf) (E:XK):TS:=
 (tSeq (tAsg (yCall (sp_draw K) E0 (tCons (yVar 1) (tCons (tCB (zLen K) (tCons (yVar 8) tNil)) tNil))) (gName 10))
    (tSeq (yIf (yTst (tOp zNe (yCall (sp_bad K) E0 (tCons (yVar 3) (tCons (tOp zCatL (tOp zCatL (tSl (zSlL K) (yVar 8) tNoPart (tPart (yVar 10))) (tLst (tCons (tC (.str "A")) tNil))) (tSl (zSlL K) (yVar 8) (tPart (tOp zAdd (yVar 10) (tC (.int 1)))) tNoPart)) tNil))) (yVar 10))) (tRet (tC (.bl false))) tNext)
    (tSeq (yIf (yTst (tOp (zNeD K) (yLc (jRng (tOp zAdd (tCB (zLen K) (tCons (yVar 8) tNil)) (tC (.int 1)))) (gName 14) (yTst (tOp zNe (yCall (sp_bad K) E0 (tCons (yVar 3) (tCons (tOp zCatL (tOp zCatL (tSl (zSlL K) (yVar 8) tNoPart (tPart (yVar 14))) (tLst (tCons (tC (.str "")) tNil))) (tSl (zSlL K) (yVar 8) (tPart (yVar 14)) tNoPart)) tNil))) (yVar 14))) (yVar 14) [14]) (tLst tNil))) (tRet (tC (.bl false))) tNext)
    (tSeq (yIf (yNot (yTst (yCall (sp_ranks_right K) E0 (tCons (yVar 3) (tCons (yVar 12) (tCons (yVar 13) (tCons (tOp zEq (tOp (zIxL K) (tOp (zIxL K) (yDGet (yVar 11) (tC (.str "cols"))) (tOp (zIxL K) (yVar 13) (tC (.int 1)))) (tC (.int 0))) (tC (.int 1))) tNil))))))) (tRet (tC (.bl false))) tNext)
    (tSeq (yIf (yOr (yTst (tOp zNe (yCall (sp_bad K) E0 (tCons (yVar 3) (tCons (tSl (zSlL K) (yVar 8) tNoPart (tPart (tUn zNeg (tC (.int 1))))) tNil))) (tOp zSub (tCB (zLen K) (tCons (yVar 8) tNil)) (tC (.int 1))))) (yTst (tOp zNe (yCall (sp_bad K) E0 (tCons (yVar 3) (tCons (tOp zCatL (yVar 8) (tLst (tCons (tC (.str "here")) tNil))) tNil))) (tCB (zLen K) (tCons (yVar 8) tNil))))) (tRet (tC (.bl false))) tNext)
    (yIf (yOr (yNot (yTst (yCall (sp_hand_right K) E0 (tCons (yVar 3) tNil)))) (yNot (yTst (yCall (sp_places_right K) E0 (tCons (yVar 3) (tCons (yVar 7) (tCons (yVar 12) tNil))))))) (tRet (tC (.bl false))) tNext))))))
theorem againK {D:Ends} {s p c tl tld sg:Addr} {sv x2 y4:V} {n:Nat} {ys:List Str} {t:STree} {x9 x10 x11 x12 x13 x14:Option V} (F:FS K) (L:LPx ys t) (S:LT K H p c tl tld sg sv n ys t) (hn:n+20000<1152921504606846976)
 (q:∀d a pl cols tr k H',LT K H' p c tl tld sg sv (n+50) ys t→LG K H' d a pl ys cols tr k→D.nx [some (.ref s),some (.ref p),some x2,some (.ref tl),some y4,some sv,some (.str (sTxt t)),some (.ref tld),some (.ref sg),x9,x10,some (.ref d),some (.ref a),some (.ref pl),x14] H'):
 t_ag K E D [some (.ref s),some (.ref p),some x2,some (.ref tl),some y4,some sv,some (.str (sTxt t)),some (.ref tld),some (.ref sg),x9,x10,x11,x12,x13,x14] H:=by
 have tk:=L.tk
 have y1:=tk.n1
 have y3:=tk.n3
 refine⟨p,c,n,9,rfl,S.pen,by omega,by decide,by decide,fun r H1 r0 r1 k1 P1=> ?_⟩
 obtain⟨ri,rfl⟩:=Int.eq_ofNat_of_zero_le r0
 refine⟨p,c,tl,_,1+ri,ys,rfl,P1,by omega,k1.lst S.trk,y3,by omega,fun d H2 k2 nd hD P2=> ?_⟩
 obtain⟨cols,hC,hcl,hok⟩:=hD.strong
 have S2:=(S.kp k1 P1).kp k2 P2
 refine⟨d,ys,cols,rfl,hC.v,hok,tk.short,y3,by omega,fun H3 e3=> ?_⟩
 have sh:ShOk ys (rowsOf cols ys.length) cols.length:=shOk_plain tk.nd tk.nm y1 y3 (by omega) (by omega)
 refine make_sheet F sh (by omega) fun a H4 e4 na hA=> ?_
 have S4:=(S2.ext e3).ext e4
 refine⟨p,c,d,_,ys,cols,rfl,S4.pen,by omega,(hC.ext e3).ext e4,y1,y3,by omega,by omega,fun tr k pl H5 htr hk k5 hpl P5=> ?_⟩
 have S5:=S4.kp k5 P5
 have G5:LG K H5 d a pl ys cols tr k:=⟨((hC.ext e3).ext e4).kp k5,hok,by omega,by omega,hA.kp k5 tk.nd (by simp[rowsOf]) tk.nm,hpl,htr,hk⟩
 obtain⟨dx,t2,v,g1,g2,g3⟩:=S5.sd.ex
 refine⟨dx,_,g1,rfl,tld,a,pl,ys,ys,sTxt t,t,_,rowsOf cols ys.length,cols.length,tr,(k:Nat),rfl,tk,S5.sd,sayOf_ok L.read,G5.made,tk.lay,fun _=>sh.j,by omega,SqT.of hpl,(by have:=tk.short tr htr;omega),fun z=>absurd rfl z,fun _ z=>absurd htr z,fun _ _ z=>absurd ⟨by omega,by omega⟩ z,fun _ _ _ _ H6 e6=> ?_⟩
 have S6:=S5.ext e6
 have G6:=G5.ext e6
 dsimp only[tNil,tCons,tCB,yCall]
 refine repr_bl ?_
 refine fun e ne=> ?_
 have e0:Ext H6 (upd H6 e (.dK [])):=Ext.new ne
 refine⟨_,_,.inr ((SqT.of G6.at_).ext e0),at1,upd_same,[(Sum.inr "here",.int ((k:Nat):Int))],rfl,(show 1≤15 by decide),?_⟩
 rw[upd_upd]
 have e1:Ext H6 (upd H6 e (.dK (mergeK [] [(Sum.inr "here",V.int ((k:Nat):Int))]))):=Ext.new ne
 have he:(upd H6 e (.dK (mergeK [] [(Sum.inr "here",V.int ((k:Nat):Int))]))) e=some (.dK [(Sum.inr "here",V.int ((k:Nat):Int))]):=upd_same
 generalize upd H6 e (.dK (mergeK [] [(Sum.inr "here",V.int ((k:Nat):Int))]))=H7 at e1 he⊢
 have S7:=S6.ext e1
 have G7:=G6.ext e1
 refine⟨d,e,sv,t,ys,["here"],cols,_,fun _=>k,rfl,S7.say,G7.pln.v,hok,by omega,Rd_WL (bd:=none) (fun x hx=>hx) L.rd,he,⟨by simp,fun x hx=> ?_⟩,Nat.le_trans L.dep (by decide),by show 1+24≤100;decide,fun H8 e8=> ?_⟩
 ·have hx:=z32.mp hx
  subst hx
  exact⟨valV_pos rfl,hk⟩
 refine repr_bl (zNe_same (brF rfl ?_))
 have S8:=S7.ext e8
 exact q d a pl cols tr k H8 ⟨S8.pen.mono (by omega),S8.tab,S8.trk,S8.say,S8.sd,S8.sg⟩ (G7.ext e8)
theorem loop {D:Ends} {s p c tl tld sg:Addr} {sv x2 y4:V} {n:Nat} {ys:List Str} {t:STree} {x9 x10 x11 x12 x13 x14:Option V} (F:FS K) (L:LPx ys t) (S:LT K H p c tl tld sg sv n ys t) (hn:n+30000<1152921504606846976)
 (q:∀y9 d a pl cols tr k H',LT K H' p c tl tld sg sv (n+300) ys t→LG K H' d a pl ys cols tr k→t_l6 K E D [some (.ref s),some (.ref p),some x2,some (.ref tl),some y4,some sv,some (.str (sTxt t)),some (.ref tld),some (.ref sg),y9,x10,some (.ref d),some (.ref a),some (.ref pl),x14] H'):
 t_l5 K E D [some (.ref s),some (.ref p),some x2,some (.ref tl),some y4,some sv,some (.str (sTxt t)),some (.ref tld),some (.ref sg),x9,x10,x11,x12,x13,x14] H:=by
 refine⟨by decide,by decide,fun i σ G=>∃y9 y11 y12 y13,σ= [some (.ref s),some (.ref p),some x2,some (.ref tl),some y4,some sv,some (.str (sTxt t)),some (.ref tld),some (.ref sg),y9,x10,y11,y12,y13,x14]∧LT K G p c tl tld sg sv (n+50*i) ys t∧
  (0<i→∃d a pl cols tr k,y11=some (.ref d)∧y12=some (.ref a)∧y13=some (.ref pl)∧LG K G d a pl ys cols tr k),⟨_,_,_,_,rfl,S,fun z=>absurd z (by decide)⟩,fun _ _ _ _ _=>trivial,?_,?_⟩
 ·rintro i x σ G G' hi ⟨y9,y11,y12,y13,rfl,SG,_⟩ ⟨rfl,rfl⟩
  have hi:i<6:=hi
  refine againK (K:=K) (E:=E) F L SG (by omega) fun d a pl cols tr k H' S' G'=> ?_
  exact⟨_,_,_,_,rfl,S',fun _=>⟨d,a,pl,cols,tr,k,rfl,rfl,rfl,G'⟩⟩
 ·rintro σ G ⟨y9,y11,y12,y13,rfl,SG,hG⟩
  obtain⟨d,a,pl,cols,tr,k,rfl,rfl,rfl,G'⟩:=hG (by decide)
  exact q _ d a pl cols tr k G SG G'
end
theorem cutV_drop1 {xs:List V} {v:V}:cutV (xs++ [v]) none (some (-1))=xs:=by
 unfold cutV
 rw[HT.sIx_none]
 have e:HT.sIx (xs++ [v]).length (xs++ [v]).length (some (-1))=xs.length:=by
  unfold HT.sIx
  simp
  omega
 rw[e]
 simp
theorem cut_takeS {ws:List Str} {a:Nat} (ha:a≤ws.length):cutV (ws.map V.str) none (some (a:Int))=(ws.take a).map V.str:=by
 unfold cutV
 rw[HT.sIx_none,HT.sIx_nat,z8,List.drop_zero,Nat.sub_zero,Nat.min_eq_left ha,List.map_take]
theorem cut_dropS {ws:List Str} {a:Nat} (ha:a≤ws.length):cutV (ws.map V.str) (some (a:Int)) none=(ws.drop a).map V.str:=by
 unfold cutV
 rw[HT.sIx_none,HT.sIx_nat,z8,Nat.min_eq_left ha,←List.map_drop,List.take_of_length_le (by simp)]
theorem cut_lastS {ws:List Str} (h:ws≠ []):cutV (ws.map V.str) none (some (-1))=(ws.take (ws.length-1)).map V.str:=by
 rw[←List.dropLast_eq_take]
 have e:=List.dropLast_concat_getLast h
 conv=>lhs;rw[←e]
 rw[z16,List.map_singleton]
 exact cutV_drop1
section
variable {K:Kf} {H0 H:Hp} {σ:L2.St} {te tb tn:TE} {ws us:List Str} {j a:Nat} {sg:Addr}
theorem mw_takeV (h8:σ[8]?=some (some (.ref sg))) (hs:H0 sg=some (.lst (ws.map V.str))) (hj:σ[j]?=some (some (.int (a:Nat)))) (ha:a≤ws.length):Mkw H0 σ (tSl (zSlL K) (yVar 8) tNoPart (tPart (yVar j))) (WP (ws.take a)):=fun H Q e q=>by
 dsimp only[tSl,tNoPart,tPart]
 exact yVar_at (v:= .ref sg) h8 (yVar_at (v:= .int (a:Nat)) hj ⟨_,rfl,_,SqL.of (e _ _ hs),fun p np=>q _ _ (Ext.new np) ⟨p,rfl,by rw[upd_same,cut_takeS ha]⟩⟩)
theorem mw_dropV (h8:σ[8]?=some (some (.ref sg))) (hs:H0 sg=some (.lst (ws.map V.str))) (hj:σ[j]?=some (some (.int (a:Nat)))) (ha:a≤ws.length):Mkw H0 σ (tSl (zSlL K) (yVar 8) (tPart (yVar j)) tNoPart) (WP (ws.drop a)):=fun H Q e q=>
 yVar_at (v:= .ref sg) h8 (yVar_at (v:= .int (a:Nat)) hj ⟨_,rfl,_,SqL.of (e _ _ hs),fun p np=>q _ _ (Ext.new np) ⟨p,rfl,by rw[upd_same,cut_dropS ha]⟩⟩)
theorem mw_dropV1 (h8:σ[8]?=some (some (.ref sg))) (hs:H0 sg=some (.lst (ws.map V.str))) (hj:σ[j]?=some (some (.int (a:Nat)))) (ha:a+1≤ws.length):Mkw H0 σ (tSl (zSlL K) (yVar 8) (tPart (tOp zAdd (yVar j) (tC (.int 1)))) tNoPart) (WP (ws.drop (a+1))):=fun H Q e q=>by
 dsimp only[tSl,tNoPart,tPart,tOp,tC]
 exact yVar_at (v:= .ref sg) h8 (yVar_at (v:= .int (a:Nat)) hj ⟨_,rfl,_,SqL.of (e _ _ hs),fun p np=>q _ _ (Ext.new np) ⟨p,rfl,by rw[upd_same,show((a:Nat):Int)+1=((a+1:Nat):Int) by omega,cut_dropS ha]⟩⟩)
theorem mw_last (h8:σ[8]?=some (some (.ref sg))) (hs:H0 sg=some (.lst (ws.map V.str))) (hw:ws≠ []):Mkw H0 σ (tSl (zSlL K) (yVar 8) tNoPart (tPart (tUn zNeg (tC (.int 1))))) (WP (ws.take (ws.length-1))):=fun H Q e q=>
 yVar_at (v:= .ref sg) h8 ⟨_,rfl,_,SqL.of (e _ _ hs),fun p np=>q _ _ (Ext.new np) ⟨p,rfl,by rw[upd_same];exact congrArg (fun z=>some (HO.lst z)) (cut_lastS hw)⟩⟩
theorem mw_catB (h:Mkw H0 σ te (WP ws)) (g:Mkw H0 σ tb (WP us)) (hl:ws.length+us.length≤2000000):Mkw H0 σ (tOp zCatL te tb) (WP (ws++us)):=fun H Q e q=>
 h H _ e fun v H1 e1 h1=>g H1 _ (e.trans e1) fun w H2 e2 h2=>by
   obtain⟨a,rfl,a1⟩:=h1.ext e2
   obtain⟨b,rfl,b1⟩:=h2
   exact⟨_,_,a1,b1,by rw[z8,z8,sizeLine_eq];omega,fun p np=>q _ _ ((e1.trans e2).trans (Ext.new np)) ⟨p,rfl,by rw[upd_same,z16]⟩⟩
theorem zNe_int {i:Int} {G:Hp} {Q:VK} (q:Q (.bl false) G):zNe (.int i) (.int i) G Q:=by
 show(match(some (decide (i=i))) with|some b=>Q (.bl (!b)) G|none=>False)
 rw[decide_eq_true rfl]
 exact q
theorem bad_test {tl:Addr} {ys:List Str} {n:Nat} {C:Bool→Hp→Prop} (F:FS K) (XF:XFs K ERR) (tk:Trk ys) (h3:σ[3]?=some (some (.ref tl))) (ht:H tl=some (.lst (ys.map V.str))) (h:Mkw H σ te (WP ws)) (hb:badOf ys ws=some n) (hw:tot ws≤2000000)
 (hn:∀(G:Hp) (Q:VK),Ext H G→Q (.int (n:Nat)) G→tn σ G Q) (q:∀H',Ext H H'→C false H'):yTst (tOp zNe (yCall (sp_bad K) E0 (tCons (yVar 3) (tCons te tNil))) tn) σ H C:=by
 dsimp only[yTst,tOp,yCall,tCons,tNil]
 refine yVar_at (v:= .ref tl) h3 (h H _ (Ext.refl _) fun v H1 e1 ⟨wl,hv,hwl⟩=> ?_)
 subst hv
 refine⟨tl,wl,ys,ws,rfl,F,XF,tk,e1 _ _ ht,hwl,hw,fun H' e=> ?_⟩
 rw[hb]
 refine hn H' _ (e1.trans e) (zNe_int (q _ (e1.trans e)))
theorem seq_if_no {tt:TT} {rest:TS} {D:Ends} (h:∀C:Bool→Hp→Prop,(∀H',Ext H H'→C false H')→tt σ H C) (q:∀H',Ext H H'→rest D σ H'):tSeq (yIf tt (tRet (tC (.bl false))) tNext) rest D σ H:=h _ fun H' e=>brF rfl (q H' e)
theorem ne_nil_test {C:Bool→Hp→Prop} (h:∀Q:VK,(∀a H',Ext H H'→H' a=some (.lst [])→Q (.ref a) H')→te σ H Q) (q:∀H',Ext H H'→C false H'):yTst (tOp (zNeD K) te (tLst tNil)) σ H C:=
 h _ fun a H1 e1 ha=>⟨z35 _,fun p np=>⟨.list [],.list [],.lst (SqL.of (Ext.new np _ _ ha)) .nil,.lst (SqL.of upd_same) .nil,rfl,rfl,q _ (e1.trans (Ext.new np))⟩⟩
theorem len_te {n:Nat} (h8:σ[8]?=some (some (.ref sg))) (hs:H sg=some (.lst (ws.map V.str))) (hl:ws.length=n):∀(G:Hp) (Q:VK),Ext H G→Q (.int (n:Nat)) G→tCB (zLen K) (tCons (yVar 8) tNil) σ G Q:=fun G Q e q=>
 yVar_at (v:= .ref sg) h8 ⟨ws.map V.str,.inl (SqL.of (e _ _ hs)),by rw[z8,hl];exact q⟩
theorem len_te1 {n:Nat} (h8:σ[8]?=some (some (.ref sg))) (hs:H sg=some (.lst (ws.map V.str))) (hl:ws.length=n+1):∀(G:Hp) (Q:VK),Ext H G→Q (.int (n:Nat)) G→tOp zSub (tCB (zLen K) (tCons (yVar 8) tNil)) (tC (.int 1)) σ G Q:=fun G Q e q=>
 yVar_at (v:= .ref sg) h8 ⟨ws.map V.str,.inl (SqL.of (e _ _ hs)),by
  rw[z8,hl]
  show Q (.int (((n+1:Nat):Int)-1)) G
  rw[show((n+1:Nat):Int)-1=((n:Nat):Int) by omega]
  exact q⟩
end
abbrev sw (s p:Addr) (x2:V) (tl:Addr) (y4 sv:V) (tx:Str) (tld sg:Addr) (x9 x10:Option V) (d a pl:Addr) (x14:Option V):L2.St:= [some (.ref s),some (.ref p),some x2,some (.ref tl),some y4,some sv,some (.str tx),some (.ref tld),some (.ref sg),x9,x10,some (.ref d),some (.ref a),some (.ref pl),x14]
section
variable {K:Kf} {vs:List V} {H:Hp} {Q:VK} {E:XK} {D:Ends} {s p c tl tld sg d a pl:Addr} {sv x2 y4:V} {n k:Nat} {ys:List Str} {t:STree} {x9 x10 x14:Option V} {cols:List (List Int)} {tr:Str}
def t_l8 (K:Kf) (E:XK):TS:=
 (tSeq (yIf (yTst (tOp (zNeD K) (yLc (jRng (tOp zAdd (tCB (zLen K) (tCons (yVar 8) tNil)) (tC (.int 1)))) (gName 14) (yTst (tOp zNe (yCall (sp_bad K) E0 (tCons (yVar 3) (tCons (tOp zCatL (tOp zCatL (tSl (zSlL K) (yVar 8) tNoPart (tPart (yVar 14))) (tLst (tCons (tC (.str "")) tNil))) (tSl (zSlL K) (yVar 8) (tPart (yVar 14)) tNoPart)) tNil))) (yVar 14))) (yVar 14) [14]) (tLst tNil))) (tRet (tC (.bl false))) tNext)
    (tSeq (yIf (yNot (yTst (yCall (sp_ranks_right K) E0 (tCons (yVar 3) (tCons (yVar 12) (tCons (yVar 13) (tCons (tOp zEq (tOp (zIxL K) (tOp (zIxL K) (yDGet (yVar 11) (tC (.str "cols"))) (tOp (zIxL K) (yVar 13) (tC (.int 1)))) (tC (.int 0))) (tC (.int 1))) tNil))))))) (tRet (tC (.bl false))) tNext)
    (tSeq (yIf (yOr (yTst (tOp zNe (yCall (sp_bad K) E0 (tCons (yVar 3) (tCons (tSl (zSlL K) (yVar 8) tNoPart (tPart (tUn zNeg (tC (.int 1))))) tNil))) (tOp zSub (tCB (zLen K) (tCons (yVar 8) tNil)) (tC (.int 1))))) (yTst (tOp zNe (yCall (sp_bad K) E0 (tCons (yVar 3) (tCons (tOp zCatL (yVar 8) (tLst (tCons (tC (.str "here")) tNil))) tNil))) (tCB (zLen K) (tCons (yVar 8) tNil))))) (tRet (tC (.bl false))) tNext)
    (yIf (yOr (yNot (yTst (yCall (sp_hand_right K) E0 (tCons (yVar 3) tNil)))) (yNot (yTst (yCall (sp_places_right K) E0 (tCons (yVar 3) (tCons (yVar 7) (tCons (yVar 12) tNil))))))) (tRet (tC (.bl false))) tNext))))
def t_l9 (K:Kf) (E:XK):TS:=
 (tSeq (yIf (yNot (yTst (yCall (sp_ranks_right K) E0 (tCons (yVar 3) (tCons (yVar 12) (tCons (yVar 13) (tCons (tOp zEq (tOp (zIxL K) (tOp (zIxL K) (yDGet (yVar 11) (tC (.str "cols"))) (tOp (zIxL K) (yVar 13) (tC (.int 1)))) (tC (.int 0))) (tC (.int 1))) tNil))))))) (tRet (tC (.bl false))) tNext)
    (tSeq (yIf (yOr (yTst (tOp zNe (yCall (sp_bad K) E0 (tCons (yVar 3) (tCons (tSl (zSlL K) (yVar 8) tNoPart (tPart (tUn zNeg (tC (.int 1))))) tNil))) (tOp zSub (tCB (zLen K) (tCons (yVar 8) tNil)) (tC (.int 1))))) (yTst (tOp zNe (yCall (sp_bad K) E0 (tCons (yVar 3) (tCons (tOp zCatL (yVar 8) (tLst (tCons (tC (.str "here")) tNil))) tNil))) (tCB (zLen K) (tCons (yVar 8) tNil))))) (tRet (tC (.bl false))) tNext)
    (yIf (yOr (yNot (yTst (yCall (sp_hand_right K) E0 (tCons (yVar 3) tNil)))) (yNot (yTst (yCall (sp_places_right K) E0 (tCons (yVar 3) (tCons (yVar 7) (tCons (yVar 12) tNil))))))) (tRet (tC (.bl false))) tNext)))
def t_l10 (K:Kf) (E:XK):TS:=
 (tSeq (yIf (yOr (yTst (tOp zNe (yCall (sp_bad K) E0 (tCons (yVar 3) (tCons (tSl (zSlL K) (yVar 8) tNoPart (tPart (tUn zNeg (tC (.int 1))))) tNil))) (tOp zSub (tCB (zLen K) (tCons (yVar 8) tNil)) (tC (.int 1))))) (yTst (tOp zNe (yCall (sp_bad K) E0 (tCons (yVar 3) (tCons (tOp zCatL (yVar 8) (tLst (tCons (tC (.str "here")) tNil))) tNil))) (tCB (zLen K) (tCons (yVar 8) tNil))))) (tRet (tC (.bl false))) tNext)
    (yIf (yOr (yNot (yTst (yCall (sp_hand_right K) E0 (tCons (yVar 3) tNil)))) (yNot (yTst (yCall (sp_places_right K) E0 (tCons (yVar 3) (tCons (yVar 7) (tCons (yVar 12) tNil))))))) (tRet (tC (.bl false))) tNext))
def t_l11 (K:Kf) (E:XK):TS:=
 (yIf (yOr (yNot (yTst (yCall (sp_hand_right K) E0 (tCons (yVar 3) tNil)))) (yNot (yTst (yCall (sp_places_right K) E0 (tCons (yVar 3) (tCons (yVar 7) (tCons (yVar 12) tNil))))))) (tRet (tC (.bl false))) tNext)
theorem LPx.len (L:LPx ys t):(swT t).length≤500001:=by
 have:=L.tot
 unfold Eb.tot at this
 omega
theorem stepD (F:FS K) (XF:XFs K ERR) (L:LPx ys t) (S:LT K H p c tl tld sg sv n ys t) (G:LG K H d a pl ys cols tr k) (hn:n+30000<1152921504606846976)
 (q:∀y10 H',LT K H' p c tl tld sg sv (n+1) ys t→LG K H' d a pl ys cols tr k→t_l8 K E D (sw s p x2 tl y4 sv (sTxt t) tld sg x9 y10 d a pl x14) H'):
 t_l6 K E D (sw s p x2 tl y4 sv (sTxt t) tld sg x9 x10 d a pl x14) H:=by
 have h3:=swT_len t
 unfold t_l6
 refine seq_id ?_
 refine⟨_,.inl (SqL.of S.sg),p,c,n,(((swT t).map V.str).length:Nat),rfl,S.pen,by omega,?_,?_,fun r H1 r0 r1 k1 P1=> ?_⟩
 ·rw[z8];omega
 ·rw[z8]
  have:=L.tot
  unfold tot at this
  exact log_small (by omega)
 obtain⟨ai,rfl⟩:=Int.eq_ofNat_of_zero_le r0
 rw[z8] at r1
 have ha:ai<(swT t).length:=by omega
 have S1:=S.kp k1 P1
 refine seq_if_no (fun C hC=>bad_test (n:=ai) F XF L.tk rfl S1.trk (mw_catB (mw_catB (mw_takeV rfl S1.sg rfl (Nat.le_of_lt ha)) (mw_words (mwS_c mwS_nil) (Nat.le_of_ble_eq_true rfl)) (by have:=L.len;simp only[z17,z22,List.length_drop,List.length_singleton];omega)) (mw_dropV1 rfl S1.sg rfl ha) (by have:=L.len;simp only[z17,z22,List.length_drop,List.length_singleton];omega)) (bad_1 L ha) (Nat.le_trans (tot_1 L (by decide+kernel) _ _) (by decide)) (fun G Q e q=>q) hC) fun H2 e2=> ?_
 exact q _ H2 (S1.ext e2) ((G.kp L.tk k1).ext e2)
theorem stepE (F:FS K) (XF:XFs K ERR) (L:LPx ys t) (S:LT K H p c tl tld sg sv n ys t) (G:LG K H d a pl ys cols tr k)
 (q:∀H',LT K H' p c tl tld sg sv n ys t→LG K H' d a pl ys cols tr k→t_l9 K E D (sw s p x2 tl y4 sv (sTxt t) tld sg x9 x10 d a pl x14) H'):
 t_l8 K E D (sw s p x2 tl y4 sv (sTxt t) tld sg x9 x10 d a pl x14) H:=by
 unfold t_l8
 refine seq_if_no (fun C hC=>ne_nil_test (fun Q2 q2=> ?_) hC) fun H' e=>q H' (S.ext e) (G.ext e)
 dsimp only[yLc,jRng,tOp,tCB,tCons,tNil]
 refine yVar_at (v:= .ref sg) rfl ⟨(swT t).map V.str,.inl (SqL.of S.sg),?_⟩
 rw[z8]
 have hl:=L.len
 refine⟨by omega,by omega,fun D nD=> ?_⟩
 refine lc_empty nD (fun _ _=>trivial) (fun i x G1 G' C hi eG hY hC=> ?_) fun H' e d=>q2 D H' e d
 obtain⟨rfl,rfl⟩:=hY
 have hi:i≤(swT t).length:=by omega
 have S1:=S.ext eG
 have ex:((fun i:Nat=>V.int (0+(i:Int))) i)=V.int ((i:Nat):Int):=by
  show V.int (0+_)=_
  rw[Int.zero_add]
 rw[ex]
 refine⟨rfl,bad_test (n:=i) F XF L.tk rfl S1.trk (mw_catB (mw_catB (mw_takeV rfl S1.sg rfl hi) (mw_words (mwS_c mwS_nil) (Nat.le_of_ble_eq_true rfl)) (by have:=L.len;simp only[z17,z22,List.length_drop,List.length_singleton];omega)) (mw_dropV rfl S1.sg rfl hi) (by have:=L.len;simp only[z17,z22,List.length_drop,List.length_singleton];omega)) (bad_2 L hi) (Nat.le_trans (tot_1 L (by decide+kernel) _ _) (by decide)) (fun G Q e q=>q) fun H' e=>hC _ _ e⟩
theorem stepG (F:FS K) (XF:XFs K ERR) (L:LPx ys t) (S:LT K H p c tl tld sg sv n ys t) (G:LG K H d a pl ys cols tr k)
 (q:∀H',LT K H' p c tl tld sg sv n ys t→LG K H' d a pl ys cols tr k→t_l11 K E D (sw s p x2 tl y4 sv (sTxt t) tld sg x9 x10 d a pl x14) H'):
 t_l10 K E D (sw s p x2 tl y4 sv (sTxt t) tld sg x9 x10 d a pl x14) H:=by
 have h3:=swT_len t
 have hl:=L.len
 have ht:=L.tot
 unfold t_l10
 refine seq_if_no (fun C hC=> ?_) fun H' e=>q H' (S.ext e) (G.ext e)
 dsimp only[yOr]
 refine bad_test (n:=(swT t).length-1) F XF L.tk rfl S.trk (mw_last rfl S.sg (swT_ne t)) (bad_3 L) (by have:=tot_take (swT t) ((swT t).length-1);omega) (len_te1 rfl S.sg (by omega)) fun H1 e1=>brF rfl ?_
 have S1:=S.ext e1
 refine bad_test (n:=(swT t).length) F XF L.tk rfl S1.trk (mw_catB (mw_var rfl ⟨sg,rfl,S1.sg⟩) (mw_words (mwS_c mwS_nil) (Nat.le_of_ble_eq_true rfl)) (by rw[List.length_singleton];omega)) (bad_4 L) ?_ (len_te rfl S1.sg rfl) fun H2 e2=>hC H2 (e1.trans e2)
 rw[tot_app]
 have:tot ["here"]=5:=by decide+kernel
 omega
theorem stepFk (F:FS K) (L:LPx ys t) (S:LT K H p c tl tld sg sv n ys t) (G:LG K H d a pl ys cols tr k)
 (q:∀H',LT K H' p c tl tld sg sv n ys t→LG K H' d a pl ys cols tr k→t_l10 K E D (sw s p x2 tl y4 sv (sTxt t) tld sg x9 x10 d a pl x14) H'):
 t_l9 K E D (sw s p x2 tl y4 sv (sTxt t) tld sg x9 x10 d a pl x14) H:=by
 obtain⟨t0,r0,rfl⟩:∃t0 r0,ys=t0::r0:=by
  cases ys with
  |nil=>exact absurd L.tk.n1 (by decide)
  |cons t0 r0=>exact⟨t0,r0,rfl⟩
 have y1:=L.tk.n1
 unfold t_l9
 refine seq_if_no (fun C hC=> ?_) fun H' e=>q H' (S.ext e) (G.ext e)
 obtain⟨kvs,tt,cc,cas,hd,v1,v2,ht,hc,hn,hcol⟩:=G.pln.v
 have hk:k<cas.length:=by have:=G.k;omega
 obtain⟨bs,hb,hbl⟩:=hcol k cas[k] (z9 hk)
 obtain⟨bl,_⟩:=G.ok bs (z11 hb)
 have h0:0<bs.length:=by omega
 refine⟨kvs,_,.inl hd,v2,_,_,.inr (SqT.of G.at_),at1,cas.map V.ref,.ref cas[k],.inl (SqL.of hc),atI_nat (by rw[z10,z9 hk];rfl),bs.map V.int,.int bs[0],.inl (SqL.of hbl),atI_nat (j:=0) (by rw[z10,z9 h0];rfl),?_⟩
 have e:=row_bit (ys:=t0::r0) (w:=t0) (z31 ..) hb
 refine⟨tl,a,pl,t0,r0,rowsOf cols (t0::r0).length,cols.length,tr,k,?_,F,L.tk,L.nm,S.trk,G.made,(G.sh L.tk).j,by have:=G.c9;omega,SqT.of G.at_,G.tr,G.k,fun H' e'=>hC H' e'⟩
 show [V.ref tl,.ref a,.ref pl,.bl (decide (bs[0]=1))]= [V.ref tl,.ref a,.ref pl,.bl (decide ((rowAt (t0::r0) (rowsOf cols (t0::r0).length) t0).cps.toList[k]?=some 35))]
 rw[e,show(t0::r0).idxOf t0=0 by simp,z14,z9 h0]
 rfl
theorem stepH (F:FS K) (XF:XFs K ERR) (L:LPx ys t) (S:LT K H p c tl tld sg sv n ys t) (G:LG K H d a pl ys cols tr k)
 (q:∀H',PenAt H' p c n→LamX.Tabs (TB K) H'→D.nx (sw s p x2 tl y4 sv (sTxt t) tld sg x9 x10 d a pl x14) H'):
 t_l11 K E D (sw s p x2 tl y4 sv (sTxt t) tld sg x9 x10 d a pl x14) H:=by
 obtain⟨t0,r0,rfl⟩:∃t0 r0,ys=t0::r0:=by
  cases ys with
  |nil=>exact absurd L.tk.n1 (by decide)
  |cons t0 r0=>exact⟨t0,r0,rfl⟩
 refine⟨tl,_,rfl,F,XF,L.tk,L.nm,S.trk,fun H1 e1=>brF rfl ?_⟩
 have S1:=S.ext e1
 have G1:=G.ext e1
 refine⟨tl,tld,a,t0,r0,_,t,_,rowsOf cols (t0::r0).length,cols.length,rfl,XF,⟨F,L.tk,L.nm,sayOf_ok L.read,(G.sh L.tk).j,by have:=G.c9;omega⟩,S1.tab,S1.trk,S1.sd,G1.made,fun H2 e2 T2=>brF rfl ?_⟩
 exact q H2 (pen_extN S1.pen e2) T2
end
section
variable {K:Kf} {vs:List V} {H:Hp} {Q:VK} {E:XK}
theorem turn {D:Ends} {s p c:Addr} {n i:Nat} {x3 x4 x5 x6 x7 x8 x9 x10 x11 x12 x13 x14:Option V} (F:FS K) (XF:XFs K ERR) (P:PenAt H p c n) (T:LamX.Tabs (TB K) H) (hn:n+40000<1152921504606846976)
 (q:∀x2 x3 x4 x5 x6 x7 x8 x9 x10 x11 x12 x13 x14 H',PenAt H' p c (n+600)→LamX.Tabs (TB K) H'→D.nx [some (.ref s),some (.ref p),x2,x3,x4,x5,x6,x7,x8,x9,x10,x11,x12,x13,x14] H'):
 t_turn K E D [some (.ref s),some (.ref p),some (.int (i:Nat)),x3,x4,x5,x6,x7,x8,x9,x10,x11,x12,x13,x14] H:=
 turnA F P T (by omega) fun tl tld sg y4 sv ys t H1 L S1=>turnB L S1 fun H2 S2=>loop F L S2 (by omega) fun y9 d a pl cols tr k H3 S3 G3=>
  stepD F XF L S3 G3 (by omega) fun y10 H4 S4 G4=>stepE F XF L S4 G4 fun H5 S5 G5=>stepFk F L S5 G5 fun H6 S6 G6=>stepG F XF L S6 G6 fun H7 S7 G7=>stepH F XF L S7 G7 fun H8 P8 T8=>q _ _ _ _ _ _ _ _ _ _ _ _ _ H8 (P8.mono (by omega)) T8
end
def ERRH:List (Str × Str):= [("OtherTracks","tracks"),("NoTrack","name"),("NoColumn","column"),("BadTracks","index"),("BadSaying","index")]
def exHd:List (Kf→Bool):= [fun K=>He.tupB K "BARRED" (BARRED.map He.Dv.str),
 fun K=>kitB K (.type "str") (.ref (He.ga K "Rows")) false,
 fun K=>xfsB K ERRH]
def dD (x:Str) (i:Nat):He.DefD:=⟨(x,none),x,x,defArgs (top i),defBody (top i),defScope (top i),[],[]⟩
def dM (x m:Str) (i j:Nat):He.DefD:=⟨(x,some m),m,x++ "." ++m,defArgs (inClass (top i) j),defBody (inClass (top i) j),defScope (inClass (top i) j),[],[]⟩
def exJ:List (Kf→Bool):= [fun K=>sameMaB K "SayingReader" "Reader" "word",fun K=>sameMaB K "SayingReader" "Reader" "take",fun K=>sameMaB K "SayingReader" "Reader" "begin_part",fun K=>sameMaB K "SayingReader" "Reader" "single",fun K=>sameMaB K "SayingReader" "Reader" "all_of",fun K=>sameMaB K "SayingReader" "Reader" "any_of",fun K=>sameMaB K "SayingReader" "Reader" "whole"]
def suL:List SD:= [mkSD "SayingReader" "Reader" "SayingReader.__init__" (inClass (top 30) 0)]
def glos:List Str:=(["_law_begun_pen","_law_draw","_law_shuffled","_law_new_names","_law_new_tracks","_law_pick","_law_new_claim","_law_new_block","_law_new_saying","_law_saying_text","is_name","check_tracks","_law_new_sheet","_law_drawn_place","lines_of","read_rows","_law_cells_text","_law_sheet_text","check_place","is_true"]:List (Str))++(["is_block_true","_law_says","_law_bad","_law_ranks_right","_law_refused","_law_places_right","_law_barred","_law_hand_right","law"]:List (Str))
def blts:List Str:= ["abs","all","dict","enumerate","int","isinstance","len","list","max","min","range","repr","set","sorted","str","sum","super","tuple","zip","ValueError","TypeError"]
def tailF:List He.Fa:=([.cls "Reader",.cls "SayingReader",.cls "Saying",.cls "Rows",.cls "Sheet",.mkr "Reader",.meth "Reader" "word",.meth "Reader" "take",.meth "Reader" "begin_part",.meth "Reader" "single",.meth "Reader" "all_of",.meth "Reader" "any_of",.meth "Reader" "whole",.mkr "SayingReader",.meth "SayingReader" "word",.meth "SayingReader" "take",.meth "SayingReader" "begin_part",.meth "SayingReader" "column_word",.meth "SayingReader" "single",.meth "SayingReader" "all_of"]:List (He.Fa))++([.meth "SayingReader" "any_of",.meth "SayingReader" "block",.meth "SayingReader" "part_or_block",.meth "SayingReader" "whole",.mkr "Saying",.mkr "Rows",.mkr "Sheet",.meth "Sheet" "__len__",.meth "Saying" "holds",.noat "BadTracks" "index",.noat "BadSaying" "index",.noat "BadSheet" "line",.noat "NoTrack" "name",.noat "NoColumn" "column",.str "LETTERS" "abcdefghijklmnopqrstuvwxyz",.glo "BARRED",.int "LONGEST" 12,.int "MOST_TRACKS" 3,.int "MOST_PARTS" 8,.int "MOST_BLOCKS" 3]:List (He.Fa))++([.int "MOST_OPEN" 10,.int "MOST_BOUND" 3,.int "LINE_WORDS" 2,.int "MOST_COLUMNS" 1000]:List (He.Fa))
def fas:List He.Fa:=glos.map He.Fa.glo++(clsN.map He.Fa.glo++(blts.map He.Fa.free++(fldN.map (fun p=>He.Fa.noat p.1 p.2)++tailF)))
def fns:List He.DefD:=([dD "_law_begun_pen" 36,dD "_law_draw" 37,dD "_law_shuffled" 39,dD "_law_new_names" 41,dD "_law_new_tracks" 42,dD "_law_pick" 38,dD "_law_new_claim" 47,dD "_law_new_block" 48,dD "_law_new_saying" 49,dD "_law_saying_text" 50,dD "is_name" 14,dD "check_tracks" 19,dM "Reader" "__init__" 29 0,dM "Reader" "word" 29 1,dM "Reader" "take" 29 2,dM "Reader" "begin_part" 29 8,dM "Reader" "single" 29 6,dM "Reader" "all_of" 29 5,dM "Reader" "any_of" 29 4,dM "Reader" "whole" 29 3]:List (He.DefD))++([dM "SayingReader" "column_word" 30 2,dM "SayingReader" "block" 30 3,dM "SayingReader" "part_or_block" 30 1,dM "Saying" "__init__" 34 0,dD "_law_new_sheet" 43,dD "_law_drawn_place" 46,dD "lines_of" 13,dM "Rows" "__init__" 20 0,dD "read_rows" 21,dM "Sheet" "__init__" 22 0,dD "_law_cells_text" 44,dD "_law_sheet_text" 45,dD "check_place" 23,dM "Sheet" "__len__" 22 2,dD "is_true" 32,dD "is_block_true" 33,dM "Saying" "holds" 34 1,dD "_law_says" 51,dD "_law_bad" 52,dD "_law_ranks_right" 55]:List (He.DefD))++([dD "_law_refused" 53,dD "_law_places_right" 56,dD "_law_barred" 40,dD "_law_hand_right" 54,dD "law" 57]:List (He.DefD))
def xss:List XD:= [mkXD "BadTracks" "BadTracks.__init__" (inClass (top 4) 0),mkXD "BadSaying" "BadSaying.__init__" (inClass (top 5) 0),mkXD "BadSheet" "BadSheet.__init__" (inClass (top 3) 0),mkXD "NoTrack" "NoTrack.__init__" (inClass (top 6) 0),mkXD "NoColumn" "NoColumn.__init__" (inClass (top 7) 0),mkXD "OtherTracks" "OtherTracks.__init__" (inClass (top 8) 0)]
def hD:HD:={n:=5,fa:=fas,fn:=fns,tf:= [("_law_places_right",none)],xs:=xss,su:=suL,ex:=fun K=>(exHd.all fun t=>t K)&& (exJ.all fun t=>t K)}
abbrev RR:PySem.W.OpenRow:=PySem.W.OpenLaw.row PySem.Challenge.rw_edgejumps_k40_sayings_read
noncomputable abbrev hkk:PySem.W.Hook:=hookF RR.prog hD
noncomputable def obb (s:PySem.W.SharedT):AlE:=obsFG RR.prog hD (HandSHeadRun.getT s)
theorem obb_eq (s:PySem.W.SharedT):obb s=hkk.obs s.abs:=obsFG_eq (HandSHeadRun.getT_eq s)
def loose:List Str:=(["_wall","__name__","EdgeError","BadSheet","BadTracks","BadSaying","NoTrack","NoColumn","OtherTracks","LETTERS","LONGEST","BARRED","lines_of","is_name","MOST_TRACKS","MOST_COLUMNS","LINE_WORDS","check_tracks","Rows","read_rows"]:List Str)++(["Sheet","check_place","MOST_PARTS","MOST_OPEN","MOST_BLOCKS","MOST_BOUND","Reader","SayingReader","is_true","is_block_true","Saying","_law_begun_pen","_law_draw","_law_pick","_law_shuffled","_law_barred","_law_new_names","_law_new_tracks","_law_new_sheet","_law_cells_text"]:List Str)++(["_law_sheet_text","_law_drawn_place","_law_new_claim","_law_new_block","_law_new_saying","_law_saying_text","_law_says","_law_bad","_law_refused","_law_hand_right","_law_ranks_right","_law_places_right"]:List Str)
theorem map_both {α β γ δ ε:Type} {o:Option α} {f:α→β} {g:α→γ} {h:α→δ × ε} {x:β} {y:γ} {z:δ × ε} (h1:o.map (fun s=>(f s,g s,(h s).2))=some (x,y,z.2)) (h2:o.map (fun s=>(h s).1)=some z.1):o.map (fun s=>(f s,g s,h s))=some (x,y,z):=by
 cases o with
 |none=>cases h1
 |some s=>
  have e1:(f s,g s,(h s).2)=(x,y,z.2):=z33 h1
  have e2:(h s).1=z.1:=z33 h2
  have e3:f s=x:=congrArg Prod.fst e1
  have e4:g s=y:=congrArg (fun p=>p.2.1) e1
  have e5:(h s).2=z.2:=congrArg (fun p=>p.2.2) e1
  have e6:h s=z:=Prod.ext e2 e5
  show some (f s,g s,h s)=_
  rw[e3,e4,e6]
def fasH:Nat:=200
noncomputable def kOf (s:PySem.W.SharedT):Kf:=He.frT (HandSHeadRun.getT s) (asH hD (HandSHeadRun.getT s))
theorem map_parted {o:Option PySem.W.SharedT} (a:o.map (fun s=>(fas.take fasH).all fun f=>f.ok (kOf s))=some true) (b:o.map (fun s=>(fas.drop fasH).all fun f=>f.ok (kOf s))=some true) (c:o.map (fun s=>((fns.all fun d=>d.ok (kOf s)),(fns.map fun d=>He.fnW (kOf s) d.at_)))=some (true,fns.map He.DefD.val)):o.map (fun s=>(obb s).1)=some (((true,fns.map He.DefD.val),[]):He.AlT):=by
 cases o with
 |none=>cases a
 |some s=>
  have a:((fas.take fasH).all fun f=>f.ok (kOf s))=true:=z33 a
  have b:((fas.drop fasH).all fun f=>f.ok (kOf s))=true:=z33 b
  have c:=z33 c
  have c1:(fns.all fun d=>d.ok (kOf s))=true:=congrArg Prod.fst c
  have c2:(fns.map fun d=>He.fnW (kOf s) d.at_)=fns.map He.DefD.val:=congrArg (fun p=>p.2) c
  have e:(obb s).1=((((fas.all fun f=>f.ok (kOf s))&&fns.all fun d=>d.ok (kOf s)),fns.map fun d=>He.fnW (kOf s) d.at_),[]):=rfl
  have ab:(fas.all fun f=>f.ok (kOf s))=true:=by
   rw[←List.take_append_drop fasH fas,List.all_append,a,b]
   rfl
  show some (obb s).1=_
  rw[e,ab,c1,c2]
  rfl
theorem runL_false (w:World):∀os:OsState,(HandSHeadRun.endF (HandSHeadRun.stepQ (HandSHeadRun.denQ HandSHeadRun.tabQ) RR.prog (w.withFollow "special-get-raises" false)) 20000 RR.prog (w.withFollow "special-get-raises" false) os).map (fun s=>(HandSHeadRun.looksF RR.prog (PySem.W.boot_heap (w.withFollow "special-get-raises" false).params) s.abs,HandSHeadRun.seenQ (PySem.W.view RR.prog [57]) loose (importedModules RR.prog.main.body) (fun s=>PySem.W.xlAt (PySem.W.view RR.prog [57]) [] s&&PySem.W.recOk RR.toRowW.records s) s.abs,(obb s).2))=some (true,PySem.W.openGood (PySem.W.view RR.prog [57]) loose,(hkk.val (w.withFollow "special-get-raises" false)).2):=by
 intro os
 kernel_rfl
theorem runA_false (w:World):∀os:OsState,(HandSHeadRun.endF (HandSHeadRun.stepQ (HandSHeadRun.denQ HandSHeadRun.tabQ) RR.prog (w.withFollow "special-get-raises" false)) 20000 RR.prog (w.withFollow "special-get-raises" false) os).map (fun s=>(fas.take fasH).all fun f=>f.ok (kOf s))=some true:=by
 intro os
 kernel_rfl
theorem runB_false (w:World):∀os:OsState,(HandSHeadRun.endF (HandSHeadRun.stepQ (HandSHeadRun.denQ HandSHeadRun.tabQ) RR.prog (w.withFollow "special-get-raises" false)) 20000 RR.prog (w.withFollow "special-get-raises" false) os).map (fun s=>(fas.drop fasH).all fun f=>f.ok (kOf s))=some true:=by
 intro os
 kernel_rfl
theorem runC_false (w:World):∀os:OsState,(HandSHeadRun.endF (HandSHeadRun.stepQ (HandSHeadRun.denQ HandSHeadRun.tabQ) RR.prog (w.withFollow "special-get-raises" false)) 20000 RR.prog (w.withFollow "special-get-raises" false) os).map (fun s=>((fns.all fun d=>d.ok (kOf s)),(fns.map fun d=>He.fnW (kOf s) d.at_)))=some (true,fns.map He.DefD.val):=by
 intro os
 kernel_rfl
theorem runO_false (w:World):∀os:OsState,(HandSHeadRun.endF (HandSHeadRun.stepQ (HandSHeadRun.denQ HandSHeadRun.tabQ) RR.prog (w.withFollow "special-get-raises" false)) 20000 RR.prog (w.withFollow "special-get-raises" false) os).map (fun s=>(obb s).1)=some (hkk.val (w.withFollow "special-get-raises" false)).1:=by
 intro os
 have a:=runA_false w os
 have b:=runB_false w os
 have c:=runC_false w os
 revert a b c
 generalize HandSHeadRun.endF _ _ _ _ _=o
 intro a b c
 exact map_parted a b c
theorem runH_false (w:World):HandSHeadRun.RunEq RR (PySem.W.view RR.prog [57]) hkk obb 20000 loose (w.withFollow "special-get-raises" false):=by
 unfold HandSHeadRun.RunEq
 intro os
 have a:=runL_false w os
 have b:=runO_false w os
 revert a b
 generalize HandSHeadRun.endF _ _ _ _ _=o
 intro a b
 exact map_both a b
theorem runL_true (w:World):∀os:OsState,(HandSHeadRun.endF (HandSHeadRun.stepQ (HandSHeadRun.denQ HandSHeadRun.tabQ) RR.prog (w.withFollow "special-get-raises" true)) 20000 RR.prog (w.withFollow "special-get-raises" true) os).map (fun s=>(HandSHeadRun.looksF RR.prog (PySem.W.boot_heap (w.withFollow "special-get-raises" true).params) s.abs,HandSHeadRun.seenQ (PySem.W.view RR.prog [57]) loose (importedModules RR.prog.main.body) (fun s=>PySem.W.xlAt (PySem.W.view RR.prog [57]) [] s&&PySem.W.recOk RR.toRowW.records s) s.abs,(obb s).2))=some (true,PySem.W.openGood (PySem.W.view RR.prog [57]) loose,(hkk.val (w.withFollow "special-get-raises" true)).2):=by
 intro os
 kernel_rfl
theorem runA_true (w:World):∀os:OsState,(HandSHeadRun.endF (HandSHeadRun.stepQ (HandSHeadRun.denQ HandSHeadRun.tabQ) RR.prog (w.withFollow "special-get-raises" true)) 20000 RR.prog (w.withFollow "special-get-raises" true) os).map (fun s=>(fas.take fasH).all fun f=>f.ok (kOf s))=some true:=by
 intro os
 kernel_rfl
theorem runB_true (w:World):∀os:OsState,(HandSHeadRun.endF (HandSHeadRun.stepQ (HandSHeadRun.denQ HandSHeadRun.tabQ) RR.prog (w.withFollow "special-get-raises" true)) 20000 RR.prog (w.withFollow "special-get-raises" true) os).map (fun s=>(fas.drop fasH).all fun f=>f.ok (kOf s))=some true:=by
 intro os
 kernel_rfl
theorem runC_true (w:World):∀os:OsState,(HandSHeadRun.endF (HandSHeadRun.stepQ (HandSHeadRun.denQ HandSHeadRun.tabQ) RR.prog (w.withFollow "special-get-raises" true)) 20000 RR.prog (w.withFollow "special-get-raises" true) os).map (fun s=>((fns.all fun d=>d.ok (kOf s)),(fns.map fun d=>He.fnW (kOf s) d.at_)))=some (true,fns.map He.DefD.val):=by
 intro os
 kernel_rfl
theorem runO_true (w:World):∀os:OsState,(HandSHeadRun.endF (HandSHeadRun.stepQ (HandSHeadRun.denQ HandSHeadRun.tabQ) RR.prog (w.withFollow "special-get-raises" true)) 20000 RR.prog (w.withFollow "special-get-raises" true) os).map (fun s=>(obb s).1)=some (hkk.val (w.withFollow "special-get-raises" true)).1:=by
 intro os
 have a:=runA_true w os
 have b:=runB_true w os
 have c:=runC_true w os
 revert a b c
 generalize HandSHeadRun.endF _ _ _ _ _=o
 intro a b c
 exact map_parted a b c
theorem runH_true (w:World):HandSHeadRun.RunEq RR (PySem.W.view RR.prog [57]) hkk obb 20000 loose (w.withFollow "special-get-raises" true):=by
 unfold HandSHeadRun.RunEq
 intro os
 have a:=runL_true w os
 have b:=runO_true w os
 revert a b
 generalize HandSHeadRun.endF _ _ _ _ _=o
 intro a b
 exact map_both a b
theorem runH (w:World):HandSHeadRun.RunEq RR (PySem.W.view RR.prog [57]) hkk obb 20000 loose w:=PySem.W.byRow2 "special-get-raises" (P:=fun w=>HandSHeadRun.RunEq RR (PySem.W.view RR.prog [57]) hkk obb 20000 loose w) runH_false runH_true w
theorem brT {b:Bool} {A B:Prop} (e:b=true) (h:A):yBr b A B:=br (fun _=>h) fun z=>by rw[e] at z;cases z
theorem brN {p:Prop} [Decidable p] {A B:Prop} (h1: ¬p→A) (h2:p→B):yBr (!decide p) A B:=br
 (fun z=>h1 (by simpa using z)) fun z=>h2 (by simpa using z)
theorem brDT {p:Prop} [Decidable p] {A B:Prop} (e:p) (h:A):yBr (decide p) A B:=brT (decide_eq_true e) h
theorem brDF {p:Prop} [Decidable p] {A B:Prop} (e: ¬p) (h:B):yBr (decide p) A B:=brF (decide_eq_false e) h
def zMul:R2:=fun x y H Q=>match x,y with
 | .int i,.int j=>CMul i j∧Q (.int (i*j)) H
 |_,_=>False
def zDiv:R2:=fun x y H Q=>match x,y with
 | .int i,.int j=>CDivW i j∧Q (.int (i/j)) H
 |_,_=>False
def zMod:R2:=fun x y H Q=>match x,y with
 | .int i,.int j=>0<j∧Q (.int (i%j)) H
 |_,_=>False
def zPow:R2:=fun x y H Q=>match x,y with
 | .int i,.int j=>CPow i j∧Q (.int (i^j.toNat)) H
 |_,_=>False
theorem sEq_ok {x y:V} {b:Bool} (h:sEq x y=some b):scal x y=true∧decide (x=y)=b:=by
 cases x<;>cases y<;>simp only[sEq,Option.some.injEq,reduceCtorEq] at h<;>subst h<;>refine⟨rfl,?_⟩<;>simp
def zEqD (K:Kf):R2:=fun x y H Q=>∃d e,Dp K H x d∧Dp K H y e∧SeqAt.shaped d=true∧SeqAt.shaped e=true∧Q (.bl (PyData.eqv d e)) H
def zLt:R2:=fun x y H Q=>match x,y with
 | .int i,.int j=>Q (.bl (decide (i<j))) H
 |_,_=>False
def zLe:R2:=fun x y H Q=>match x,y with
 | .int i,.int j=>Q (.bl (decide (i≤j))) H
 |_,_=>False
def zGe:R2:=fun x y H Q=>match x,y with
 | .int i,.int j=>Q (.bl (decide (j≤i))) H
 |_,_=>False
def zIs:R2:=fun x y H Q=>match y with
 | .non=>Q (.bl (match x with| .non=>true|_=>false)) H
 |_=>False
section
variable {X:Cx}
theorem op_zSub:OpR X (binaryOp .Sub) zSub:=OpR.imp op_sub fun x y H Q q=>by
 cases x<;>cases y<;>first|exact q.elim|exact⟨_,_,rfl,rfl,q⟩
theorem op_zMul:OpR X (binaryOp .Mult) zMul:=OpR.imp op_mul fun x y H Q q=>by
 cases x<;>cases y<;>first|exact q.elim|exact⟨_,_,rfl,rfl,q.1,q.2⟩
theorem op_zDiv:OpR X (binaryOp .FloorDiv) zDiv:=OpR.imp op_fdivW fun x y H Q q=>by
 cases x<;>cases y<;>first|exact q.elim|exact⟨_,_,rfl,rfl,q.1,q.2⟩
theorem op_zMod:OpR X (binaryOp .Mod) zMod:=OpR.imp op_mod fun x y H Q q=>by
 cases x<;>cases y<;>first|exact q.elim|exact⟨_,_,rfl,rfl,q.1,q.2⟩
theorem op_zPow:OpR X (binaryOp .Pow) zPow:=OpR.imp op_pow fun x y H Q q=>by
 cases x<;>cases y<;>first|exact q.elim|exact⟨_,_,rfl,rfl,q.1,q.2⟩
theorem op_zAdd:OpR X (binaryOp .Add) zAdd:=OpR.imp (OpR.or op_add op_add_str) fun x y H Q q=>by
 cases x<;>cases y<;>first|exact q.elim|exact .inl ⟨_,_,rfl,rfl,q⟩|exact .inr ⟨_,_,rfl,rfl,q.1,q.2⟩
theorem iop_zAdd:OpR X (inplaceOp .Add) zAdd:=OpR.imp (OpR.or iop_add iop_add_str) fun x y H Q q=>by
 cases x<;>cases y<;>first|exact q.elim|exact .inl ⟨_,_,rfl,rfl,q⟩|exact .inr ⟨_,_,rfl,rfl,q.1,q.2⟩
theorem iop_zSub:OpR X (inplaceOp .Sub) zSub:=OpR.imp iop_sub fun x y H Q q=>by
 cases x<;>cases y<;>first|exact q.elim|exact⟨_,_,rfl,rfl,q⟩
theorem op_zCatL:OpR X (binaryOp .Add) zCatL:=OpR.imp op_cat fun x y H Q q=>by
 cases x<;>cases y<;>first|exact q.elim|skip
 obtain⟨xs,zs,h1,h2,h3,h4⟩:=q
 exact⟨_,_,xs,zs,rfl,rfl,h1,h2,h3,h4⟩
theorem op_zRepL:OpR X (binaryOp .Mult) zRepL:=OpR.imp op_rep fun x y H Q q=>by
 cases x<;>cases y<;>first|exact q.elim|skip
 obtain⟨xs,h⟩:=q
 exact⟨_,_,xs,rfl,rfl,h⟩
theorem op_zEq:OpR X (compareOp .Eq) zEq:=OpR.imp op_eq fun x y H Q q=>by
 unfold zEq at q
 cases e:sEq x y with
 |none=>rw[e] at q;exact q.elim
 |some b=>
  rw[e] at q
  obtain⟨h1,h2⟩:=sEq_ok e
  refine⟨h1,?_⟩
  rw[h2]
  exact q
theorem op_zNe:OpR X (compareOp .NotEq) zNe:=OpR.imp op_ne fun x y H Q q=>by
 unfold zNe at q
 cases e:sEq x y with
 |none=>rw[e] at q;exact q.elim
 |some b=>
  rw[e] at q
  obtain⟨h1,h2⟩:=sEq_ok e
  refine⟨h1,?_⟩
  rw[h2]
  exact q
theorem op_zEqD (hu:X.A.units+64<cLine):OpR X (compareOp .Eq) (zEqD X.K):=op_eqD hu
theorem op_zNeD (hu:X.A.units+64<cLine):OpR X (compareOp .NotEq) (zNeD X.K):=op_neD hu
theorem op_zLt:OpR X (compareOp .Lt) zLt:=OpR.imp op_lt fun x y H Q q=>by
 cases x<;>cases y<;>first|exact q.elim|exact⟨_,_,rfl,rfl,q⟩
theorem op_zLe:OpR X (compareOp .LtE) zLe:=OpR.imp op_le fun x y H Q q=>by
 cases x<;>cases y<;>first|exact q.elim|exact⟨_,_,rfl,rfl,q⟩
theorem op_zGt:OpR X (compareOp .Gt) zGt:=OpR.imp op_gt fun x y H Q q=>by
 cases x<;>cases y<;>first|exact q.elim|exact⟨_,_,rfl,rfl,q⟩
theorem op_zGe:OpR X (compareOp .GtE) zGe:=OpR.imp op_ge fun x y H Q q=>by
 cases x<;>cases y<;>first|exact q.elim|exact⟨_,_,rfl,rfl,q⟩
theorem op_zIn:OpR X (compareOp .In) (zIn X.K false):=OpR.imp (OpR.or op_in_seq op_in_sign) fun x y H Q q=>by
 cases y with
 |ref p=>
  obtain⟨xs,h1,h2,h3,h4⟩:=q
  exact .inl ⟨p,xs,rfl,h1,h2,h3,h4⟩
 |str z=>
  cases x with
  |str c=>
   obtain⟨n,rfl,h⟩:=q
   exact .inr ⟨n,z,rfl,rfl,h⟩
  |_=>exact q.elim
 |_=>exact q.elim
theorem op_zNotIn:OpR X (compareOp .NotIn) (zIn X.K true):=OpR.imp (OpR.or op_notIn_seq op_notIn_sign) fun x y H Q q=>by
 cases y with
 |ref p=>
  obtain⟨xs,h1,h2,h3,h4⟩:=q
  exact .inl ⟨p,xs,rfl,h1,h2,h3,h4⟩
 |str z=>
  cases x with
  |str c=>
   obtain⟨n,rfl,h⟩:=q
   exact .inr ⟨n,z,rfl,rfl,h⟩
  |_=>exact q.elim
 |_=>exact q.elim
theorem op_zIs:OpR X (compareOp .Is) zIs:=OpR.imp op_isN fun x y H Q q=>by
 cases y<;>first|exact q.elim|skip
 refine⟨rfl,?_⟩
 cases x<;>exact q
theorem un_zNeg:UnR X (unaryOp .USub) zNeg:=fun pins s σ H x v Q I rx q=>un_neg pins s σ H x v Q I rx (by cases x<;>first|exact q.elim|exact⟨_,rfl,q⟩)
theorem yv (i:Nat) {x:Str} {pos:Pos} (hN:X.N[i]?=some x:=by rfl) (hv:Vis X.env.scope x:=by first|exact Or.inl rfl|exact Or.inr (Or.inl rfl)|exact Or.inr (Or.inr rfl)) (hd:(x==("__debug__":Str))=false:=by decide)
 (hcd:(x==("__classdict__":Str))=false:=by decide):PE X (.Name x pos) (yVar i):=PE.imp (pv i hN hv hd hcd) fun σ H Q q=>by
 unfold yVar at q
 split at q
 ·rename_i v e
  exact⟨v,e,q⟩
 ·exact q.elim
def yAndV (ta tb:TE):TE:=fun σ H Q=>ta σ H fun x H1=>match x with
 | .bl c=>yBr c (tb σ H1 Q) (Q (.bl false) H1)
 |_=>False
def yOrV (ta tb:TE):TE:=fun σ H Q=>ta σ H fun x H1=>match x with
 | .bl c=>yBr c (Q (.bl true) H1) (tb σ H1 Q)
 |_=>False
def yNotV (ta:TE):TE:=fun σ H Q=>ta σ H fun x H1=>match x with
 | .bl c=>Q (.bl (!c)) H1
 |_=>False
end
def yAnd (t u:TT):TT:=fun σ H Q=>t σ H fun c H1=>yBr c (u σ H1 Q) (Q false H1)
def yChain (r r':R2) (ta tb tc:TE):TE:=fun σ H Q=>ta σ H fun x H1=>tb σ H1 fun y H2=>r x y H2 fun z H3=>match z with
 | .bl k=>yBr k (tc σ H3 fun w' H4=>r' y w' H4 Q) (Q (.bl false) H3)
 |_=>False
section
variable {X:Cx}
theorem yt_val {e:Expr} {t:TE} (h:PE X e t) (he:∀whole,isTrue e X.env whole=(do let v←whole;standAt e.pos;holding [v] (truthy v)):=by intro _;rfl):PT X e (yTst t):=PT.imp (pt_val (PE.up h) he) fun σ H Q q=>⟨_,q,fun x H1 q1=>by
 cases x<;>first|exact False.elim q1|exact⟨_,rfl,q1⟩⟩
theorem yt_cmp {op:CmpOp} {a b:Expr} {ta tb:TE} {r:R2} {pos:Pos} (ho:OpR X (compareOp op) r) (ha:PE X a ta) (hb:PE X b tb) (hm:behindInMarks op b=false):PT X (.Compare a [op] [b] pos) (yTst (tOp r ta tb)):=
 PT.imp (pt_cmpR (OpR.up ho) (PE.up ha) (PE.up hb) hm) fun σ H Q q=>⟨_,q,fun x H1 q1=>⟨_,q1,fun y H2 q2=>⟨_,q2,fun z H3 q3=>by
  cases z<;>first|exact False.elim q3|exact⟨_,rfl,q3⟩⟩⟩⟩
theorem yt_and {a b:Expr} {rest:List Expr} {pos:Pos} {ta tb:TT} (ha:PT X a ta) (hb:PW X (.BoolOp .And (b::rest) pos) tb):PW X (.BoolOp .And (a::b::rest) pos) (yAnd ta tb):=by
 have e:yAnd ta tb=tAnd ta tb:=by
  funext σ H Q
  unfold yAnd tAnd
  simp only[yBr_def]
 rw[e]
 exact pw_and ha hb
theorem yt_or {a b:Expr} {rest:List Expr} {pos:Pos} {ta tb:TT} (ha:PT X a ta) (hb:PW X (.BoolOp .Or (b::rest) pos) tb):PW X (.BoolOp .Or (a::b::rest) pos) (yOr ta tb):=by
 have e:yOr ta tb=tOr ta tb:=by
  funext σ H Q
  unfold yOr tOr
  simp only[yBr_def]
 rw[e]
 exact pw_or ha hb
theorem yt_not {a:Expr} {ta:TT} {pos:Pos} (ha:PT X a ta):PT X (.UnaryOp .Not a pos) (yNot ta):=pt_not ha
theorem ye_if {c a b:Expr} {t:TT} {ta tb:TE} {pos:Pos} (hc:PT X c t) (ha:PE X a ta) (hb:PE X b tb):PE X (.IfExp c a b pos) (yIfE t ta tb):=by
 have e:yIfE t ta tb=tIf t ta tb:=by
  funext σ H Q
  unfold yIfE tIf
  simp only[yBr_def]
 rw[e]
 exact pe_ifExp hc ha hb
theorem ys_if {c:Expr} {a b:List Stmt} {t:TT} {u v:TS} {pos:Pos} (hc:PT X c t) (ha:PSs X a u) (hb:PSs X b v):PS X (.If c a b pos) (yIf t u v):=by
 have e:yIf t u v=tIfS t u v:=by
  funext D σ H
  unfold yIf tIfS
  simp only[yBr_def]
 rw[e]
 exact ps_if hc ha hb
theorem ye_chain {op op':CmpOp} {a b c:Expr} {ta tb tc:TE} {r r':R2} {pos:Pos} (ho:OpR X (compareOp op) r) (ho':OpR X (compareOp op') r') (ha:PE X a ta) (hb:PE X b tb) (hc:PE X c tc)
 (hm:lastMarks [op,op'] [b,c]=false:=by with_unfolding_all rfl):PE X (.Compare a [op,op'] [b,c] pos) (yChain r r' ta tb tc):=
 PE.imp (pe_chain (OpR.up ho) ho' (PE.up ha) (PE.up hb) hc hm) fun σ H Q q=>⟨_,q,fun x H1 q1=>⟨_,q1,fun y H2 q2=>⟨_,q2,fun z H3 q3=>by
  cases z<;>first|exact False.elim q3|skip
  refine⟨_,rfl,?_⟩
  have q4:=q3
  dsimp only at q4
  rw[yBr_def] at q4
  exact q4⟩⟩⟩
theorem yt_chain {op op':CmpOp} {a b c:Expr} {ta tb tc:TE} {r r':R2} {pos:Pos} (ho:OpR X (compareOp op) r) (ho':OpR X (compareOp op') r') (ha:PE X a ta) (hb:PE X b tb) (hc:PE X c tc)
 (hm:lastMarks [op,op'] [b,c]=false:=by with_unfolding_all rfl):PT X (.Compare a [op,op'] [b,c] pos) (yTst (yChain r r' ta tb tc)):=
 PT.imp (pt_chain (OpR.up ho) (OpR.up ho') (PE.up ha) (PE.up hb) (PE.up hc) hm) fun σ H Q q=>⟨_,q,fun x H1 q1=>⟨_,q1,fun y H2 q2=>⟨_,q2,fun z H3 q3=>by
  cases z<;>first|exact False.elim q3|skip
  refine⟨_,rfl,?_⟩
  have q4:=q3
  dsimp only at q4
  rw[yBr_def] at q4
  rename_i k
  cases k with
  |true=>exact⟨_,q4,fun w' H4 q5=>⟨_,q5,fun z' H5 q6=>by
        cases z'<;>first|exact False.elim q6|exact⟨_,rfl,q6⟩⟩⟩
  |false=>exact⟨_,rfl,q4⟩⟩⟩⟩
theorem ye_and {a b:Expr} {rest:List Expr} {pos:Pos} {ta tb:TE} (ha:PE X a ta) (hb:PE X (.BoolOp .And (b::rest) pos) tb):PE X (.BoolOp .And (a::b::rest) pos) (yAndV ta tb):=
 PE.imp (pe_and (PE.up ha) hb) fun σ H Q q=>⟨_,q,fun x H1 q1=>by
  cases x<;>first|exact False.elim q1|skip
  refine⟨_,rfl,?_⟩
  dsimp only at q1
  rw[yBr_def] at q1
  exact q1⟩
theorem ye_or {a b:Expr} {rest:List Expr} {pos:Pos} {ta tb:TE} (ha:PE X a ta) (hb:PE X (.BoolOp .Or (b::rest) pos) tb):PE X (.BoolOp .Or (a::b::rest) pos) (yOrV ta tb):=
 PE.imp (pe_or (PE.up ha) hb) fun σ H Q q=>⟨_,q,fun x H1 q1=>by
  cases x<;>first|exact False.elim q1|skip
  refine⟨_,rfl,?_⟩
  dsimp only at q1
  rw[yBr_def] at q1
  exact q1⟩
theorem ye_not {a:Expr} {pos:Pos} {ta:TE} (ha:PE X a ta):PE X (.UnaryOp .Not a pos) (yNotV ta):=
 PE.imp (pe_not (PE.up ha)) fun σ H Q q=>⟨_,q,fun x H1 q1=>by
  cases x<;>first|exact False.elim q1|skip
  exact⟨_,rfl,q1⟩⟩
end
def yDPut (td ty tv:TE):TS:=fun D σ H=>tv σ H fun v H1=>td σ H1 fun x H2=>ty σ H2 fun y H3=>match x,y with
 | .ref a,.str k=>∃kvs,H3 a=some (.dK kvs)∧kvs.length<sizeLine∧D.nx σ (upd H3 a (.dK (putK kvs (Sum.inr k) v)))
 | .ref a,.int k=>∃kvs,H3 a=some (.dK kvs)∧kvs.length<sizeLine∧D.nx σ (upd H3 a (.dK (putK kvs (Sum.inl k) v)))
 |_,_=>False
section
variable {X:Cx}
theorem ix_zIxL:IxR X (zIxL X.K):=IxR.imp ix_seq fun x y H Q q=>by
 cases x<;>cases y<;>first|exact q.elim|skip
 ·obtain⟨h,c,h2,q⟩:=q
  exact .inr (.inr ⟨_,_,c,rfl,rfl,h,h2,q⟩)
 ·obtain⟨xs,v,h,h2,q⟩:=q
  rcases h with h|h
  ·exact .inl ⟨_,xs,_,v,rfl,rfl,h,h2,q⟩
  ·exact .inr (.inl ⟨_,xs,_,v,rfl,rfl,h,h2,q⟩)
theorem ye_dget {o i:Expr} {td ty:TE} {pos:Pos} (hu:X.A.units+1<cLine) (ho:PE X o td) (hi:PE X i ty) (hs:NoSl i):PE X (.Subscript o i pos) (yDGet td ty):=
 PE.imp (pe_dget hu (PE.up ho) (PE.up hi) hs) fun σ H Q q=>⟨_,q,fun x H1 q1=>⟨_,q1,fun y H2 q2=>by
  cases x<;>cases y<;>first|exact False.elim q2|skip
  all_goals
   obtain⟨kvs,v,h1,h2,q3⟩:=q2
  ·exact⟨_,v,rfl,.inl ⟨kvs,Sum.inl _,h1,rfl,h2.symm⟩,q3⟩
  ·exact⟨_,v,rfl,.inl ⟨kvs,Sum.inr _,h1,rfl,h2.symm⟩,q3⟩⟩⟩
theorem ys_dput {o i value:Expr} {td ty tv:TE} {pos pos':Pos} (hu:X.A.units+1<cLine) (ho:PE X o td) (hi:PE X i ty) (hv:PE X value tv) (hs:swapsWith value (some (.Subscript o i pos')) pos.line X.env=pure false):
 PS X (.Assign [.Subscript o i pos'] value pos) (yDPut td ty tv):=PS.imp (ps_dput hu (PE.up ho) (PE.up hi) (PE.up hv) hs) fun D σ H q=>⟨_,q,fun v H1 q1=>⟨_,q1,fun x H2 q2=>⟨_,q2,fun y H3 q3=>by
 cases x<;>cases y<;>first|exact False.elim q3|skip
 all_goals
  obtain⟨kvs,h1,h2,q4⟩:=q3
 ·exact⟨_,_,rfl,.inl ⟨kvs,Sum.inl _,h1,rfl,h2,rfl⟩,q4⟩
 ·exact⟨_,_,rfl,.inl ⟨kvs,Sum.inr _,h1,rfl,h2,rfl⟩,q4⟩⟩⟩⟩
end
def yPutF (P:Addr→Prop) (ta tv:TE) (f:Str):TS:=fun D σ H=>tv σ H fun y H1=>ta σ H1 fun x H2=>match x with
 | .ref a=>∃C dx fs,H2 a=some (.ins C dx fs)∧P C∧fs.length<1000∧D.nx σ (upd H2 a (.ins C dx (putF f y fs)))
 |_=>False
def yAugF (P:Addr→Prop) (ta tv:TE) (rd:R2) (f:Str):TS:=fun D σ H=>ta σ H fun x H1=>match x with
 | .ref a=>∃C dx fs v,H1 a=some (.ins C dx fs)∧P C∧fs.lookup f=some v∧tv σ H1 fun y H2=>rd v y H2 fun z H3=>∃dx' fs',H3 a=some (.ins C dx' fs')∧fs'.length<1000∧D.nx σ (upd H3 a (.ins C dx' (putF f z fs')))
 |_=>False
section
variable {X:Cx}
theorem ye_fld {P:Addr→Prop} {e:Expr} {ta:TE} {f:Str} {pos:Pos} (hP:∀C,P C→Cls X.K C∧NoAttr X.K C f) (he:PE X e ta) (hb:attributeBase e f X.env (eval e X.env)=eval e X.env):PE X (.Attribute e f pos) (yFld P ta f):=
 PE.imp (pe_fld (PE.up he) hb) fun σ H Q q=>⟨_,q,fun x H1 q1=>by
  cases x<;>first|exact False.elim q1|skip
  obtain⟨C,dx,fs,v,h1,h2,h3,q2⟩:=q1
  exact⟨_,C,dx,fs,v,rfl,h1,(hP C h2).1,(hP C h2).2,h3,q2⟩⟩
theorem ys_fld {P:Addr→Prop} {o value:Expr} {ta tv:TE} {f:Str} {pos pos':Pos} (hP:∀C,P C→Cls X.K C∧NoAttr X.K C f) (ha:PE X o ta) (hv:PE X value tv) (hs:swapsWith value (some (.Attribute o f pos')) pos.line X.env=pure false):
 PS X (.Assign [.Attribute o f pos'] value pos) (yPutF P ta tv f):=PS.imp (ps_fld (PE.up ha) (PE.up hv) hs) fun D σ H q=>⟨_,q,fun y H1 q1=>⟨_,q1,fun x H2 q2=>by
 cases x<;>first|exact False.elim q2|skip
 obtain⟨C,dx,fs,h1,h2,h3,q3⟩:=q2
 exact⟨_,C,dx,fs,rfl,h1,(hP C h2).1,(hP C h2).2,h3,q3⟩⟩⟩
end
structure PSrc (X:Cx) (tg iter:Expr) (src:Src):Prop where
 wi:∃wi:TI,PI X tg iter wi∧∀σ H (R:It→Hp→Prop) (R':Rsrc),src σ H R'→(∀n G Y H1,R' n G Y H1→∀J,Walk J n G Y→R J H1)→wi σ H R
def jLst (K:Kf) (tl:TE):Src:=fun σ H R=>tl σ H fun x H1=>match x with
 | .ref a=>∃xs,SqL K H1 a xs∧R xs.length (fun H=>SqL K H a xs) (YAt xs) H1
 |_=>False
def jTup (K:Kf) (tl:TE):Src:=fun σ H R=>tl σ H fun x H1=>match x with
 | .ref a=>∃xs,SqT K H1 a xs∧R xs.length (fun H=>SqT K H a xs) (YAt xs) H1
 |_=>False
def jStr (tl:TE):Src:=fun σ H R=>tl σ H fun x H1=>match x with
 | .str z=>R z.cps.size (fun _=>True) (fun i H v H'=>H'=H∧∃c,z.cps[i]?=some c∧v= .str ⟨#[c]⟩) H1
 |_=>False
def jEnum (K:Kf) (tl:TE):Src:=fun σ H R=>tl σ H fun x H1=>match x with
 | .ref a=>∃xs,SqL K H1 a xs∧R xs.length (fun H=>SqL K H a xs) (YPair (fun i=>some (.int (i:Nat))) (fun i=>xs[i]?)) H1
 |_=>False
theorem lc_ends {n:Nat} {G:Hp→Prop} {Y:Nat→Hp→V→Hp→Prop} {J:It} (w:Walk J n G Y) {g:TG} {tt:TT} {te:TE} {vs:List Nat} {σ:L2.St} {H1:Hp} (D:Addr) {Qd:VK}
 (h:∃Pv:Nat→List V→Hp→Prop,Pv 0 [] (upd H1 D (.lst []))∧(∀i acc H,i≤n→Pv i acc H→G H∧H D=some (.lst acc)∧acc.length<sizeLine)∧
  (∀i x acc H H',i<n→Pv i acc H→Y i H x H'→g x (wipe σ vs) H' fun σ2 H2=>wipe σ2 vs=wipe σ vs∧tt σ2 H2 fun b H3=>
        yBr b (te σ2 H3 fun y H4=>H4 D=some (.lst acc)∧Pv (i+1) (acc++ [y]) (upd H4 D (.lst (acc++ [y])))) (Pv (i+1) acc H3))∧∀acc H,Pv n acc H→Qd (.ref D) H):
 ∃W:Nat→Nat→Hp→Prop,(∃m,W 0 m (upd H1 D (.lst [])))∧∀i m H,W i m H→
  (J.stop i H∧Qd (.ref D) H)∨(J.go i H∧∃Nx:Hp→Prop,(∀H',Nx H'→∃m',m'<m∧W (i+1) m' H')∧∀x H',J.yld i H x H'→upG g x (wipe σ vs) H' fun σ2 H2=>wipe σ2 vs=wipe σ vs∧upT tt σ2 H2 fun b H3=>
   if b=true then upE te σ2 H3 fun y H4=>∃acc,H4 D=some (.lst acc)∧acc.length<sizeLine∧Nx (upd H4 D (.lst (acc++ [y]))) else Nx H3):=by
 obtain⟨Pv,h0,hG,ht,hd⟩:=h
 refine lc_it w (fun i H=>∃acc,Pv i acc H) ⟨[],h0⟩ (fun i H hi ⟨acc,p⟩=>(hG i acc H hi p).1) (fun i x H H' hi ⟨acc,p⟩ y=> ?_) fun H ⟨acc,p⟩=>hd acc H p
 have hl:acc.length<sizeLine:=(hG i acc H (Nat.le_of_lt hi) p).2.2
 refine⟨_,ht i x acc H H' hi p y,fun σ2 H2 ⟨e,q⟩=>⟨e,_,q,fun b H3 q=> ?_⟩⟩
 rw[yBr_def] at q
 cases b with
 |true=>exact⟨_,q,fun v H4 ⟨q1,q2⟩=>⟨acc,q1,hl,_,q2⟩⟩
 |false=>exact⟨acc,q⟩
section
variable {X:Cx} {tg iter:Expr}
theorem ys_for {src:Src} {g:TG} {tb:TS} {body:List Stmt} {pos:Pos} (hp:PassesOwn (model X.prog X.w) X.A X.env X.xe) (hc:X.calm=true) (hi:PSrc X tg iter src) (hg:PG X tg g) (hb:PSs X body tb)
 (hs:∀x,foldedSetIterable iter X.env x=pure x:=by intro _;rfl):PS X (.For tg iter body [] pos) (yFor src g tb):=by
 obtain⟨wi,h,k⟩:=hi.wi
 refine PS.imp (ps_for hp hc h hg hb hs) fun D σ H q=>k σ H _ _ q fun n G Y H1 ⟨Pv,h0,hG,ht,hd⟩ J w=> ?_
 exact for_it w Pv h0 hG ht hd
theorem ye_lc {src:Src} {g:TG} {tt:TT} {te:TE} {elt:Expr} {ifs:List Expr} {scope:Scope} {own:List (Str × Nat)} {pos:Pos} (hc:X.calm=true) (hN:X.N.Nodup) (hi:PSrc X tg iter src) (ok:BlkOk X.N X.env.scope scope own)
 (hg:∀(s:Shared) (H:Hp) (C:Addr) (cl:List (Str × Addr)) (fp:List Addr),PG (X.blk s H scope (compEnvC scope cl C X.env) fp) tg g) (ht:∀(s:Shared) (H:Hp) (C:Addr) (cl:List (Str × Addr)) (fp:List Addr),PTs (X.blk s H scope (compEnvC scope cl C X.env) fp) ifs tt)
 (he:∀(s:Shared) (H:Hp) (C:Addr) (cl:List (Str × Addr)) (fp:List Addr),PE (X.blk s H scope (compEnvC scope cl C X.env) fp) elt te) (hs:∀x,foldedSetIterable iter X.env x=pure x:=by intro _;rfl):
 PE X (.ListComp elt [⟨tg,iter,ifs,0⟩] scope pos) (yLc src g tt te (own.map (·.2))):=by
 obtain⟨wi,h,k⟩:=hi.wi
 refine PE.imp (pe_lc hc hN h ok (fun s H C cl fp=>PG.up (hg s H C cl fp)) (fun s H C cl fp=>PTs.up (ht s H C cl fp)) (fun s H C cl fp=>PE.up (he s H C cl fp)) hs) fun σ H Q q=>k σ H _ _ q fun n G Y H1 hh J w D hD=> ?_
 exact lc_ends w D (hh D hD)
theorem j_lst {l:Expr} {tl:TE} (h:PE X l tl):PSrc X tg l (jLst X.K tl):=⟨_,pi_list (PE.up h),fun σ H R R' q k=>⟨_,q,fun x H1 q1=>by
 cases x<;>first|exact False.elim q1|skip
 obtain⟨xs,h1,q2⟩:=q1
 exact⟨_,rfl,⟨xs,h1⟩,k _ _ _ _ q2 _ walk_list⟩⟩⟩
theorem j_tup {l:Expr} {tl:TE} (h:PE X l tl):PSrc X tg l (jTup X.K tl):=⟨_,pi_tup (PE.up h),fun σ H R R' q k=>⟨_,q,fun x H1 q1=>by
 cases x<;>first|exact False.elim q1|skip
 obtain⟨xs,h1,q2⟩:=q1
 exact⟨_,rfl,⟨xs,h1⟩,k _ _ _ _ q2 _ walk_tup⟩⟩⟩
theorem j_str {l:Expr} {tl:TE} (h:PE X l tl):PSrc X tg l (jStr tl):=⟨_,pi_str (PE.up h),fun σ H R R' q k=>⟨_,q,fun x H1 q1=>by
 cases x<;>first|exact False.elim q1|skip
 exact⟨_,rfl,k _ _ _ _ q1 _ walk_str⟩⟩⟩
theorem j_rng {a:Expr} {ta:TE} {p pos:Pos} (hg:Gl X "range") (hm:X.mg "range"=none) (h:PE X a ta) (hs:starEach [a] X.env= [(false,eval a X.env)]:=by rfl):PSrc X tg (.Call (.Name "range" p) [a] [] pos) (jRng ta):=⟨_,pi_range1 hg hm (pa_cons (PE.up h) pa_nil hs) hs,fun σ H R R' q k=>⟨_,q,fun x H1 q1=>by
 cases x<;>first|exact False.elim q1|skip
 obtain⟨h1,h2,q2⟩:=q1
 exact⟨_,rfl,h1,h2,k _ _ _ _ q2 _ walk_range⟩⟩⟩
theorem j_enum {e:Expr} {te:TE} {p pos tpos:Pos} {elts:List Expr} {kk:Nat} (hg:Gl X "enumerate") (hm:X.mg "enumerate"=none) (h:PE X e te) (hs:starEach [e] X.env= [(false,eval e X.env)]:=by rfl):PSrc X (.Tuple elts kk tpos) (.Call (.Name "enumerate" p) [e] [] pos) (jEnum X.K te):=⟨_,pi_enum hg hm (pa_cons (PE.up h) pa_nil hs) hs,fun σ H R R' q k=>⟨_,q,fun x H1 q1=>by
 cases x<;>first|exact False.elim q1|skip
 obtain⟨xs,h1,q2⟩:=q1
 exact⟨_,xs,rfl,h1,k _ _ _ _ q2 _ walk_enum⟩⟩⟩
end
def yWhile (c:TT) (tb:TS):TS:=fun D σ H=>∃Pv:Nat→L2.St→Hp→Prop,(∃m,Pv m σ H)∧∀m σ H,Pv m σ H→c σ H fun b H1=>
 yBr b (tb {D with nx:=fun σ' H'=>∃m',m'<m∧Pv m' σ' H',ct:=fun σ' H'=>∃m',m'<m∧Pv m' σ' H',bk:=D.nx} σ H1) (D.nx σ H1)
theorem ys_while {X:Cx} {c:Expr} {body:List Stmt} {tc:TT} {tb:TS} {pos:Pos} (hp:PassesOwn (model X.prog X.w) X.A X.env X.xe) (hc:PT X c tc) (hb:PSs X body tb):PS X (.While c body [] pos) (yWhile tc tb):=
 PS.imp (ps_while hp (PT.up hc) hb) fun D σ H ⟨Pv,h0,h⟩=>⟨Pv,h0,fun m σ1 H1 p=>⟨_,h m σ1 H1 p,fun b H2 q=>by
  rw[yBr_def] at q
  cases b with
  |true=>exact⟨fun σ' H'=>∃m',m'<m∧Pv m' σ' H',fun σ' H' z=>z,q⟩
  |false=>exact q⟩⟩
def yCut (t u:TS):TS:=fun D σ H=>∃Mid:L2.St→Hp→Prop,t {D with nx:=Mid} σ H∧∀σ' H',Mid σ' H'→u D σ' H'
theorem ys_cut {X:Cx} {st:Stmt} {rest:List Stmt} {t u:TS} (h1:PS X st t) (h2:PSs X rest u):PSs X (st::rest) (yCut t u):=by
 refine⟨fun pins s σ H D I ⟨Mid,q1,q2⟩=>wpAny_execs_cons (thn (h1.run pins s σ H {D with nx:=Mid} I q1) fun f s1 q=> ?_)⟩
 cases f with
 |next=>
  obtain⟨σ',H',I',m⟩:=q
  exact h2.run pins s1 σ' H' D I' (q2 σ' H' m)
 |brk=>exact q
 |cont=>exact q
 |ret u=>exact q
structure Blt (mg:Str→Option Value):Prop where
 abs:mg "abs"=none
 all:mg "all"=none
 dict:mg "dict"=none
 enumerate:mg "enumerate"=none
 int:mg "int"=none
 isinstance:mg "isinstance"=none
 len:mg "len"=none
 list:mg "list"=none
 max:mg "max"=none
 min:mg "min"=none
 range:mg "range"=none
 repr:mg "repr"=none
 set:mg "set"=none
 sorted:mg "sorted"=none
 str:mg "str"=none
 sum:mg "sum"=none
 super:mg "super"=none
 tuple:mg "tuple"=none
 zip:mg "zip"=none
 ve:mg "ValueError"=none
 te:mg "TypeError"=none
def zAbs:List V→Hp→VK→Prop:=fun xs H Q=>match xs with
 |[.int i]=>Q (.int (if i<0 then-i else i)) H
 |_=>False
def zMin:List V→Hp→VK→Prop:=fun xs H Q=>match xs with
 |[.int i,.int j]=>Q (.int (if j<i then j else i)) H
 |_=>False
def zAll (K:Kf):List V→Hp→VK→Prop:=fun xs H Q=>match xs with
 |[.ref a]=>∃bs:List Bool,SqL K H a (bs.map V.bl)∧Q (.bl (bs.all id)) H
 |_=>False
section
variable {X:Cx}
theorem cr_int:CallR X (.type "int") zInt:=CallR.imp call_int1 fun xs H Q q=>by
 unfold zInt at q
 split at q
 ·exact .inl ⟨_,rfl,q⟩
 ·exact .inr ⟨_,rfl,q⟩
 ·exact q.elim
theorem cr_abs:CallR X (.builtin "abs") zAbs:=CallR.imp call_abs fun xs H Q q=>by
 unfold zAbs at q
 split at q
 ·exact⟨_,rfl,q⟩
 ·exact q.elim
theorem cr_len:CallR X (.builtin "len") (zLen X.K):=CallR.imp call_len fun xs H Q q=>by
 unfold zLen at q
 split at q
 ·obtain⟨ys,h|h,q⟩:=q
  ·exact⟨_,_,rfl,.inl ⟨ys,h,rfl⟩,q⟩
  ·exact⟨_,_,rfl,.inr ⟨ys,h,rfl⟩,q⟩
 ·exact⟨_,_,rfl,⟨q.1,rfl⟩,q.2⟩
 ·exact q.elim
theorem cr_list:CallR X (.type "list") (zList X.K):=CallR.imp call_list_of fun xs H Q q=>by
 unfold zList at q
 split at q
 ·obtain⟨ys,h,q⟩:=q
  exact⟨_,ys,rfl,h,q⟩
 ·exact q.elim
theorem cr_tuple:CallR X (.type "tuple") (zTuple X.K):=CallR.imp call_tuple_of fun xs H Q q=>by
 unfold zTuple at q
 split at q
 ·obtain⟨ys,q⟩:=q
  exact⟨_,ys,rfl,q⟩
 ·exact q.elim
theorem cr_min (hc:X.calm=true):CallR X (.builtin "min") zMin:=CallR.imp (call_min2 hc) fun xs H Q q=>by
 unfold zMin at q
 split at q
 ·exact⟨_,_,rfl,q⟩
 ·exact q.elim
end
def zApp:V→List V→Hp→VK→Prop:=fun x vs H Q=>match x,vs with
 | .ref l,[y]=>∃xs,H l=some (.lst xs)∧xs.length<sizeLine∧Q .non (upd H l (.lst (xs++ [y])))
 |_,_=>False
def zPopAt:V→List V→Hp→VK→Prop:=fun x vs H Q=>match x,vs with
 | .ref l,[.int i]=>∃xs k y,H l=some (.lst xs)∧ -(2^63)≤i∧i<2^63∧seqIndex? i xs.length=some k∧xs[k]?=some y∧Q y (upd H l (.lst (xs.eraseIdx k)))
 |_,_=>False
def zJoin (K:Kf):V→List V→Hp→VK→Prop:=fun x xs H Q=>match x,xs with
 | .str a,[.ref p]=>∃ys:List Str,(SqL K H p (ys.map V.str)∨SqT K H p (ys.map V.str))∧(ys.map (·.length)).sum+ys.length*a.length≤16777216∧Q (.str (Txt.join a ys)) H
 |_,_=>False
section
variable {X:Cx}
theorem mt_zApp:MtR X "list.append" zApp:=MtR.imp mt_append fun x xs H Q q=>by
 unfold zApp at q
 split at q
 ·obtain⟨xs,h1,h2,q⟩:=q
  exact⟨_,xs,_,rfl,rfl,h1,h2,q⟩
 ·exact q.elim
theorem mt_zPopAt:MtR X "list.pop" zPopAt:=MtR.imp mt_popAt fun x xs H Q q=>by
 unfold zPopAt at q
 split at q
 ·obtain⟨xs,k,y,h1,h2,h3,h4,h5,q⟩:=q
  exact⟨_,xs,_,k,y,rfl,rfl,h1,h2,h3,h4,h5,q⟩
 ·exact q.elim
theorem mt_zJoin:MtR X "str.join" (zJoin X.K):=MtR.imp mt_join fun x xs H Q q=>by
 unfold zJoin at q
 split at q
 ·obtain⟨ys,h1,h2,q⟩:=q
  exact⟨_,_,ys,rfl,rfl,h1,h2,q⟩
 ·exact q.elim
theorem mt_zSplit:MtR X "str.split" zSplit:=MtR.imp mt_split fun x xs H Q q=>by
 unfold zSplit at q
 split at q
 ·obtain⟨h1,h2,q⟩:=q
  exact⟨_,_,rfl,rfl,h1,h2,q⟩
 ·exact q.elim
end
def zSlT (K:Kf):V→Option Int→Option Int→Hp→VK→Prop:=fun x lo hi H Q=>match x with
 | .ref a=>∃xs,SqT K H a xs∧(HT.sIx xs.length 0 lo=0∧HT.sIx xs.length xs.length hi=xs.length→Q (.ref a) H)∧
   (¬(HT.sIx xs.length 0 lo=0∧HT.sIx xs.length xs.length hi=xs.length)→∀p,H p=none→Q (.ref p) (upd H p (.tup (cutV xs lo hi))))
 |_=>False
section
variable {X:Cx}
theorem sl_zL:SlR X (zSlL X.K):=SlR.imp sl_list fun x lo hi H Q q=>by
 cases x<;>first|exact q.elim|skip
 obtain⟨xs,h,q⟩:=q
 exact⟨_,xs,rfl,h,q⟩
theorem sl_zT:SlR X (zSlT X.K):=SlR.imp sl_tupA fun x lo hi H Q q=>by
 cases x<;>first|exact q.elim|skip
 obtain⟨xs,h,q⟩:=q
 exact⟨_,xs,rfl,h,q⟩
end
theorem ys_par {X:Cx} {i j:Nat} {st:Stmt} {ta:TA} (h:PS X st (tPar i j (upA ta))):PS X st (yPar i j ta):=
 PS.imp h fun D σ H q=>⟨_,q,fun vs H1 q1=>by
  match vs,q1 with
  |[v,w],q1=>exact⟨v,w,rfl,q1⟩⟩
structure Cal (P:Program) (w:World) (K:Kf) (mg:Str→Option Value) (base:Heap) (x:Str) (k:Nat) (ps:List Str) (sp:Sp):Prop where
 ex:∃f fd,FnOk P w K mg base (L2.CX P w) k f fd ps sp∧mg x=some (.ref f)∧PySem.W.keepIn K (.ref f)=true∧Binds K fd ps []
abbrev yCallS (sp:Sp) (W:WX) (t:TA):TE:=fun σ H Q=>t σ H fun vs H1=>sp vs H1 Q fun cls d H'=>W cls d σ H'
section
variable {X:Cx} {x:Str} {k:Nat} {ps:List Str} {sp:Sp} {t:TA} {e:Expr} {es:List Expr} {p pos:Pos}
theorem ye_call (F:Cal X.prog X.w X.K X.mg X.base x k ps sp) (hr:Room k X.A) (hg:Gl X x) (ha:PA X (e::es) t) (hdb:(x==("__debug__":Str))=false:=by decide)
 (he:starEach (e::es) X.env=(false,eval e X.env)::starEach es X.env:=by rfl) (hpl:(backTo pos (starEach es X.env)).any (·.1)=false:=by rfl):PE X (.Call (.Name x p) (e::es) [] pos) (yCall sp E0 t):=by
 obtain⟨f,fd,h1,h2,h3,h4⟩:=F.ex
 exact PE.imp (pe_call h1 hr hg h2 h3 h4 .nil passL (PA.up ha) hdb he hpl) fun σ H Q q=>⟨_,q,fun vs H' q'=>by
  show sp (vs++ []) H' Q E0
  rw[z26]
  exact q'⟩
theorem ye_call0 (F:Cal X.prog X.w X.K X.mg X.base x k ps sp) (hr:Room k X.A) (hg:Gl X x) (hdb:(x==("__debug__":Str))=false:=by decide):PE X (.Call (.Name x p) [] [] pos) (yCall sp E0 tNil):=by
 obtain⟨f,fd,h1,h2,h3,h4⟩:=F.ex
 exact pe_call0 h1 hr hg h2 h3 h4 .nil passL hdb
theorem ye_callS {W:WX} (F:Cal X.prog X.w X.K X.mg X.base x k ps sp) (tk:Takes X W) (hr:Room k X.A) (hg:Gl X x) (ha:PA X (e::es) t) (hdb:(x==("__debug__":Str))=false:=by decide)
 (he:starEach (e::es) X.env=(false,eval e X.env)::starEach es X.env:=by rfl) (hpl:(backTo pos (starEach es X.env)).any (·.1)=false:=by rfl):PE X (.Call (.Name x p) (e::es) [] pos) (yCallS sp W t):=by
 obtain⟨f,fd,h1,h2,h3,h4⟩:=F.ex
 exact pe_callS h1 hr hg h2 h3 h4 (fun σ=>passAt tk σ) ha hdb he hpl
end
theorem Kp.back {H H':Hp} (k:Kp H H') {b:Addr} (h:H' b=none):H b=none:=by
 cases e:H b with
 |none=>rfl
 |some o=>
  obtain⟨o',e',_⟩:=k b o e
  rw[h] at e'
  cases e'
theorem Kp.sqL {K:Kf} {H H':Hp} {a:Addr} {xs:List V} (e:Kp H H') (h:SqL K H a xs):SqL K H' a xs:=by
 rcases h with(h|⟨o,h⟩)|h
 ·exact .inl (.inl (e.lst h))
 ·exact .inl (.inr ⟨o,e.frz h⟩)
 ·exact .inr h
theorem kc1: ¬(("cells":Str)= "turn"):=by decide+kernel
theorem kc2: ¬(("cells":Str)= "left"):=by decide+kernel
theorem kc3: ¬(("turn":Str)= "left"):=by decide+kernel
theorem kc6: ¬(("left":Str)= "turn"):=by decide+kernel
section
variable {c:Addr} {t l i:Int}
theorem pen_cells:valV (penKvs c t l) (Sum.inr "cells")=some (.ref c):=by simp[valV,penKvs]
theorem pen_turn:valV (penKvs c t l) (Sum.inr "turn")=some (.int t):=by simp[valV,penKvs,kc1]
theorem pen_left:valV (penKvs c t l) (Sum.inr "left")=some (.int l):=by simp[valV,penKvs,kc2,kc3]
theorem pen_putL:putK (penKvs c t l) (Sum.inr "left") (.int i)=penKvs c t i:=by simp[putK,penKvs,kc2,kc3]
theorem pen_putT:putK (penKvs c t l) (Sum.inr "turn") (.int i)=penKvs c i l:=by simp[putK,penKvs,kc1,kc6]
theorem pen_small:(penKvs c t l).length<sizeLine:=by show 3<sizeLine;decide
end
theorem shaped_flatL {xs:List V} (h:xs.all okV=true):SeqAt.shaped (.list (xs.map dataV))=true:=by
 show(PyData.canLayAll0 (xs.map dataV)&&decide (PyData.depthAll (xs.map dataV)+1≤64))=true
 rw[lay_flat h,depth_flat]<;>rfl
theorem shaped_flatT {xs:List V} (h:xs.all okV=true):SeqAt.shaped (.tuple (xs.map dataV))=true:=by
 show(PyData.canLayAll0 (xs.map dataV)&&decide (PyData.depthAll (xs.map dataV)+1≤64))=true
 rw[lay_flat h,depth_flat]<;>rfl
theorem all_ints {ns:List Int}:(ns.map V.int).all flatV=true:=by simp[flatV]
theorem ok_ints {ns:List Int}:(ns.map V.int).all okV=true:=by simp[okV]
def N_draw:List Str:= ["_law_pen","_law_span","_law_digit","_law_turn","_law_cell","_law_mixed"]
def t_draw (K:Kf) (E:XK):TS:=
 (tSeq (yIf (yTst (tOp zGt (yDGet (yVar 0) (tC (.str "left"))) (tC (.int 0)))) (tSeq (tAsg (tOp zMod (tCB zInt (tCons (yDGet (yVar 0) (tC (.str "left"))) tNil)) (yVar 1)) (gName 2))
    (tSeq (yDPut (yVar 0) (tC (.str "left")) (tOp zDiv (yDGet (yVar 0) (tC (.str "left"))) (yVar 1)))
    (tRet (yVar 2)))) tNext)
    (tSeq (tAsg (yDGet (yVar 0) (tC (.str "turn"))) (gName 3))
    (tSeq (yDPut (yVar 0) (tC (.str "turn")) (tOp zAdd (yVar 3) (tC (.int 1))))
    (tSeq (tAsg (tOp zAdd (tOp zMul (tC (.int 61)) (yVar 3)) (tC (.int 13))) (gName 4))
    (yCut (yIf (yTst (tOp (zNeD K) (yDGet (yVar 0) (tC (.str "cells"))) (tLst tNil))) (tAsg (tOp (zIxL K) (yDGet (yVar 0) (tC (.str "cells"))) (tOp zMod (tCB zInt (tCons (yVar 3) tNil)) (tCB (zLen K) (tCons (yDGet (yVar 0) (tC (.str "cells"))) tNil)))) (gName 4)) tNext)
    (tSeq (yIf (yAnd (yTst (tOp zLt (yVar 3) (tCB (zLen K) (tCons (yDGet (yVar 0) (tC (.str "cells"))) tNil)))) (yTst (tOp zGe (tCB zAbs (tCons (yVar 4) tNil)) (tOp zPow (tC (.int 10)) (tC (.int 18)))))) (tSeq (yDPut (yVar 0) (tC (.str "left")) (tOp zDiv (tOp zSub (tCB zAbs (tCons (yVar 4) tNil)) (tOp zPow (tC (.int 10)) (tC (.int 18)))) (yVar 1)))
    (tRet (tOp zMod (tCB zInt (tCons (tOp zSub (tCB zAbs (tCons (yVar 4) tNil)) (tOp zPow (tC (.int 10)) (tC (.int 18)))) tNil)) (yVar 1)))) tNext)
    (tSeq (tAsg (tOp zMul (tOp zMod (tCB zInt (tCons (yVar 4) tNil)) (tC (.int 4294967087))) (tC (.int 48611))) (gName 5))
    (tSeq (tAsg (tOp zMod (tCB zInt (tCons (tOp zAdd (tOp zAdd (yVar 5) (tOp zMul (yVar 3) (tOp zAdd (tOp zMul (yVar 3) (tC (.int 27919))) (tC (.int 10601))))) (tC (.int 41))) tNil)) (tC (.int 4294967029))) (gName 5))
    (tSeq (tAsg (tOp zMod (tCB zInt (tCons (tOp zMul (yVar 5) (tOp zAdd (yVar 5) (tC (.int 75013)))) tNil)) (tC (.int 4294966997))) (gName 5))
    (tSeq (tAsg (tOp zMod (tCB zInt (tCons (tOp zAdd (tOp zAdd (tOp zMul (yVar 5) (yVar 5)) (tOp zMul (tC (.int 30427)) (yVar 5))) (tOp zMul (tC (.int 19)) (yVar 3))) tNil)) (tC (.int 4294966981))) (gName 5))
    (tRet (tOp zMod (tCB zInt (tCons (tOp zDiv (tOp zMod (tCB zInt (tCons (tOp zMul (yVar 5) (tOp zAdd (yVar 5) (tC (.int 58111)))) tNil)) (tC (.int 4294966943))) (tC (.int 64))) tNil)) (yVar 1)))))))))))))
def t_draw_end:TS:=
    (tSeq (tAsg (tOp zMul (tOp zMod (tCB zInt (tCons (yVar 4) tNil)) (tC (.int 4294967087))) (tC (.int 48611))) (gName 5))
    (tSeq (tAsg (tOp zMod (tCB zInt (tCons (tOp zAdd (tOp zAdd (yVar 5) (tOp zMul (yVar 3) (tOp zAdd (tOp zMul (yVar 3) (tC (.int 27919))) (tC (.int 10601))))) (tC (.int 41))) tNil)) (tC (.int 4294967029))) (gName 5))
    (tSeq (tAsg (tOp zMod (tCB zInt (tCons (tOp zMul (yVar 5) (tOp zAdd (yVar 5) (tC (.int 75013)))) tNil)) (tC (.int 4294966997))) (gName 5))
    (tSeq (tAsg (tOp zMod (tCB zInt (tCons (tOp zAdd (tOp zAdd (tOp zMul (yVar 5) (yVar 5)) (tOp zMul (tC (.int 30427)) (yVar 5))) (tOp zMul (tC (.int 19)) (yVar 3))) tNil)) (tC (.int 4294966981))) (gName 5))
    (tRet (tOp zMod (tCB zInt (tCons (tOp zDiv (tOp zMod (tCB zInt (tCons (tOp zMul (yVar 5) (tOp zAdd (yVar 5) (tC (.int 58111)))) tNil)) (tC (.int 4294966943))) (tC (.int 64))) tNil)) (yVar 1)))))))
abbrev dEnd (Q:VK):Ends:={nx:=fun _ H'=>Q .non H',rt:=Q}
theorem pow18:CPow 10 18:=by unfold CPow;decide
theorem small_mod {x m:Int} (h:0<m) (h2:m<2^40): -(2^64)<x%m∧x%m<2^64:=by
 have h1:=Int.emod_nonneg x (Int.ne_of_gt h)
 have h3:=Int.emod_lt_of_pos x h
 omega
theorem pure_draw {K:Kf} {vs:List V} {H:Hp} {Q:VK} {E:XK} (h:sp_draw K vs H Q E):t_draw K E (dEnd Q) (start N_draw vs) H:=by
 obtain⟨p,c,n,s,rfl,hP,hn2,hs,hs2,k⟩:=h
 obtain⟨t,l,ns,hp,hc,h0,hn⟩:=hP.ex
 have hcp:c≠p:=ne_of hc hp (by intro z;cases z)
 have kpm:∀{H1:Hp} o,Kp H H1→Kp H (upd H1 p o):=fun{H1} o k b u e=>by
  by_cases hb:b=p
  ·subst hb
   refine⟨o,upd_same,fun n=> ?_⟩
   rw[hp] at e
   cases e
   exact absurd ⟨_,_,_,rfl⟩ n
  ·rw[upd_ne hb]
   exact k b u e
 have kp:∀o,Kp H (upd H p o):=fun o=>kpm o (Kp.refl H)
 have fin:∀(t' l' r:Int),0≤t'→t'≤(n+1:Nat)→∀H',Kp H H'→H' p=some (.dK (penKvs c t' l'))→0≤r→r<s→Q (.int r) H':=fun t' l' r h1 h2 H' k' e h3 h4=>
  k r H' h3 h4 k' ⟨t',l',ns,e,k'.lst hc,h1,h2⟩
 refine⟨_,_,.inl hp,pen_left,brD (fun hl=> ?_) fun hl=> ?_⟩
 ·refine⟨_,_,.inl hp,pen_left,hs,_,_,.inl hp,pen_left,⟨hs,hs2⟩,_,hp,pen_small,?_⟩
  exact fin t (l/s) (l%s) h0 (by omega) _ (kp _) (by rw[upd_same,pen_putL]) (Int.emod_nonneg _ (Int.ne_of_gt hs)) (Int.emod_lt_of_pos _ hs)
 ·have q1:∀v:V,(upd H p (.dK (putK (penKvs c t l) (Sum.inr "turn") v))) p=some (.dK (putK (penKvs c t l) (Sum.inr "turn") v)):=fun v=>upd_same
  refine⟨_,_,.inl hp,pen_turn,_,hp,pen_small,?_⟩
  have e1:(upd H p (.dK (putK (penKvs c t l) (Sum.inr "turn") (.int (t+1))))) p=some (.dK (penKvs c (t+1) l)):=by rw[upd_same,pen_putT]
  have e2:(upd H p (.dK (putK (penKvs c t l) (Sum.inr "turn") (.int (t+1))))) c=some (.lst (ns.map V.int)):=by rw[upd_ne hcp];exact hc
  have k1:=kp (.dK (putK (penKvs c t l) (Sum.inr "turn") (.int (t+1))))
  generalize upd H p (.dK (putK (penKvs c t l) (Sum.inr "turn") (.int (t+1))))=H1 at e1 e2 k1⊢
  have ht: -(2^64)<t∧t<2^64:=by omega
  refine⟨.inr ht,fun σ' H'=>∃x:Int,σ'= [some (.ref p),some (.int s),none,some (.int t),some (.int x),none]∧Kp H H'∧H' p=some (.dK (penKvs c (t+1) l))∧H' c=some (.lst (ns.map V.int)),?_,?_⟩
  ·refine⟨_,_,.inl e1,pen_cells,z35 _,fun q hq=> ?_⟩
   have k2:Kp H (upd H1 q (.lst [])):=k1.trans (Kp.new hq)
   have e3:(upd H1 q (.lst [])) p=some (.dK (penKvs c (t+1) l)):=by rw[upd_ne (ne_of_none e1 hq)];exact e1
   have e4:(upd H1 q (.lst [])) c=some (.lst (ns.map V.int)):=by rw[upd_ne (ne_of_none e2 hq)];exact e2
   refine⟨.list ((ns.map V.int).map dataV),.list [],.lst (SqL.of e4) (dpAll_flat all_ints),.lst (SqL.of upd_same) .nil,shaped_flatL ok_ints,by decide,?_⟩
   ·cases ns with
    |nil=>exact brF (by decide) ⟨_,rfl,k2,e3,e4⟩
    |cons z r=>
     refine brT (by simp[PyData.eqv,PyData.eqvAll]) ?_
     have hl:(0:Int)<(((z::r).map V.int).length:Nat):=by simp
     obtain⟨j,hj⟩:∃j:Nat,t% ((((z::r).map V.int).length:Nat):Int)=(j:Int):=⟨_,(Int.toNat_of_nonneg (Int.emod_nonneg _ (Int.ne_of_gt hl))).symm⟩
     have hjl:j<(z::r).length:=by
         have q:=Int.emod_lt_of_pos t hl
         rw[hj,z8] at q
         omega
     refine⟨_,_,.inl e3,pen_cells,_,_,.inl e3,pen_cells,_,.inl (SqL.of e4),hl,_,.int ((z::r)[j]'hjl),.inl (SqL.of e4),?_,_,rfl,k2,e3,e4⟩
     show atI ((z::r).map V.int) (t% ((((z::r).map V.int).length:Nat):Int))=_
     rw[hj]
     refine atI_nat ?_
     rw[z10,z9 hjl]
     rfl
  ·rintro σ' H' ⟨x,rfl,k3,e3,e4⟩
   have last:t_draw_end (dEnd Q) [some (.ref p),some (.int s),none,some (.int t),some (.int x),none] H':=by
        have m1:=small_mod (x:=x) (m:=4294967087) (by decide) (by decide)
        refine⟨by decide,.inl m1,.inl ht,.inl ht,by decide,?_⟩
        generalize x%4294967087*48611+t*(t*27919+10601)+41=y
        have m2:=small_mod (x:=y) (m:=4294967029) (by decide) (by decide)
        refine⟨.inl m2,by decide,?_⟩
        generalize y%4294967029*(y%4294967029+75013)=y
        have m3:=small_mod (x:=y) (m:=4294966997) (by decide) (by decide)
        refine⟨.inl m3,.inl (by decide),.inl (by decide),by decide,?_⟩
        generalize y%4294966997*(y%4294966997)+30427*(y%4294966997)+19*t=y
        have m4:=small_mod (x:=y) (m:=4294966981) (by decide) (by decide)
        refine⟨.inl m4,by decide,⟨by decide,by decide+kernel⟩,hs,?_⟩
        exact fin (t+1) l _ (by omega) (by omega) _ k3 e3 (Int.emod_nonneg _ (Int.ne_of_gt hs)) (Int.emod_lt_of_pos _ hs)
   refine⟨_,_,.inl e3,pen_cells,_,.inl (SqL.of e4),br (fun hb=> ?_) fun hb=> ?_⟩
   ·refine⟨pow18,brD (fun hc2=> ?_) fun hc2=> ?_⟩
    ·generalize(if x<0 then-x else x)=a
     refine⟨pow18,⟨hs,hs2⟩,_,e3,pen_small,pow18,hs,?_⟩
     refine fin (t+1) _ _ (by omega) (by omega) _ (kpm _ k3) (by rw[upd_same,pen_putL]) (Int.emod_nonneg _ (Int.ne_of_gt hs)) (Int.emod_lt_of_pos _ hs)
    ·exact last
   ·exact brF rfl last
theorem len_draw {K:Kf} {vs:List V} {H:Hp} {Q:VK} {E:XK} (h:sp_draw K vs H Q E):vs.length=2:=by
 obtain⟨p,c,n,s,rfl,_⟩:=h
 rfl
theorem tyL {K:Kf} {H:Hp} {a:Addr} {xs:List V} (h:H a=some (.lst xs)):tyV K "list" (.ref a) H:= .inl ⟨rfl,xs,SqL.of h⟩
theorem perm_erase {α:Type}:∀(l:List α) (i:Nat) (h:i<l.length),([l[i]]++l.eraseIdx i).Perm l
 |a::r,0,_=>List.Perm.refl _
 |a::r,i+1,h=>by
  have q:=perm_erase r i (Nat.lt_of_succ_lt_succ h)
  show(r[i]'(Nat.lt_of_succ_lt_succ h)::a::r.eraseIdx i).Perm (a::r)
  exact(List.Perm.swap a (r[i]'(Nat.lt_of_succ_lt_succ h)) _).trans (q.cons a)
def sp_shuffled (K:Kf):Sp:=fun vs H Q _=>∃(p c:Addr) (n:Nat) (a:Addr) (xs:List V),vs= [.ref p,.ref a]∧PenAt H p c n∧n+xs.length<1152921504606846976∧SqL K H a xs∧xs.length≤100000∧xs.all flatV=true∧xs.all okV=true∧
 ∀(ys:List V) (r:Addr) (H':Hp),ys.Perm xs→Kp H H'→H r=none→H' r=some (.lst ys)→PenAt H' p c (n+xs.length)→Q (.ref r) H'
theorem len_shuffled {K:Kf} {vs:List V} {H:Hp} {Q:VK} {E:XK} (h:sp_shuffled K vs H Q E):vs.length=2:=by
 obtain⟨p,c,n,a,xs,rfl,_⟩:=h
 rfl
def N_shuffled:List Str:= ["_law_pen","_law_items","_law_rest","_law_found"]
def t_shuffled (K:Kf) (E:XK):TS:=
 (tSeq (yPar 2 3 (tCons (tCB (zList K) (tCons (yVar 1) tNil)) (tCons (tLst tNil) tNil)))
    (tSeq (yWhile (yTst (tOp (zNeD K) (yVar 2) (tLst tNil))) (tDrop (tBM K "list" zApp (yVar 3) (tCons (tBM K "list" zPopAt (yVar 2) (tCons (yCall (sp_draw K) E0 (tCons (yVar 0) (tCons (tCB (zLen K) (tCons (yVar 2) tNil)) tNil))) tNil)) tNil))))
    (tRet (yVar 3))))
theorem pure_shuffled {K:Kf} {vs:List V} {H:Hp} {Q:VK} {E:XK} (h:sp_shuffled K vs H Q E):t_shuffled K E (dEnd Q) (start N_shuffled vs) H:=by
 obtain⟨p,c,n,a,xs,rfl,hP,hn,hS,hx,hf,ho,k⟩:=h
 refine⟨xs,.inl hS,fun ρ hρ=>⟨z35 _,fun φ hφ=> ?_⟩⟩
 have hφ0:H φ=none:=(Kp.new hρ).back hφ
 have nρφ:ρ≠φ:=fun z=>by
  rw[←z,upd_same] at hφ
  cases hφ
 refine⟨fun m σ H'=>∃zs ws:List V,σ= [some (.ref p),some (.ref a),some (.ref ρ),some (.ref φ)]∧m=zs.length∧Kp H H'∧H' ρ=some (.lst zs)∧H' φ=some (.lst ws)∧(ws++zs).Perm xs∧PenAt H' p c (n+ws.length),
  ⟨_,xs,[],rfl,rfl,(Kp.new hρ).trans (Kp.new hφ),by rw[upd_ne nρφ,upd_same],upd_same,by simp,(hP.new hρ).new hφ⟩,?_⟩
 rintro m σ H1 ⟨zs,ws,rfl,rfl,k1,h1,h2,hp,P1⟩
 have hall:∀z∈zs,z∈xs:=fun z hz=>hp.subset (z12 _ hz)
 have hzf:zs.all flatV=true:=List.all_eq_true.mpr fun z hz=>List.all_eq_true.mp hf z (hall z hz)
 have hzo:zs.all okV=true:=List.all_eq_true.mpr fun z hz=>List.all_eq_true.mp ho z (hall z hz)
 have hlen:ws.length+zs.length=xs.length:=by
  have q:=hp.length_eq
  rw[z17] at q
  exact q
 refine⟨z35 _,fun e he=> ?_⟩
 have k2:Kp H (upd H1 e (.lst [])):=k1.trans (Kp.new he)
 have h1':(upd H1 e (.lst [])) ρ=some (.lst zs):=by rw[upd_ne (ne_of_none h1 he)];exact h1
 have h2':(upd H1 e (.lst [])) φ=some (.lst ws):=by rw[upd_ne (ne_of_none h2 he)];exact h2
 have P2:PenAt (upd H1 e (.lst [])) p c (n+ws.length):=P1.new he
 refine⟨.list (zs.map dataV),.list [],.lst (SqL.of h1') (dpAll_flat hzf),.lst (SqL.of upd_same) .nil,shaped_flatL hzo,by decide,?_⟩
 cases zs with
 |nil=>
  refine brF (by decide) ?_
  have e0:ws.length=xs.length:=by simpa using hlen
  rw[e0] at P2
  exact k ws φ _ (by simpa using hp) k2 hφ0 h2' P2
 |cons z r=>
  refine brT (by simp[PyData.eqv,PyData.eqvAll]) ?_
  have hl:(z::r).length=r.length+1:=rfl
  refine⟨tyL h2',tyL h1',_,.inl (SqL.of h1'),p,c,_,_,rfl,P2,by omega,by omega,log_small (by omega),fun d H2 hd0 hd1 k3 P3=> ?_⟩
  have hd:d.toNat<(z::r).length:=by omega
  have g1:H2 ρ=some (.lst (z::r)):=k3.lst h1'
  have g2:H2 φ=some (.lst ws):=k3.lst h2'
  refine⟨z::r,d.toNat,(z::r)[d.toNat],g1,by omega,by omega,seqIndex_of hd0 (by omega),z9 hd,ws,by rw[upd_ne nρφ.symm];exact g2,?_,?_⟩
  ·refine Nat.lt_of_le_of_lt (m:=100000) (by omega) (by decide)
  ·refine⟨((z::r).eraseIdx d.toNat).length,?_,(z::r).eraseIdx d.toNat,ws++ [(z::r)[d.toNat]],rfl,rfl,?_,?_,upd_same,?_,?_⟩
   ·rw[List.length_eraseIdx_of_lt hd]
    omega
   ·exact((k2.trans k3).mut hρ).mut hφ0
   ·rw[upd_ne nρφ,upd_same]
   ·refine List.Perm.trans ?_ hp
    rw[z19]
    refine List.Perm.append_left ws ?_
    exact perm_erase _ _ hd
   ·have np:=hP.ne hρ
    have nq:=hP.ne hφ0
    have q:=(P3.mut (o:= .lst ((z::r).eraseIdx d.toNat)) np.1 np.2).mut (o:= .lst (ws++ [(z::r)[d.toNat]])) nq.1 nq.2
    rw[z17]
    exact q
def sp_new_names (_:Kf):Sp:=fun vs H Q _=>∃(p c:Addr) (n:Nat) (m:Nat),vs= [.ref p,.int (m:Int)]∧PenAt H p c n∧n+12<1152921504606846976∧
 ∀(ys:List Str) (r:Addr) (H':Hp),ys.Nodup→(∀y∈ys,y∈NAMES)→ys.length=min m 12→Kp H H'→H r=none→H' r=some (.lst (ys.map V.str))→PenAt H' p c (n+12)→Q (.ref r) H'
theorem len_new_names {K:Kf} {vs:List V} {H:Hp} {Q:VK} {E:XK} (h:sp_new_names K vs H Q E):vs.length=2:=by
 obtain⟨p,c,n,a,rfl,_⟩:=h
 rfl
theorem names_nodup:NAMES.Nodup:=by decide+kernel
theorem names_flat:(NAMES.map V.str).all flatV=true:=by simp[flatV]
theorem names_ok:(NAMES.map V.str).all okV=true:=by decide+kernel
theorem strs_of {xs:List Str} {ys:List V} (h:ys.Perm (xs.map V.str)):∃zs:List Str,ys=zs.map V.str∧zs.Perm xs:=by
 have key:∀l:List V,(∀y∈l,∃z,y=V.str z)→∃zs:List Str,l=zs.map V.str:=by
  intro l
  induction l with
  |nil=>exact fun _=>⟨[],rfl⟩
  |cons y r ih=>
   intro hl
   obtain⟨z,rfl⟩:=hl y (z31 ..)
   obtain⟨zs,rfl⟩:=ih fun y hy=>hl y (z23 _ hy)
   exact⟨z::zs,rfl⟩
 obtain⟨zs,rfl⟩:=key ys fun y hy=>by
  obtain⟨z,_,e⟩:=z37.mp (h.subset hy)
  exact⟨z,e.symm⟩
 refine⟨zs,rfl,?_⟩
 have inj:∀l:List Str,(l.map V.str).filterMap (fun v=>match v with| .str z=>some z|_=>none)=l:=by
  intro l
  induction l with
  |nil=>rfl
  |cons a r ih=>simp[ih]
 have q:=h.filterMap (fun v=>match v with| .str z=>some z|_=>none)
 rw[inj,inj] at q
 exact q
def N_new_names:List Str:= ["_law_pen","_law_many","_law_found"]
def t_new_names (K:Kf) (E:XK):TS:=
 (tSeq (tAsg (tLst (tCons (tC (.str "a")) (tCons (tC (.str "b")) (tCons (tC (.str "x")) (tCons (tC (.str "y")) (tCons (tC (.str "top")) (tCons (tC (.str "low")) (tCons (tC (.str "lefty")) (tCons (tC (.str "ends")) (tCons (tC (.str "abcdefghijkl")) (tCons (tC (.str "filling")) (tCons (tC (.str "jumps")) (tCons (tC (.str "alls")) tNil))))))))))))) (gName 2))
    (tRet (tSl (zSlL K) (yCall (sp_shuffled K) E0 (tCons (yVar 0) (tCons (yVar 2) tNil))) tNoPart (tPart (yVar 1)))))
theorem pure_new_names {K:Kf} {vs:List V} {H:Hp} {Q:VK} {E:XK} (h:sp_new_names K vs H Q E):t_new_names K E (dEnd Q) (start N_new_names vs) H:=by
 obtain⟨p,c,n,m,rfl,hP,hn,k⟩:=h
 refine⟨by decide,fun f hf=> ?_⟩
 have ef:(upd H f (.lst (NAMES.map V.str))) f=some (.lst (NAMES.map V.str)):=upd_same
 refine⟨p,c,n,f,NAMES.map V.str,rfl,hP.new hf,hn,SqL.of ef,by decide,names_flat,names_ok,fun ys r H1 hp k1 hr h1 P1=> ?_⟩
 obtain⟨zs,rfl,hz⟩:=strs_of hp
 have hnd:zs.Nodup:=hz.nodup_iff.mpr names_nodup
 have hl:zs.length=12:=hz.length_eq
 refine⟨_,rfl,_,SqL.of h1,fun q hq=> ?_⟩
 have ec:cutV (zs.map V.str) none (some (m:Int))=(zs.take m).map V.str:=by
  unfold cutV
  rw[HT.sIx_none,HT.sIx_nat,z8,hl,List.drop_zero,Nat.sub_zero,List.map_take]
  by_cases hm:m≤12
  ·rw[Nat.min_eq_left hm]
  ·rw[Nat.min_eq_right (by omega),List.take_of_length_le (by simp[hl]),List.take_of_length_le (by simp[hl];omega)]
 rw[ec]
 refine k (zs.take m) q _ (hnd.sublist (List.take_sublist ..)) (fun y hy=>hz.subset (List.mem_of_mem_take hy)) (by rw[z22,hl]) (((Kp.new hf).trans k1).trans (Kp.new hq)) (((Kp.new hf).trans k1).back hq) upd_same (P1.new hq)
section
open PySem.W PySem.Calls
variable {prog:Program} {w:World} {A:Around} {E:Value→Shared→Prop} {h:Heap} {g:Array GenState} {d:Drawn} {t:Nat} {os:OsState}
theorem call_mw {nm q:Str} {C N:Addr} {bs bm:List Value} {hdct:Bool} {sn:List Str} {sub:List Value} {ab:Bool} {col:Option Bool} {dd:Option Addr} {k0 k1 k2 k3 k5:Option Value} {u e t0:Addr} {rest:List Value} {Q:Value→Shared→Prop}
 (hC:h.get? C=some (excClassObj nm q C N bs bm hdct sn sub ab col dd k0 k1 k2 k3 k5 "ValueError.__new__")) (he:h.get? e=some (PySem.HandSPX.excO C t0)) (hu:h.get? u=some (kxs_mw "ValueError.__init__" e)) (hrest:rest.length≤sizeLine)
 (hq:∀h' t1,(∀b o,b≠e→h.get? b=some o→h'.get? b=some o)→h'.get? e=some (PySem.HandSPX.excO C t1)→Q .none ⟨h',g,d,t,os⟩):
 wpAny (model prog w) A (call (.ref u) rest) Q E ⟨h,g,d,t,os⟩:=by
 refine wpAny_call (codeAny_of_tree ?_)
 show wpAny _ A.in1 (callAny (.ref u) ⟨rest,[]⟩) _ _ _
 simp only[callAny]
 refine wpAny_bind (wpAny_load hu ?_)
 simp only[kxs_mw,show(Value.type "method-wrapper"==Value.type "method"||Value.type "method-wrapper"==Value.type "builtin_function_or_method"||Value.type "method-wrapper"==Value.type "method-wrapper")=true by decide,if_true]
 refine PySem.W.KFB.if_so (by decide) ?_
 refine wpAny_bind (PySem.ESX.check_bound F.excBase_ValueError hC he rfl ?_)
 refine wpAny_bind (wpAny_pure (wpAny_pure ?_))
 refine⟨Code.quiet_builtin _ (by decide+kernel),codeAny_builtin F.excBase_ValueError.initEntry ?_⟩
 rw[Around.under_plainId F.excBase_ValueError.init.plain _]
 wp_walk
 refine hq _ h.objs.size (fun b o hb ho=> ?_) ?_
 ·rw[Heap.get?_update_other _ _ (Ne.symm hb)]
  exact z21 _ ho
 ·rw[Heap.get?_update_self _ (z21 _ he) rfl]
  rfl
end
theorem inv_pin {X:Cx} {pins:List (Addr × Obj)} {σ:L2.St} {H:Hp} {s:Shared} {h':Heap} {t':Nat} {u:Addr} {o:Obj} (I:Inv X pins σ H s) (k:∀b x,s.heap.get? b=some x→h'.get? b=some x) (hu:s.heap.objs.size≤u)
 (e:h'.get? u=some o) (hd:∀v,o.data≠ .cell v):Inv X ((u,o)::pins) σ H {s with heap:=h',toks:=t'}:=by
 have J:Inv X pins σ H {s with heap:=h',toks:=t'}:=I.un (Un.kept k) (I.hok.kept k)
 refine⟨J.ok,J.os,J.bare,J.base,J.loc,J.cell,J.free,J.freeC,fun p hp=> ?_,J.hok,J.len⟩
 rcases z36.mp hp with hp|hp
 ·exact J.pin p (z18 _ hp)
 ·rcases List.mem_cons.mp hp with rfl|hp
  ·exact⟨e,I.hok.fresh hu,fun z=>absurd I.lt (by show¬_<_;rw[←z];exact Nat.not_lt.mpr hu),I.nofs hu,hd⟩
  ·exact J.pin p (z12 _ hp)
theorem inv_unpin {X:Cx} {pins:List (Addr × Obj)} {q:Addr × Obj} {σ:L2.St} {H:Hp} {s:Shared} (I:Inv X (q::pins) σ H s):Inv X pins σ H s:=
 ⟨I.ok,I.os,I.bare,I.base,I.loc,I.cell,I.free,I.freeC,fun p hp=>I.pin p (by
  rcases z36.mp hp with hp|hp
  ·exact z18 _ hp
  ·exact z12 _ (z23 _ hp)),I.hok,I.len⟩
structure XScope (N P:List Str) (sc:Scope):Prop where
 kind:sc.kind= .function
 co:sc.isCoroutine=false
 gen:sc.isGenerator=false
 nd:N.Nodup
 pre:N.take P.length=P
 par:∀x∈P,sc.names.lookup x=some .local
 nocell:∀y∈sc.names,y.2≠ .cell
 free:∀y∈sc.names,y.2= .free→y.1= "__class__"
 cls:sc.names.lookup ("__class__":Str)=some .free
 sup:sc.names.lookup ("super":Str)=some .globalImplicit
def xcCx (CX:CXT) (P:Program) (w:World) (K:Kf) (mg:Str→Option Value) (base:Heap) (N:List Str) (qual:Str) (scope:Scope) (f cda cc:Addr) (A:Around) (outer:List Env) (s:Shared) (H:Hp) (E:XK):Cx where
 prog:=P
 w:=w
 K:=K
 mg:=mg
 base:=base
 A:=A.deeper (PySem.W.ksEnv qual scope s.heap.objs.size f (.ref cda) cc)
 N:=N
 s_0:=s
 H_0:=H
 env:=PySem.W.ksEnv qual scope s.heap.objs.size f (.ref cda) cc
 outer:=outer
 stack:=PySem.W.ksEnv qual scope s.heap.objs.size f (.ref cda) cc::outer
 ex:= []
 calm:=true
 fn:=fun _=>false
 pn:= []
 xe:=fun e s'=>wpAny (model P w) (A.deeper (PySem.W.ksEnv qual scope s.heap.objs.size f (.ref cda) cc)) (leaving (PySem.W.ksEnv qual scope s.heap.objs.size f (.ref cda) cc) e) (fun _ s''=>CX outer H s E e s'') (fun e' s''=>CX outer H s E e' s'') s'
theorem zip_look:∀{ps:List Str} {us:List Value} {i:Nat} {x:Str} {u:Value},ps.Nodup→ps[i]?=some x→us[i]?=some u→(ps.zip us).reverse.lookup x=some u
 |[],_,_,_,_,_,h,_=>by simp at h
 |_::_,[],_,_,_,_,_,h=>by simp at h
 |p::ps,v::us,0,x,u,nd,h1,h2=>by
  simp at h1 h2
  subst h1 h2
  rw[List.zip_cons_cons,List.reverse_cons,List.lookup_append]
  have n:(ps.zip us).reverse.lookup p=none:=by
   rw[List.lookup_eq_none_iff]
   intro q hq
   have hm:q.1∈ps:=(List.of_mem_zip (List.mem_reverse.mp hq)).1
   have:=(List.nodup_cons.mp nd).1
   simp only[beq_eq_false_iff_ne,bne_iff_ne,ne_eq]
   intro z
   rw[z] at this
   exact this hm
  rw[n]
  simp[List.lookup]
 |p::ps,v::us,i+1,x,u,nd,h1,h2=>by
  rw[List.zip_cons_cons,List.reverse_cons,List.lookup_append,zip_look (i:=i) (List.nodup_cons.mp nd).2 (by simpa using h1) (by simpa using h2)]
  rfl
theorem xc_start {CX:CXT} {P:Program} {w:World} {K:Kf} {mg:Str→Option Value} {base:Heap} {N ps:List Str} {qual:Str} {scope:Scope} {f cda cc:Addr} {A:Around} {outer:List Env} {s:Shared} {H:Hp} {E:XK} {us:List Value} {vs:List V} {h₁:Heap} {tk:Nat}
 (S:XScope N ps scope) (hd:A.handled=none) (e0:Env0 P w K mg base A outer s H) (hl:vs.length=ps.length) (r:Vals vs us) (hns:h₁.Ns s.heap.objs.size fun x=>(ps.zip us).reverse.lookup x) (kp:∀b o,s.heap.get? b=some o→h₁.get? b=some o)
 (hc:∃v,base.IsCell cc v):Inv (xcCx CX P w K mg base N qual scope f cda cc A outer s H E) [] (L2.start N vs) H {s with heap:=h₁,toks:=tk}:=by
 have hpl:ps.length≤N.length:=by have:=congrArg List.length S.pre;rw[z22] at this;omega
 have noA:∀b:Addr,b∉ (xcCx CX P w K mg base N qual scope f cda cc A outer s H E).ex:=fun b z=>absurd (show b∈([]:List Addr) from z) (by simp)
 obtain⟨v0,oc,ho,hdt⟩:=hc
 have one:∀{y:Str} {c:Addr},List.lookup y [(("__class__":Str),cc)]=some c→y= "__class__" ∧c=cc:=fun{y c} e=>by
  rcases z32.mp (PySem.mem_of_lookup e) with z
  cases z
  exact⟨rfl,rfl⟩
 refine⟨⟨e0.mod,S.kind,rfl,rfl,z34 _,fun y z c h1 h2=> ?_,fun y hy=> ?_,fun y c h _=> ?_,fun _=>hd,Around.frames_deeper e0.frames,.inr ⟨rfl,rfl⟩,fun b z=>absurd z (noA b),e0.bs,e0.bsz,fun b _ _=>noA b,fun b z=>absurd z (noA b),e0.funs,e0.frf⟩,
  rfl,e0.bare,Un.kept kp,⟨_,hns,fun i y v h1 h2 h3=> ?_⟩,fun y c h=> ?_,e0.hok.fresh (z34 _),fun y c h=> ?_,fun p hp=>absurd (show p∈([]:List (Addr × Obj)) from hp) (by simp),e0.hok.kept kp,?_⟩
 ·exact(one h1).1.trans (one h2).1.symm
 ·have hy:scope.names.lookup y=some .cell∨scope.names.lookup y=some .free:=hy
  rcases hy with hy|hy
  ·exact absurd rfl (S.nocell _ (PySem.mem_of_lookup hy))
  ·have e:=S.free _ (PySem.mem_of_lookup hy) rfl
   have e:y= "__class__":=e
   subst e
   exact⟨cc,rfl⟩
 ·exact absurd (show false=true from h) Bool.false_ne_true
 ·have hi:i<vs.length:=by
   unfold L2.start at h2
   by_cases hi:i<vs.length
   ·exact hi
   ·rw[z29 (by simpa using hi),List.getElem?_replicate] at h2
    split at h2<;>cases h2
  have ha:vs[i]?=some v:=by
   unfold L2.start at h2
   rw[z28 (by simpa using hi),z10] at h2
   cases e:vs[i]? with
   |none=>rw[e] at h2;cases h2
   |some a=>rw[e] at h2;cases h2;rfl
  obtain⟨u,hu,rv⟩:=r.get ha
  have hp:ps[i]?=some y:=by
   rw[←S.pre,List.getElem?_take_of_lt (by omega)];exact h1
  have ndP:ps.Nodup:=by rw[←S.pre];exact S.nd.sublist (List.take_sublist _ _)
  exact⟨u,rv,.inl ⟨S.par y (z11 hp),zip_look ndP hp hu⟩⟩
 ·obtain⟨_,e⟩:=one h
  subst e
  exact⟨v0,oc,kp _ _ (e0.bs _ _ ho).1,hdt⟩
 ·obtain⟨_,e⟩:=one h
  subst e
  exact(e0.bs _ _ ho).2
 ·unfold L2.start
  show _=N.length
  rw[z17,z8,List.length_replicate]
  omega
structure XcC (P:Program) (K:Kf) (C cda cc:Addr):Prop where
 o:OexC K C
 code:∃ccl cdd vs ccs file tf,K.lookup cda=some ⟨ccl,cdd,.fields vs,ccs⟩∧vs[2]?=some (.str file tf)∧(P.main.file==file)=true
 cell:∃cl cld csl,K.lookup cc=some ⟨cl,cld,.cell (some (.ref C)),csl⟩
 sup:PySem.W.ks_superIn K C C "__init__"=some (some (.builtin "ValueError.__init__"))
 sV:PySem.W.subIn K (.ref C) (.type "ValueError")=some true
 own:PySem.W.mroIn K C (.ref C)=some true
 any:PySem.W.nsIn K cStatics "thirdparty.any"=some none
 top:(P.main.scope.names.lookup ("super":Str)).isSome=false
theorem xc_ok {CX:CXT} {P:Program} {w:World} {K:Kf} {mg:Str→Option Value} {base:Heap} {k:Nat} {f C cc cda:Addr} {name qual:Str} {params:Arguments} {body rest:List Stmt} {scope:Scope} {dV kV doc pm ct oc:Value} {an od:Option Addr}
 {osl:Array (Option Value)} {N ps:List Str} {sp:Sp} {e:Expr} {es:List Expr} {p0 p1 p2 p3 p4:Pos} {ar:Arg}
 (lk:K.lookup f=some ⟨oc,od,.func (PySem.W.ksFn name qual params body scope dV kV doc pm an (.ref cda) ct cc),osl⟩) (hcd:PySem.W.codeIn K (.ref cda) qual=true) (T:XcC P K C cda cc)
 (hbd:body= .Expr (.Call (.Attribute (.Call (.Name "super" p0) [] [] p1) "__init__" p2) (e::es) [] p3) p4::rest) (S:XScope N ps scope) (len:∀vs H Q E,sp vs H Q E→vs.length=ps.length)
 (hp:(params.posonlyargs++params.args).head?=some ar) (har:ps[0]?=some ar.arg) (hmg:mg "super"=none)
 (hbody:∀(A:Around) (outer:List Env) (s:Shared) (H:Hp) (vs:List V) (Q:VK) (E:XK),Room k (A.deeper (PySem.W.ksEnv qual scope s.heap.objs.size f (.ref cda) cc))→sp vs H Q E→
  ∃a ws ta t,vs= .ref a::ws∧H a=some (exo a C none)∧PA (xcCx CX P w K mg base N qual scope f cda cc A outer s H E) (e::es) ta∧PSs (xcCx CX P w K mg base N qual scope f cda cc A outer s H E) rest t∧
   ta (L2.start N vs) H fun us H1=>us.length≤1000∧H1 a=some (exo a C none)∧t {nx:=fun _ H'=>Q .non H',rt:=Q} (L2.start N vs) H1)
 (he:∀env:Env,starEach (e::es) env=(false,eval e env)::starEach es env:=by exact fun _=>rfl) (hpl:∀env:Env,(backTo p3 (starEach es env)).any (·.1)=false:=by exact fun _=>rfl)
 (hev:∀env:Env,∃pl,eval (.Call (.Attribute (.Call (.Name "super" p0) [] [] p1) "__init__" p2) (e::es) [] p3) env=(do
  let ov←attributeBase (.Call (.Name "super" p0) [] [] p1) "__init__" env (eval (.Call (.Name "super" p0) [] [] p1) env)
  standAt p2.atName
  let(f,first)←holding [ov] (getMethod ov "__init__" pl)
  callWith p3 f first (backTo p3 (starEach (e::es) env)) []):=by exact fun _=>⟨_,rfl⟩)
 (hsw:∀env:Env,swapsWith (.Call (.Attribute (.Call (.Name "super" p0) [] [] p1) "__init__" p2) (e::es) [] p3) none p4.line env=pure false:=by exact fun _=>rfl):
 FnOk P w K mg base CX (k+1) f (PySem.W.ksFn name qual params body scope dV kV doc pm an (.ref cda) ct cc) ps sp:=by
 refine⟨len,fun A outer s H args us vs Q E hr e0 hb r hsp=> ?_⟩
 have hl:=len _ _ _ _ hsp
 have KX:K.In s.heap:=e0.mod.kin.keeps fun b o e=>(e0.bs b o e).1
 have lim:s.heap.NoLimit:=e0.mod.nolimit.keeps fun b o e=>(e0.bs b o e).1
 obtain⟨ccl,cdd,cvs,ccs,file,tf,lkc,hv2,hfile⟩:=T.code
 obtain⟨cl,cld,csl,lcell⟩:=T.cell
 obtain⟨nm,q,NN,bs,bm,sn,sub,ab,col,dd,k0,k1,k2,k3,k5,hC,hbm⟩:=T.o.cls
 have hcl:∃cd,PySem.W.clsIn K C=some cd:=⟨_,by unfold PySem.W.clsIn;rw[hC]<;>rfl⟩
 obtain⟨cd,hcl⟩:=hcl
 refine PySem.ks_codeAny_call_defAt (fd:=PySem.W.ksFn name qual params body scope dV kV doc pm an (.ref cda) ct cc) (body:=body) (binds:=ps.zip us) hr.depth (KX _ _ lk) rfl lim (PySem.W.codeRec_of KX hcd) rfl hb S.nocell
  (fun y hy=>S.par _ (List.of_mem_zip hy).1) (fun h₁ hns kp=> ?_) S.co S.gen S.kind
 have I0:Inv (xcCx CX P w K mg base N qual scope f cda cc A outer s H E) [] (L2.start N vs) H {s with heap:=h₁,toks:=s.toks+(ps.zip us).length}:=xc_start S hr.hd e0 hl r hns kp ⟨_,_,e0.mod.kin _ _ lcell,rfl⟩
 obtain⟨a,ws,ta,t,ev,ha,hta,ht,hq⟩:=hbody A outer s H vs Q E (hr.deeper _) hsp
 have fin:∀{fl:Flow} {s':Shared},SP (xcCx CX P w K mg base N qual scope f cda cc A outer s H E) [] {nx:=fun _ H'=>Q .non H',rt:=Q} fl s'→CR CX outer P w H s Q E (.ok (.ret (match fl with| .ret v=>v|_=> .none))) s':=fun{fl s'} hs=>by
  cases fl with
  |ret u=>
   obtain⟨v,σ',H',J,rv,q⟩:=hs
   exact⟨v,H',J.os,J.bare,J.base,J.hok,rv,q⟩
  |next=>
   obtain⟨σ',H',J,q⟩:=hs
   exact⟨.non,H',J.os,J.bare,J.base,J.hok,rfl,q⟩
  |brk=>
   obtain⟨_,_,_,q⟩:=hs
   exact False.elim q
  |cont=>
   obtain⟨_,_,_,q⟩:=hs
   exact False.elim q
 subst ev
 cases r with
 | @cons _ u0 _ ur ra rw'=>
 obtain rfl:u0=Value.ref a:=ra
 have ndP:ps.Nodup:=by rw[←S.pre];exact S.nd.sublist (List.take_sublist _ _)
 have hself:(ps.zip (Value.ref a::ur)).reverse.lookup ar.arg=some (Value.ref a):=zip_look ndP har rfl
 have hD:∃oD,h₁.get? C=some oD∧oD.data= .cls cd:=by
  unfold PySem.W.clsIn at hcl
  rw[hC] at hcl
  exact⟨_,kp _ _ (KX _ _ hC),by cases hcl;rfl⟩
 obtain⟨oD,hD1,hD2⟩:=hD
 obtain⟨t0,hoe⟩:=exo_at I0.hok ha
 have KX1:K.In h₁:=fun b o z=>kp _ _ (KX _ _ z)
 have hks:(PySem.W.ksEnv qual scope s.heap.objs.size f (.ref cda) cc).kindOf "super"=some .globalImplicit:=S.sup
 have hkc:(PySem.W.ksEnv qual scope s.heap.objs.size f (.ref cda) cc).kindOf "__class__"=some .free:=S.cls
 have hka:(PySem.W.ksEnv qual scope s.heap.objs.size f (.ref cda) cc).kindOf ar.arg=some .local:=S.par _ (z11 har)
 obtain⟨mb,hb1,hb2⟩:=e0.mod.blt
 show _root_.PySem.wpAt _ (A.deeper (PySem.W.ksEnv qual scope s.heap.objs.size f (.ref cda) cc)) (.func body (PySem.W.ksEnv qual scope s.heap.objs.size f (.ref cda) cc)) (execs body (PySem.W.ksEnv qual scope s.heap.objs.size f (.ref cda) cc)) _ _ _
 obtain⟨hp0,gg,dd0,tt,os0⟩:=s
 refine PySem.wpAt_mono (Q:=SP (xcCx CX P w K mg base N qual scope f cda cc A outer ⟨hp0,gg,dd0,tt,os0⟩ H E) [] {nx:=fun _ H'=>Q .non H',rt:=Q}) ?_ (fun fl s' hs=>fin hs) fun _ _ z=>z
 have bk:∀b o,base.get? b=some o→h₁.get? b=some o:=fun b o z=>kp _ _ (e0.bs b o z).1
 suffices main:∀body',body'=body→_root_.PySem.wpAt (model P w) (A.deeper (PySem.W.ksEnv qual scope hp0.objs.size f (.ref cda) cc)) (.func body' (PySem.W.ksEnv qual scope hp0.objs.size f (.ref cda) cc)) (execs body (PySem.W.ksEnv qual scope hp0.objs.size f (.ref cda) cc))
  (SP (xcCx CX P w K mg base N qual scope f cda cc A outer ⟨hp0,gg,dd0,tt,os0⟩ H E) [] {nx:=fun _ H'=>Q .non H',rt:=Q}) (xcCx CX P w K mg base N qual scope f cda cc A outer ⟨hp0,gg,dd0,tt,os0⟩ H E).xe ⟨h₁,gg,dd0,tt+(ps.zip (Value.ref a::ur)).length,os0⟩ from main body rfl
 intro body' _
 rw[hbd]
 obtain⟨pl,hev⟩:=hev (PySem.W.ksEnv qual scope hp0.objs.size f (.ref cda) cc)
 refine PySem.ks_wpAt_execs_cons (PySem.ks_wpAt_Expr_any (PySem.ks_wpAt_MethodCall (pl:=pl) ?_ hev) I0.quiet (hsw _))
 refine PySem.ks_wpAt_super_base hks hkc (by decide) rfl (KX1 _ _ lk) rfl hp rfl (KX1 _ _ lkc) rfl hv2 hfile T.top ?_
 refine PySem.W.ks_loadName_global S.kind hks (Calls.loadGlobal_builtin (e0.mod.glob.keeps bk) hmg (hb1.keeps bk) ((hb2 "super" (by decide)).trans PyProof.Rows.Boot.«super») ⟨rfl,?_⟩)
 refine wpAny_loadName_free S.kind hkc rfl ⟨_,KX1 _ _ lcell,rfl⟩ ?_
 refine wpAny_loadName_local S.kind hka hns hself ?_
 refine PySem.ks_wpAny_isType_cls hD1 hD2 ⟨rfl,?_⟩
 refine PySem.ks_wpAny_call_super hD1 hD2 hoe rfl (fun c z=>by cases z) (PySem.W.looks_mroIn KX1 T.own) (fun h2 eso k2'=> ?_)
 have KX2:K.In h2:=fun b o z=>k2' _ _ (KX1 _ _ z)
 have I2:PySem.W.InstAt h2 a _ C none:=⟨k2' _ _ hoe,rfl,rfl,trivial⟩
 have hsup:=T.sup
 unfold PySem.W.ks_superIn at hsup
 rw[hcl] at hsup
 refine PySem.W.kxs_getMethod PySem.W.kxs_ValueError (l₀:=cd.mro) eso (PySem.W.looks_opaque KX2 T.any) (fun A Q E s k q=>wpAny_bind ((PySem.W.looks_clsIn KX2 hcl) A _ E s k (wpAny_pure q))) rfl KX2 hsup (I2.type.andThen (PySem.W.looks_subIn KX2 T.sV)) (PySem.W.ks_ne KX2 I2 hcl) (by decide) ?_
 have kk:∀b o,h₁.get? b=some o→(h2.push (PySem.W.kxs_mw "ValueError.__init__" a)).get? b=some o:=fun b o z=>z21 _ (k2' _ _ z)
 have hsz:h₁.objs.size≤h2.objs.size:=Nat.le_of_lt (Heap.lt_size eso)
 have I3:=inv_pin (t':=tt+(ps.zip (Value.ref a::ur)).length+1) I0 kk hsz (o:=PySem.W.kxs_mw "ValueError.__init__" a) (Heap.get?_push_at rfl rfl) (fun v z=>by cases z)
 show wpAny _ _ (callWith p3 (.ref h2.objs.size) [] (backTo p3 (starEach (e::es) (PySem.W.ksEnv qual scope hp0.objs.size f (.ref cda) cc))) []) _ _ _
 have hrun:=hta.run p3 _ _ _ _ _ I3 hq
 have hrun:wpAny (model P w) (A.deeper (PySem.W.ksEnv qual scope hp0.objs.size f (.ref cda) cc)) (spliced (backTo p3 (starEach (e::es) (PySem.W.ksEnv qual scope hp0.objs.size f (.ref cda) cc)))) _ _ _:=hrun
 rw[he] at hrun⊢
 refine PySem.W.kxs_callWith (i:= "ValueError.__init__") (x:=a) (by show(false||(backTo p3 (starEach es _)).any (·.1))=false;rw[hpl];rfl) ?_
 refine Calls.evalArgs_plain (thn hrun fun vs1 s4 hh=> ?_)
 obtain⟨xs,H1,I4,r4,hxl,hxa,hqt⟩:=hh
 have pin:=I4.pin (h2.objs.size,PySem.W.kxs_mw "ValueError.__init__" a) (z12 _ z31)
 refine⟨pin.1,?_⟩
 obtain⟨t4,ho4⟩:=exo_at I4.hok hxa
 obtain⟨hp4,g4,d4,tk4,os4⟩:=s4
 have hvs:vs1.length≤sizeLine:=by
  rw[←Paired.length r4,sizeLine_eq]
  omega
 refine call_mw (I4.kIn _ _ hC) ho4 pin.1 hvs (fun h5 t5 k5' hx5=> ?_)
 have J:=(inv_unpin I4).write (t':=tk4) (x:=a) (e:=a) (o:=exo a C none) (by rw[hxa];exact True.intro) (.inl rfl) k5' ⟨_,hx5⟩ (exo_ok hx5)
 have eu:upd H1 a (exo a C none)=H1:=by
  funext b
  by_cases hb:b=a
  ·rw[hb,upd_same,hxa]
  ·rw[upd_ne hb]
 rw[eu] at J
 exact PySem.wpAt_of_wpAny (ht.run [] _ _ H1 _ J hqt)
section
open PySem.W PySem.Calls
variable {prog:Program} {w:World} {A:Around} {E:Value→Shared→Prop} {s:Shared} {K:Frag} {x D:Addr} {ox:Obj} {od:Option Obj}
theorem find_dataD {C:Addr} {name:Str} {a g:Value} (hc:(clsIn K C).isSome=true) (ha:findIn K (.ref C) name=some (some a)) (hg:specialIn K a "__get__"=some (some g)) (ht:takesIn K a=some true):findObj K C od name=some (.bind g a):=by
 obtain⟨cd,hc⟩:=Option.isSome_iff_exists.mp hc
 unfold findObj
 rw[hc,Option.bind_some,ha,Option.bind_some]
 simp[hg,ht]
theorem kin_exc {Q:Option Value→Shared→Prop} (C:L2.ExcC K D) (X:K.In s.heap) (I:InstAt s.heap x ox D od) (h:Q (some (.ref D)) {s with toks:=s.toks+1}):wpAny (model prog w) A (getAttr? (.ref x) "__class__") Q E s:=by
 have hf:findObj K D od "__class__"=some (.bind (.builtin "getset_descriptor.__get__") (.builtin "object.__class__")):=find_dataD (by obtain⟨cd,hc,_⟩:=any_some C.hd;rw[hc];rfl) C.ha C.hn C.ht
 obtain⟨hp,g,d,t,os⟩:=s
 have L0:=I.type (M:=model prog w)
 have L1:=looks_findIn (M:=model prog w) X C.hg
 have L2:=looks_findIn (M:=model prog w) X C.hk
 have L3:=looks_find (M:=model prog w) X I hf
 have sub:Looks (model prog w) hp (isInstance (.ref x) (.type "BaseException")) true:=L0.andThen (looks_subIn X C.hs)
 have hx0:(false&&onTheHeap (Value.builtin "BaseException.__getattribute__"))=false:=rfl
 have hx2:(Value.builtin "BaseException.__getattribute__"==Value.builtin "object.__getattribute__")=false:=by decide+kernel
 have hx1:(onTheHeap (Value.ref D)&&Value.builtin "BaseException.__getattribute__"==Value.builtin "object.__getattribute__")=false:=by rw[hx2];rfl
 unfold getAttr? getAttrBy? getAttrBy
 refine wpAny_bind (wpAny_mkText (wpAny_bind (wpAny_attempt (wpAny_holding (wpAny_bind (L0.at (wpAny_bind (L1.at ?_))))))))
 show wpAny _ _ (if(onTheHeap (Value.ref D)&&Value.builtin "BaseException.__getattribute__"==Value.builtin "object.__getattribute__")=true then _ else _) _ _ _
 rw[hx1,if_neg Bool.false_ne_true]
 unfold getAttrByItsOwn hookBefore
 refine wpAny_bind ?_
 rw[if_pos (show onTheHeap (Value.ref D)=true from rfl)]
 refine L2.at ?_
 refine wpAny_bind (wpAny_attempt (wpAny_holding ?_))
 unfold callGetattribute
 rw[hx0,if_neg Bool.false_ne_true]
 unfold boundAndCalled
 rw[PySem.F.excAttr_ValueError.ga.bind (.ref x)]
 refine wpAny_bind (wpAny_pure ?_)
 show wpAny _ _ (call (.builtin "BaseException.__getattribute__") [.ref x,.str "__class__" t]) _ _ _
 refine wpAny_call (codeAny_call_builtin PySem.F.excAttr_ValueError.ga.plain PySem.F.entry_bexc_ga ?_)
 refine @check_slot (model prog w) _ _ ⟨hp,g,d,t+1,os⟩ "BaseException.__getattribute__" "BaseException" "__getattribute__" (.ref x) [.str "__class__" t] [] _ (by decide+kernel) (by decide+kernel) sub (PySem.F.args_bexc_ga (.ref x) (.str "__class__" t)) ?_
 unfold Builtin.«object.__getattribute__»
 refine wpAny_bind (wpAny_of_eq (a:=((Value.ref x:Value),[Value.str "__class__" t])) (by first|rfl|(simp only[slotArgs];rfl)) ?_)
 refine wpAny_bind (wpAny_pure (wpAny_bind (L0.at (wpAny_bind (L3.at ?_)))))
 show wpAny _ _ (holding [Value.builtin "object.__class__"] (call (.builtin "getset_descriptor.__get__") [.builtin "object.__class__",.ref x,.ref D])>>=ret) _ _ _
 refine wpAny_bind (wpAny_holding (wpAny_call (class_get (s:=⟨hp,g,d,t+1,os⟩) (ox:=ox) (od:=od) X I C.hm ?_)))
 refine wpAny_pure ?_
 show wpAny _ _ (handedOut (.ref D)) _ _ _
 rw[handedOut_of (v:= .ref D) rfl]
 first
  |exact wpAny_pure (wpAny_pure h)
  |exact wpAny_pure h
  |exact wpAny_pure (wpAny_bind (wpAny_pure (wpAny_pure h)))
theorem kitx_exc (C:L2.ExcC K D):KitX K (.ref x) (.ref D) (fun h=>∃ox od,InstAt h x ox D od) where
 ty:=fun _ _ _ ⟨_,_,I⟩=>I.type
 it:=fun _ _ X _=>by
  obtain⟨cdD,hcD,_⟩:=any_some C.hd
  unfold clsIn at hcD
  split at hcD
  ·rename_i c' d' cd' sl' ho
   intro A' Q' E' s' k q
   unfold isType loadHead
   exact wpAny_bind (wpAny_loadPart (k _ _ (X _ _ ho)) (wpAny_pure q))
  ·cases hcD
 ne:=fun h tp dd its n sl X htp=>by
  obtain⟨cdD,hcD,_⟩:=any_some C.hd
  refine Bool.eq_false_iff.mpr fun q=> ?_
  have e:D=tp:=Value.ref.inj (beq_iff_eq.mp q)
  subst e
  unfold clsIn at hcD
  split at hcD
  ·rename_i c' d' cd' sl' ho
   have z:=(X _ _ ho).symm.trans htp
   cases z
  ·cases hcD
 ca:=fun X ⟨_,_,I⟩ k=>kin_exc C X I k
end
theorem Ext.back {H H':Hp} (k:Ext H H') {b:Addr} (h:H' b=none):H b=none:=by
 cases e:H b with
 |none=>rfl
 |some o=>rw[k b o e] at h;cases h
def spI0 (C:Addr):Sp:=fun vs H Q E=>∃a,vs= [.ref a]∧H a=some (exo a C none)∧Q .non H
def spI1 (C:Addr) (f:Str) (ok:V→Prop):Sp:=fun vs H Q E=>∃a v,vs= [.ref a,v]∧H a=some (exo a C none)∧ok v∧∀dx,H dx=none→dx≠a→Q .non (upd (upd H dx (exd dx [(f,v)])) a (exo a C (some dx)))
structure Mk (P:Program) (w:World) (K:Kf) (mg:Str→Option Value) (base:Heap) (x:Str) (C:Addr) (ps:List Str) (sp:Sp):Prop where
 o:OexC K C
 glob:mg x=some (.ref C)
 ini:∃fI fd,PySem.W.findIn K (.ref C) "__init__"=some (some (.ref fI))∧PySem.W.typeIn K (.ref fI)=some (.type "function")∧FnOk P w K mg base (L2.CX P w) 1 fI fd ps sp∧Binds K fd ps []
theorem mk_endN {X:Cx} {pins:List (Addr × Obj)} {σ:L2.St} {H1 H2:Hp} {Q:XK} {hp hp2 h2:Heap} {g1 g2:Array GenState} {d1 d2:Drawn} {t1 t2:Nat} {os1 os2:OsState} {a C:Addr} (T:Raises X (.ref C)) (I1:Inv X pins σ H1 ⟨hp,g1,d1,t1,os1⟩)
 (ha:hp.objs.size≤a) (k:∀b o,hp.get? b=some o→hp2.get? b=some o) (un:Un (frs X.stack) [] (upd H1 a (exo a C none)) H2 hp2 h2) (hok:HOk X.prog X.w H2 h2) (ho:os2=os1) (hb:AllBare g2)
 (ea:H2 a=some (exo a C none)) (q:Q (.ref C) none (del H2 a)):MkP X pins σ Q (.ref a) ⟨h2,g2,d2,t2,os2⟩:=by
 obtain⟨t0,hoe⟩:=exo_at hok ea
 have hn:H1 a=none:=I1.hok.fresh ha
 obtain⟨G,g1',g2'⟩:=restrict h2 fun b=>decide (b≠a)
 have gk:∀b,b≠a→G.get? b=h2.get? b:=fun b hb=>g1' b (decide_eq_true hb)
 have ge:G.get? a=none:=g2' a (by simp)
 have nha:∀{b:Addr} {o:Obj},hp.get? b=some o→b≠a:=fun{b o} z=>Nat.ne_of_lt (z24 (Heap.lt_size z) ha)
 have up:∀{b:Addr},b≠a→H1 b=none→upd H1 a (exo a C none) b=none:=fun{b} hb n=>by rw[upd_ne hb];exact n
 have U:Un (frs X.stack) [] H1 (del H2 a) hp G:={
  keep:=fun b o z n hf hx=>by
   rw[gk b (nha z)]
   exact un.keep b o (k b o z) (up (nha z) n) hf hx
  slot:=fun b o z n hf hx=>by
   rw[gk b (nha z)]
   exact un.slot b o (k b o z) (up (nha z) n) hf hx
  free:=fun b o z n hx=>by
   rw[del_ne (nha z)]
   exact un.free b o (k b o z) (up (nha z) n) hx
  there:=fun b o z hx=>by
   rw[gk b (nha z)]
   exact un.there b o (k b o z) hx
  tups:=fun b xs z=>by
   rw[del_ne (ne_of_none z hn)]
   exact un.tups b xs (by rw[upd_ne (ne_of_none z hn)];exact z)
  frzs:=fun b o v z=>by
   rw[del_ne (ne_of_none z hn)]
   exact un.frzs b o v (by rw[upd_ne (ne_of_none z hn)];exact z)
  tbls:=fun b ps z=>by
   rw[del_ne (ne_of_none z hn)]
   exact un.tbls b ps (by rw[upd_ne (ne_of_none z hn)];exact z)}
 have hok3:HOk X.prog X.w (del H2 a) G:=fun b o z=>by
  have hba:b≠a:=fun e=>by
   rw[e,del_same] at z
   cases z
  rw[del_ne hba] at z
  have noa:∀{c:Addr},H2 c=some (.own b)→c≠a:=fun{c} hc=>at_ne ea hc exo_own
  exact(hok b o z).stay (fun c v hc y=>by
        have hca:c≠a:=by
         rcases hc with hc|hc
         ·rw[hc]
          exact hba
         ·exact noa hc
        rw[gk c hca]
        exact y)
   (fun c hc=>by rw[del_ne (noa hc)];exact hc) (fun c xs hc=>by rw[del_ne (at_ne ea hc exo_tup)];exact hc)
 have J:Inv X pins σ (del H2 a) ⟨G,g2,d2,t2,os2⟩:=I1.call' (ch:= []) ho U hok3 hb (fun b z=>absurd z (by simp))
 refine⟨a,_,_,⟨G,g2,d2,t2,os2⟩,_,.ref C,none,rfl,J,fun b o z=> ?_,ge,hoe,⟨rfl,rfl⟩,rfl,rfl,del_same,rfl,hb,T,q⟩
 by_cases hba:b=a
 ·rw[hba,ge] at z
  cases z
 ·exact(gk b hba).symm.trans z
def exW (C:Addr) (Q:XK) (H1:Hp) (a:Addr):VK:=fun v H2=>v= .non∧((H2 a=some (exo a C none)∧Q (.ref C) none (del H2 a))∨
 ∃(d:Addr) (fs:List (Str × V)),H2 a=some (exo a C (some d))∧H2 d=some (exd d fs)∧H1 d=none∧Q (.ref C) (some d) (upd (del H2 a) d (.xd fs)))
theorem mk_raise {X:Cx} {x:Str} {C:Addr} {ps:List Str} {sp:Sp} (M:Mk X.prog X.w X.K X.mg X.base x C ps sp) (hr:Room 2 X.A) {pins:List (Addr × Obj)} {σ:L2.St} {H1:Hp} {s1:Shared} {us:List Value} {vs:List V} {Q:XK}
 (I1:Inv X pins σ H1 s1) (r1:Vals vs us) (hz:vs.length≤1000) (h:∀a,H1 a=none→sp (.ref a::vs) (upd H1 a (exo a C none)) (exW C Q H1 a) E0):wpAny (model X.prog X.w) X.A (call (.ref C) us) (MkP X pins σ Q) X.xe s1:=by
 obtain⟨nm,q,N,bs,bm,sn,sub,ab,col,dd,k0,k1,k2,k3,k5,hC,hbm⟩:=M.o.cls
 obtain⟨fI,fd,iC,tI,F1,hb⟩:=M.ini
 obtain⟨hp,g,dr,tk,os⟩:=s1
 have hsz:hp.objs.size≤hp.objs.size+1:=Nat.le_succ _
 have hn:H1 (hp.objs.size+1)=none:=I1.hok.fresh hsz
 have hq:=h (hp.objs.size+1) hn
 have kk:∀b o,hp.get? b=some o→((hp.push (PySem.W.kdv_tup us)).push (PySem.HandSPX.excO C hp.objs.size)).get? b=some o:=fun b o e=>z21 _ (z21 _ e)
 have hget:((hp.push (PySem.W.kdv_tup us)).push (PySem.HandSPX.excO C hp.objs.size)).get? (hp.objs.size+1)=some (PySem.HandSPX.excO C hp.objs.size):=by heap_get
 have I2:Inv X pins σ (upd H1 (hp.objs.size+1) (exo (hp.objs.size+1) C none)) ⟨(hp.push (PySem.W.kdv_tup us)).push (PySem.HandSPX.excO C hp.objs.size),g,dr,tk,os⟩:=
  I1.laid (t':=tk) (a:=hp.objs.size+1) (o:=exo (hp.objs.size+1) C none) (h':=(hp.push (PySem.W.kdv_tup us)).push (PySem.HandSPX.excO C hp.objs.size)) kk hsz (exo_ok hget)
 have r2:Vals (V.ref (hp.objs.size+1)::vs) (Value.ref (hp.objs.size+1)::us):= .cons rfl r1
 have hl:(Value.ref (hp.objs.size+1)::us).length=ps.length:=by
  have e:=r2.length
  rw[F1.len _ _ _ _ hq] at e
  exact e.symm
 have hus:us.length≤sizeLine:=by
  rw[←Paired.length r1,sizeLine_eq]
  omega
 have hb':=hb _ (Value.ref (hp.objs.size+1)::us) I2.kIn (by rw[z26];exact hl)
 rw[z26] at hb'
 refine wpAny_call (PySem.HandSPX.call_own F.excBase_ValueError (fun Y=>PySem.HandSPX.refsVE_contains Y bm hbm) (I1.kIn _ _ hC) (PySem.W.looks_findIn I1.kIn iC) (fun self=>PySem.W.bind_fn I1.kIn self tI) hus
  (codeAny_mono (F1.run _ X.stack _ _ ⟨Value.ref (hp.objs.size+1)::us,[]⟩ (Value.ref (hp.objs.size+1)::us) _ _ E0 (hr.make C us []) (I2.env0.make C us []) hb' r2 hq) fun r s' hq'=> ?_))
 cases r with
 |error er=>exact passL pins σ _ _ er s' I2 hq'
 |ok fl=>
  cases fl with
  |ret u=>
   obtain⟨v,H2,os2,bare2,un2,hok2,rv,ev,q2⟩:=hq'
   subst ev
   obtain⟨h2,g2,d2,t2,os'⟩:=s'
   refine⟨rv,?_⟩
   rcases q2 with⟨ea,q2⟩|⟨d,fs,ea,ed,hd1,q2⟩
   ·exact mk_endN (raises_own M.o.exC M.o.tyC) I1 hsz kk un2 hok2 os2 bare2 ea q2
   ·exact mk_end (raises_own M.o.exC M.o.tyC) I1 hsz kk un2 hok2 os2 bare2 ea ed hd1 q2
  |next=>exact False.elim hq'
  |brk=>exact False.elim hq'
  |cont=>exact False.elim hq'
def yMkR (C:Addr) (sp:Sp) (ta:TA):L2.St→Hp→XK→Prop:=fun σ H Q=>ta σ H fun vs H1=>vs.length≤1000∧∀a,H1 a=none→sp (.ref a::vs) (upd H1 a (exo a C none)) (exW C Q H1 a) E0
section
variable {X:Cx} {x:Str} {C:Addr} {ps:List Str} {sp:Sp} {ta:TA} {e:Expr} {es:List Expr} {p pos:Pos}
theorem pm_mk (M:Mk X.prog X.w X.K X.mg X.base x C ps sp) (hr:Room 2 X.A) (hg:Gl X x) (ha:PA X (e::es) ta)
 (hdb:(x==("__debug__":Str))=false:=by decide) (he:starEach (e::es) X.env=(false,eval e X.env)::starEach es X.env:=by rfl) (hpl:(backTo pos (starEach es X.env)).any (·.1)=false:=by rfl):
 PMk X (.Call (.Name x p) (e::es) [] pos) (yMkR C sp ta):=by
 intro pins s σ H Q I h
 refine wpAny_Call_Name_kw (ld_glob I hg M.glob ?_ hdb)
 refine PySem.W.callWith_K (h₀:=X.base) I.ok.mod.kin M.o.kC (thn (ha.run pos pins s σ H _ I h) fun us s1 ⟨vs,H1,I1,r1,hz,q1⟩=>⟨I1.kIn,?_⟩) he hpl
 exact mk_raise M hr I1 r1 hz q1
theorem pm_mk0 (M:Mk X.prog X.w X.K X.mg X.base x C ps sp) (hr:Room 2 X.A) (hg:Gl X x) (hdb:(x==("__debug__":Str))=false:=by decide):
 PMk X (.Call (.Name x p) [] [] pos) (yMkR C sp tNil):=by
 intro pins s σ H Q I h
 refine wpAny_Call_Name_kw (ld_glob I hg M.glob ?_ hdb)
 exact PySem.W.callWith_K0 I.kIn M.o.kC (mk_raise M hr I .nil h.1 h.2)
end
theorem del_upd2 {H:Hp} {a d:Addr} {o1 o2:HO} {fs:List (Str × V)} {o3:HO} (ha:H a=none) (hd:d≠a):upd (del (upd (upd (upd H a o1) d o2) a o3) a) d (.xd fs)=upd H d (.xd fs):=by
 funext b
 by_cases h1:b=d
 ·rw[h1,upd_same,upd_same]
 ·rw[upd_ne h1,upd_ne h1]
  by_cases h2:b=a
  ·rw[h2,del_same,ha]
  ·rw[del_ne h2,upd_ne h2,upd_ne h1,upd_ne h2]
theorem del_upd1 {H:Hp} {a:Addr} {o:HO} (ha:H a=none):del (upd H a o) a=H:=by
 funext b
 by_cases h2:b=a
 ·rw[h2,del_same,ha]
 ·rw[del_ne h2,upd_ne h2]
theorem mkR0 {C:Addr} {Q:XK} {H:Hp} (q:Q (.ref C) none H):∀a,H a=none→spI0 C [.ref a] (upd H a (exo a C none)) (exW C Q H a) E0:=fun a ha=>
 ⟨a,rfl,upd_same,rfl,.inl ⟨upd_same,by rw[del_upd1 ha];exact q⟩⟩
theorem mkR1 {C:Addr} {f:Str} {ok:V→Prop} {v:V} {Q:XK} {H:Hp} (hv:ok v) (q:∀d,H d=none→Q (.ref C) (some d) (upd H d (.xd [(f,v)]))):∀a,H a=none→spI1 C f ok [.ref a,v] (upd H a (exo a C none)) (exW C Q H a) E0:=fun a ha=>
 ⟨a,v,rfl,upd_same,hv,fun dx hd hne=>⟨rfl,.inr ⟨dx,_,upd_same,by rw[upd_ne hne,upd_same],by rw[upd_ne hne] at hd;exact hd,by
  rw[del_upd2 ha hne]
  exact q dx (by rw[upd_ne hne] at hd;exact hd)⟩⟩⟩
structure XcFn (P:Program) (K:Kf) (C f:Addr) (qual:Str) (st:Stmt) (fd:FuncData):Prop where
 ex:∃(oc:Value) (od:Option Addr) (kV doc pm:Value) (an:Option Addr) (cda:Addr) (ct:Value) (cc:Addr) (osl:Array (Option Value)),
  fd=PySem.W.ksFn "__init__" qual (defArgs st) (defBody st) (defScope st) .none kV doc pm an (.ref cda) ct cc∧K.lookup f=some ⟨oc,od,.func fd,osl⟩∧PySem.W.codeIn K (.ref cda) qual=true∧XcC P K C cda cc
def fmtOk:V→Prop
 | .str y=>y.length≤1000000
 | .int i=>i.natAbs.log2<1920
 |_=>False
def Says (x:Str) (i:Nat) (ok:V→Prop) (e:Expr):Prop:=∀X:Cx,X.N[i]?=some x→Vis X.env.scope x→∃te,PE X e te∧∀σ H Q v,σ[i]?=some (some v)→ok v→(∀s,Q (.str s) H)→te σ H Q
section
variable {x:Str} {i:Nat} {ok:V→Prop}
theorem says_const {m:Str} {j:Nat} {p:Pos}:Says x i ok (.Constant (.str m) j p):=fun X _ _=>⟨_,pe_str,fun σ H Q v _ _ q=>q m⟩
theorem fmt_run {X:Cx} (σ:L2.St) (H:Hp) (Q:VK) (v:V) (e:σ[i]?=some (some v)) (h:fmtOk v) (q:∀y:Str,y.length≤1000000→Q (.str y) H):tFmt (tVar i) σ H Q:=by
 refine⟨v,e,?_⟩
 cases v with
 |str y=>exact .inl ⟨y,rfl,Nat.le_trans h (by rw[sizeLine_eq];decide),q y h⟩
 |int a=>
  have l:(toString a).length≤1921:=int_text_length_le (k:=1920) (by decide) h
  exact .inr ⟨a,rfl,h,q _ (by
   show(Str.ofString (toString a)).length≤1000000
   rw[PySem.ofString_length]
   omega)⟩
 |_=>exact h.elim
theorem cat_le {a b:Str} {n k:Nat} (h1:a.length≤n) (h2:b.length≤k) (h:n+k≤16777216):(a++b).length≤sizeLine:=by
 rw[sizeLine_eq]
 have e:(a++b).length=a.length+b.length:=by
  show(a.cps++b.cps).size=a.cps.size+b.cps.size
  rw[Array.size_append]
 omega
theorem says_f2 {m:Str} {j:Nat} {p p2 p3 p4:Pos} (hm:m.length≤1000) (hd:(x==("__debug__":Str))=false) (hcd:(x==("__classdict__":Str))=false):Says x i fmtOk (.JoinedStr [.Constant (.str m) j p,.FormattedValue (.Name x p2) (-1) none p3] p4):=fun X hN hv=>
 ⟨_,pe_joined (PJ.cons pe_str (PJ.cons (pe_fmt (pe_var hN hv hd hcd)) PJ.nil)),fun σ H Q v e h q=>⟨m,rfl,cat_le (n:=0) (z35 _) hm (by decide),fmt_run (X:=X) σ H _ v e h fun y hy=>
  ⟨y,rfl,cat_le (n:=1000) (k:=1000000) (by
    have:(Str.empty++m).length=m.length:=by
     show(Str.empty.cps++m.cps).size=m.cps.size
     rw[Array.size_append]
     exact Nat.zero_add _
    omega) hy (by decide),q _⟩⟩⟩
theorem says_f3 {m m2:Str} {j j2:Nat} {p p2 p3 p4 p5:Pos} (hm:m.length≤1000) (hm2:m2.length≤1000) (hd:(x==("__debug__":Str))=false) (hcd:(x==("__classdict__":Str))=false):Says x i fmtOk (.JoinedStr [.Constant (.str m) j p,.FormattedValue (.Name x p2) (-1) none p3,.Constant (.str m2) j2 p5] p4):=fun X hN hv=>
 ⟨_,pe_joined (PJ.cons pe_str (PJ.cons (pe_fmt (pe_var hN hv hd hcd)) (PJ.cons pe_str PJ.nil))),fun σ H Q v e h q=>⟨m,rfl,cat_le (n:=0) (z35 _) hm (by decide),fmt_run (X:=X) σ H _ v e h fun y hy=>by
  have e1:(Str.empty++m).length=m.length:=by
    show(Str.empty.cps++m.cps).size=m.cps.size
    rw[Array.size_append]
    exact Nat.zero_add _
  have e2:(Str.empty++m++y).length=m.length+y.length:=by
    show((Str.empty++m).cps++y.cps).size=_
    rw[Array.size_append]
    show(Str.empty++m).length+y.length=_
    rw[e1]
  exact⟨y,rfl,cat_le (n:=1000) (k:=1000000) (by omega) hy (by decide),m2,rfl,cat_le (n:=1001000) (k:=1000) (by omega) hm2 (by decide),q _⟩⟩⟩
end
section
variable {P:Program} {w:World} {K:Kf} {mg:Str→Option Value} {base:Heap} {C f:Addr} {qual:Str} {st:Stmt} {fd:FuncData} {CX:CXT}
theorem ini0 {m:Str} {j:Nat} {p0 p1 p2 p3 p4 p5:Pos} {ar:Arg} (F:XcFn P K C f qual st fd) (hmg:mg "super"=none) (hb:defBody st= [.Expr (.Call (.Attribute (.Call (.Name "super" p0) [] [] p1) "__init__" p2) [.Constant (.str m) j p5] [] p3) p4])
 (S:XScope ["self"] ["self"] (defScope st)) (hp:((defArgs st).posonlyargs++(defArgs st).args).head?=some ar) (har:ar.arg= "self")
 (hev:∀env:Env,∃pl,eval (.Call (.Attribute (.Call (.Name "super" p0) [] [] p1) "__init__" p2) [.Constant (.str m) j p5] [] p3) env=(do
  let ov←attributeBase (.Call (.Name "super" p0) [] [] p1) "__init__" env (eval (.Call (.Name "super" p0) [] [] p1) env)
  standAt p2.atName
  let(f,first)←holding [ov] (getMethod ov "__init__" pl)
  callWith p3 f first (backTo p3 (starEach [.Constant (.str m) j p5] env)) []):=by exact fun _=>⟨_,rfl⟩)
 (hsw:∀env:Env,swapsWith (.Call (.Attribute (.Call (.Name "super" p0) [] [] p1) "__init__" p2) [.Constant (.str m) j p5] [] p3) none p4.line env=pure false:=by exact fun _=>rfl):FnOk P w K mg base CX 1 f fd ["self"] (spI0 C):=by
 obtain⟨oc,od,kV,doc,pm,an,cda,ct,cc,osl,rfl,lk,hcd,T⟩:=F.ex
 refine xc_ok lk hcd T hb S (fun vs H Q E ⟨a,e,_⟩=>by rw[e];rfl) hp (by rw[har];rfl) hmg (fun A outer s H vs Q E hr ⟨a,e,ha,q⟩=> ?_) (fun _=>rfl) (fun _=>rfl) hev hsw
 exact⟨a,[],_,_,e,ha,pa_cons pe_str pa_nil,pss_nil,(show 1≤1000 by decide),ha,q⟩
theorem ini1 {x fn:Str} {ok:V→Prop} {e:Expr} {p0 p1 p2 p3 p4 q1 q2 q3 q4:Pos} {ar:Arg} (F:XcFn P K C f qual st fd) (hmg:mg "super"=none)
 (hb:defBody st= [.Expr (.Call (.Attribute (.Call (.Name "super" p0) [] [] p1) "__init__" p2) [e] [] p3) p4,.Assign [.Attribute (.Name "self" q1) fn q2] (.Name x q3) q4])
 (S:XScope ["self",x] ["self",x] (defScope st)) (hp:((defArgs st).posonlyargs++(defArgs st).args).head?=some ar) (har:ar.arg= "self") (hno:PySem.W.findIn K (.ref C) fn=some none) (hs:Says x 1 ok e)
 (hd:(x==("__debug__":Str))=false) (hcd:(x==("__classdict__":Str))=false)
 (he:∀env:Env,starEach [e] env=(false,eval e env)::starEach [] env:=by exact fun _=>rfl) (hpl:∀env:Env,(backTo p3 (starEach [] env)).any (·.1)=false:=by exact fun _=>rfl)
 (hev:∀env:Env,∃pl,eval (.Call (.Attribute (.Call (.Name "super" p0) [] [] p1) "__init__" p2) [e] [] p3) env=(do
  let ov←attributeBase (.Call (.Name "super" p0) [] [] p1) "__init__" env (eval (.Call (.Name "super" p0) [] [] p1) env)
  standAt p2.atName
  let(f,first)←holding [ov] (getMethod ov "__init__" pl)
  callWith p3 f first (backTo p3 (starEach [e] env)) []):=by exact fun _=>⟨_,rfl⟩)
 (hsw:∀env:Env,swapsWith (.Call (.Attribute (.Call (.Name "super" p0) [] [] p1) "__init__" p2) [e] [] p3) none p4.line env=pure false:=by exact fun _=>rfl)
 (hsw2:∀env:Env,swapsWith (.Name x q3) (some (.Attribute (.Name "self" q1) fn q2)) q4.line env=pure false:=by exact fun _=>rfl):FnOk P w K mg base CX 1 f fd ["self",x] (spI1 C fn ok):=by
 obtain⟨oc,od,kV,doc,pm,an,cda,ct,cc,osl,rfl,lk,hcd',T⟩:=F.ex
 refine xc_ok lk hcd' T hb S (fun vs H Q E ⟨a,v,e,_⟩=>by rw[e];rfl) hp (by rw[har];rfl) hmg (fun A outer s H vs Q E hr ⟨a,v,ev,ha,hv,q⟩=> ?_) he hpl hev hsw
 obtain⟨te,h1,h2⟩:=hs (xcCx CX P w K mg base ["self",x] qual (defScope st) f cda cc A outer s H E) rfl (.inl (S.par x (by simp)))
 refine⟨a,[v],_,_,ev,ha,pa_cons h1 pa_nil (he _),pss_one (ps_ost (pe_var (i:=0) rfl (.inl (S.par "self" (by simp)))) (pe_var (i:=1) rfl (.inl (S.par x (by simp))) hd hcd) (hsw2 _)),?_⟩
 subst ev
 refine h2 _ _ _ v rfl hv fun s=>⟨(show 1≤1000 by decide),ha,v,rfl,.ref a,rfl,a,C,rfl,T.o,hno,.inl ⟨ha,fun dx hdx hne=>q dx hdx hne⟩⟩
end
structure SuC (P:Program) (K:Kf) (C cda cc g:Addr):Prop where
 cl:∃cd,PySem.W.clsIn K C=some cd
 code:∃ccl cdd vs ccs file tf,K.lookup cda=some ⟨ccl,cdd,.fields vs,ccs⟩∧vs[2]?=some (.str file tf)∧(P.main.file==file)=true
 cell:∃cl cld csl,K.lookup cc=some ⟨cl,cld,.cell (some (.ref C)),csl⟩
 sup:PySem.W.ks_superIn K C C "__init__"=some (some (.ref g))
 fn:PySem.W.fnIn K g=true
 ty:PySem.W.typeIn K (.ref g)=some (.type "function")
 own:PySem.W.mroIn K C (.ref C)=some true
 any:PySem.W.nsIn K cStatics "thirdparty.any"=some none
 top:(P.main.scope.names.lookup ("super":Str)).isSome=false
theorem su_ok {P:Program} {w:World} {K:Kf} {mg:Str→Option Value} {base:Heap} {k k0:Nat} {f C cc cda g:Addr} {fd0:FuncData} {ps0:List Str} {sp0:Sp} {name qual:Str} {params:Arguments} {body rest:List Stmt} {scope:Scope} {dV kV doc pm ct oc:Value} {an od:Option Addr}
 {osl:Array (Option Value)} {N ps:List Str} {sp:Sp} {e:Expr} {es:List Expr} {p0 p1 p2 p3 p4:Pos} {ar:Arg}
 (lk:K.lookup f=some ⟨oc,od,.func (PySem.W.ksFn name qual params body scope dV kV doc pm an (.ref cda) ct cc),osl⟩) (hcd:PySem.W.codeIn K (.ref cda) qual=true) (T:SuC P K C cda cc g) (F0:FnOk P w K mg base (L2.CX P w) k0 g fd0 ps0 sp0) (B0:Binds K fd0 ps0 []) (hk0:k0≤k)
 (hbd:body= .Expr (.Call (.Attribute (.Call (.Name "super" p0) [] [] p1) "__init__" p2) (e::es) [] p3) p4::rest) (S:XScope N ps scope) (len:∀vs H Q E,sp vs H Q E→vs.length=ps.length)
 (hp:(params.posonlyargs++params.args).head?=some ar) (har:ps[0]?=some ar.arg) (hmg:mg "super"=none)
 (hbody:∀(A:Around) (outer:List Env) (s:Shared) (H:Hp) (vs:List V) (Q:VK) (E:XK),Room k (A.deeper (PySem.W.ksEnv qual scope s.heap.objs.size f (.ref cda) cc))→sp vs H Q E→
  ∃a dx ws ta t,vs= .ref a::ws∧H a=some (.ins C dx [])∧PA (xcCx (L2.CX P w) P w K mg base N qual scope f cda cc A outer s H E) (e::es) ta∧PSs (xcCx (L2.CX P w) P w K mg base N qual scope f cda cc A outer s H E) rest t∧
   ta (L2.start N vs) H fun us H1=>sp0 (.ref a::us) H1 (fun _ H2=>t {nx:=fun _ H'=>Q .non H',rt:=Q} (L2.start N vs) H2) E0)
 (he:∀env:Env,starEach (e::es) env=(false,eval e env)::starEach es env:=by exact fun _=>rfl) (hpl:∀env:Env,(backTo p3 (starEach es env)).any (·.1)=false:=by exact fun _=>rfl)
 (hev:∀env:Env,∃pl,eval (.Call (.Attribute (.Call (.Name "super" p0) [] [] p1) "__init__" p2) (e::es) [] p3) env=(do
  let ov←attributeBase (.Call (.Name "super" p0) [] [] p1) "__init__" env (eval (.Call (.Name "super" p0) [] [] p1) env)
  standAt p2.atName
  let(f,first)←holding [ov] (getMethod ov "__init__" pl)
  callWith p3 f first (backTo p3 (starEach (e::es) env)) []):=by exact fun _=>⟨_,rfl⟩)
 (hsw:∀env:Env,swapsWith (.Call (.Attribute (.Call (.Name "super" p0) [] [] p1) "__init__" p2) (e::es) [] p3) none p4.line env=pure false:=by exact fun _=>rfl):
 FnOk P w K mg base (L2.CX P w) (k+1) f (PySem.W.ksFn name qual params body scope dV kV doc pm an (.ref cda) ct cc) ps sp:=by
 refine⟨len,fun A outer s H args us vs Q E hr e0 hb r hsp=> ?_⟩
 have hl:=len _ _ _ _ hsp
 have KX:K.In s.heap:=e0.mod.kin.keeps fun b o e=>(e0.bs b o e).1
 have lim:s.heap.NoLimit:=e0.mod.nolimit.keeps fun b o e=>(e0.bs b o e).1
 obtain⟨ccl,cdd,cvs,ccs,file,tf,lkc,hv2,hfile⟩:=T.code
 obtain⟨cl,cld,csl,lcell⟩:=T.cell
 obtain⟨cd,hcl⟩:=T.cl
 refine PySem.ks_codeAny_call_defAt (fd:=PySem.W.ksFn name qual params body scope dV kV doc pm an (.ref cda) ct cc) (body:=body) (binds:=ps.zip us) hr.depth (KX _ _ lk) rfl lim (PySem.W.codeRec_of KX hcd) rfl hb S.nocell
  (fun y hy=>S.par _ (List.of_mem_zip hy).1) (fun h₁ hns kp=> ?_) S.co S.gen S.kind
 have I0:Inv (xcCx (L2.CX P w) P w K mg base N qual scope f cda cc A outer s H E) [] (L2.start N vs) H {s with heap:=h₁,toks:=s.toks+(ps.zip us).length}:=xc_start S hr.hd e0 hl r hns kp ⟨_,_,e0.mod.kin _ _ lcell,rfl⟩
 obtain⟨a,dx,ws,ta,t,ev,ha,hta,ht,hq⟩:=hbody A outer s H vs Q E (hr.deeper _) hsp
 have fin:∀{fl:Flow} {s':Shared},SP (xcCx (L2.CX P w) P w K mg base N qual scope f cda cc A outer s H E) [] {nx:=fun _ H'=>Q .non H',rt:=Q} fl s'→CR (L2.CX P w) outer P w H s Q E (.ok (.ret (match fl with| .ret v=>v|_=> .none))) s':=fun{fl s'} hs=>by
  cases fl with
  |ret u=>
   obtain⟨v,σ',H',J,rv,q⟩:=hs
   exact⟨v,H',J.os,J.bare,J.base,J.hok,rv,q⟩
  |next=>
   obtain⟨σ',H',J,q⟩:=hs
   exact⟨.non,H',J.os,J.bare,J.base,J.hok,rfl,q⟩
  |brk=>
   obtain⟨_,_,_,q⟩:=hs
   exact False.elim q
  |cont=>
   obtain⟨_,_,_,q⟩:=hs
   exact False.elim q
 subst ev
 cases r with
 | @cons _ u0 _ ur ra rw'=>
 obtain rfl:u0=Value.ref a:=ra
 have ndP:ps.Nodup:=by rw[←S.pre];exact S.nd.sublist (List.take_sublist _ _)
 have hself:(ps.zip (Value.ref a::ur)).reverse.lookup ar.arg=some (Value.ref a):=zip_look ndP har rfl
 have hD:∃oD,h₁.get? C=some oD∧oD.data= .cls cd:=by
  unfold PySem.W.clsIn at hcl
  split at hcl
  ·rename_i c d cd' sl ho
   cases hcl
   exact⟨_,kp _ _ (KX _ _ ho),rfl⟩
  ·cases hcl
 obtain⟨oD,hD1,hD2⟩:=hD
 obtain⟨mA,J,_⟩:=ins_get I0.hok ha
 obtain⟨od',J,_⟩:=J.look
 have KX1:K.In h₁:=fun b o z=>kp _ _ (KX _ _ z)
 have hks:(PySem.W.ksEnv qual scope s.heap.objs.size f (.ref cda) cc).kindOf "super"=some .globalImplicit:=S.sup
 have hkc:(PySem.W.ksEnv qual scope s.heap.objs.size f (.ref cda) cc).kindOf "__class__"=some .free:=S.cls
 have hka:(PySem.W.ksEnv qual scope s.heap.objs.size f (.ref cda) cc).kindOf ar.arg=some .local:=S.par _ (z11 har)
 obtain⟨mb,hb1,hb2⟩:=e0.mod.blt
 show _root_.PySem.wpAt _ (A.deeper (PySem.W.ksEnv qual scope s.heap.objs.size f (.ref cda) cc)) (.func body (PySem.W.ksEnv qual scope s.heap.objs.size f (.ref cda) cc)) (execs body (PySem.W.ksEnv qual scope s.heap.objs.size f (.ref cda) cc)) _ _ _
 obtain⟨hp0,gg,dd0,tt,os0⟩:=s
 refine PySem.wpAt_mono (Q:=SP (xcCx (L2.CX P w) P w K mg base N qual scope f cda cc A outer ⟨hp0,gg,dd0,tt,os0⟩ H E) [] {nx:=fun _ H'=>Q .non H',rt:=Q}) ?_ (fun fl s' hs=>fin hs) fun _ _ z=>z
 have bk:∀b o,base.get? b=some o→h₁.get? b=some o:=fun b o z=>kp _ _ (e0.bs b o z).1
 suffices main:∀body',body'=body→_root_.PySem.wpAt (model P w) (A.deeper (PySem.W.ksEnv qual scope hp0.objs.size f (.ref cda) cc)) (.func body' (PySem.W.ksEnv qual scope hp0.objs.size f (.ref cda) cc)) (execs body (PySem.W.ksEnv qual scope hp0.objs.size f (.ref cda) cc))
  (SP (xcCx (L2.CX P w) P w K mg base N qual scope f cda cc A outer ⟨hp0,gg,dd0,tt,os0⟩ H E) [] {nx:=fun _ H'=>Q .non H',rt:=Q}) (xcCx (L2.CX P w) P w K mg base N qual scope f cda cc A outer ⟨hp0,gg,dd0,tt,os0⟩ H E).xe ⟨h₁,gg,dd0,tt+(ps.zip (Value.ref a::ur)).length,os0⟩ from main body rfl
 intro body' _
 rw[hbd]
 obtain⟨pl,hev⟩:=hev (PySem.W.ksEnv qual scope hp0.objs.size f (.ref cda) cc)
 refine PySem.ks_wpAt_execs_cons (PySem.ks_wpAt_Expr_any (PySem.ks_wpAt_MethodCall (pl:=pl) ?_ hev) I0.quiet (hsw _))
 refine PySem.ks_wpAt_super_base hks hkc (by decide) rfl (KX1 _ _ lk) rfl hp rfl (KX1 _ _ lkc) rfl hv2 hfile T.top ?_
 refine PySem.W.ks_loadName_global S.kind hks (Calls.loadGlobal_builtin (e0.mod.glob.keeps bk) hmg (hb1.keeps bk) ((hb2 "super" (by decide)).trans PyProof.Rows.Boot.«super») ⟨rfl,?_⟩)
 refine wpAny_loadName_free S.kind hkc rfl ⟨_,KX1 _ _ lcell,rfl⟩ ?_
 refine wpAny_loadName_local S.kind hka hns hself ?_
 refine PySem.ks_wpAny_isType_cls hD1 hD2 ⟨rfl,?_⟩
 refine PySem.ks_wpAny_call_super hD1 hD2 J.at_ J.cls (fun c z=> ?_) (PySem.W.looks_mroIn KX1 T.own) (fun h2 eso k2'=> ?_)
 ·have nn:=J.no
  unfold PySem.W.notCls at nn
  rw[z] at nn
  exact Bool.noConfusion nn
 have KX2:K.In h2:=fun b o z=>k2' _ _ (KX1 _ _ z)
 have hsup:=T.sup
 unfold PySem.W.ks_superIn at hsup
 rw[hcl] at hsup
 obtain⟨of,hof,hofc⟩:∃of,h2.get? g=some of∧of.cls= .type "function":=by
  have ht':(K.lookup g).map (·.cls)=some (.type "function"):=T.ty
  cases z:K.lookup g with
  |none=>rw[z] at ht';cases ht'
  |some of=>rw[z] at ht';exact⟨of,KX2 _ _ z,z33 ht'⟩
 have I1:=I0.kept (t':=tt+(ps.zip (Value.ref a::ur)).length) k2'
 obtain⟨mA2,J2,_⟩:=ins_get I1.hok ha
 obtain⟨od2,J2,_⟩:=J2.look
 refine PySem.ks_wpAny_getMethod_super (l₀:=cd.mro) eso (PySem.W.looks_opaque KX2 T.any) (fun A Q E s k q=>wpAny_bind ((PySem.W.looks_clsIn KX2 hcl) A _ E s k (wpAny_pure q))) rfl KX2 hsup hof hofc (PySem.W.ks_ne KX2 J2 hcl) (by decide) ?_
 have I3:=ClX.met_new (g:=g) (C:=a) I1
 have hb3:=ClX.base_none I1 (z34 _)
 show wpAny _ _ (callWith p3 (.ref h2.objs.size) [] (backTo p3 (starEach (e::es) (PySem.W.ksEnv qual scope hp0.objs.size f (.ref cda) cc))) []) _ _ _
 have hrun:=hta.run p3 _ _ _ _ _ I3 hq
 refine ClX.callwith_cm I3 hb3 T.fn ?_ (he _) (hpl _)
 refine thn hrun fun vs1 s4 hh=> ?_
 obtain⟨xs,H1,I4,r4,hqt⟩:=hh
 refine⟨⟨ClX.pin_at I4,I4.kIn⟩,?_⟩
 refine wpAny_mono (ClX.run_cm (k:=k0) (F0.raw B0 .nil) ((hr.deeper _).mono hk0) passL I4 r4 (by rw[z26];exact hqt)) (fun v s5 hv=> ?_) fun _ _ z=>z
 obtain⟨v',H2,I5,_,ht5⟩:=hv
 exact PySem.wpAt_of_wpAny (ht.run [] _ _ H2 _ I5 ht5)
structure SuFn (P:Program) (K:Kf) (C f g:Addr) (qual:Str) (st:Stmt) (fd:FuncData):Prop where
 ex:∃(oc:Value) (od:Option Addr) (kV doc pm:Value) (an:Option Addr) (cda:Addr) (ct:Value) (cc:Addr) (osl:Array (Option Value)),fd=PySem.W.ksFn "__init__" qual (defArgs st) (defBody st) (defScope st) .none kV doc pm an (.ref cda) ct cc∧
  K.lookup f=some ⟨oc,od,.func fd,osl⟩∧PySem.W.codeIn K (.ref cda) qual=true∧SuC P K C cda cc g
end Eb
namespace Eb
open PySem PySem.Spec PyProof.Rows L2 He
theorem oexB_ok {K:Kf} {C:Addr} (h:oexB K C=true):∃nm q N bs bm sn sub ab col dd k0 k1 k2 k3 k5,K.lookup C=some (excClassObj nm q C N bs bm true sn sub ab col dd k0 k1 k2 k3 k5 "ValueError.__new__")∧PySem.HandSPX.refsVE bm=true:=by
 unfold oexB at h
 split at h
 ·rename_i t dd cd sl ho
  split at h
  ·rename_i C' bm k0 k1 k2 k3 n k5 hm hs
   obtain⟨h0,h⟩:=ba h
   obtain⟨h1,h⟩:=ba h
   obtain⟨h2,h⟩:=ba h
   obtain⟨h3,h⟩:=ba h
   obtain⟨h4,h5⟩:=ba h
   have e0:=of_decide_eq_true h0
   have e1:=of_decide_eq_true h1
   have e2:=of_decide_eq_true h2
   have e3:cd.hasDel=false:=by
        cases z:cd.hasDel with
        |false=>rfl
        |true=>rw[z] at h3;cases h3
   subst e0 e1 e2
   obtain⟨nm,bs,mro,ns,qn,hd,sn,sub,ab,col,del⟩:=cd
   dsimp only at hm e3 h4
   subst hm e3 h4
   have hsl:sl= #[k0,k1,k2,k3,some (.builtin "ValueError.__new__"),k5]:=by
        obtain⟨l⟩:=sl
        simp only at hs
        rw[hs]
   subst hsl
   exact⟨nm,qn,ns,bs,bm,sn,sub,ab,col,dd,k0,k1,k2,k3,k5,ho,h5⟩
  ·cases h
 ·cases h
theorem codeB_ok {P:Program} {K:Kf} {cda:Addr} (h:codeB P K cda=true):∃ccl cdd vs ccs file tf,K.lookup cda=some ⟨ccl,cdd,.fields vs,ccs⟩∧vs[2]?=some (.str file tf)∧(P.main.file==file)=true:=by
 unfold codeB at h
 split at h
 ·rename_i ho
  split at h
  ·rename_i hv
   exact⟨_,_,_,_,_,_,ho,hv,h⟩
  ·cases h
 ·cases h
theorem cellB_ok {K:Kf} {cc C:Addr} (h:cellB K cc C=true):∃cl cld csl,K.lookup cc=some ⟨cl,cld,.cell (some (.ref C)),csl⟩:=by
 unfold cellB at h
 split at h
 ·rename_i ho
  have e:=of_decide_eq_true h
  subst e
  exact⟨_,_,_,ho⟩
 ·cases h
structure XcAll (P:Program) (K:Kf) (x:Str) (st:Stmt) (qual:Str) (f:Addr) (fd:FuncData):Prop where
 fn:XcFn P K (ga K x) f qual st fd
 o:OexC K (ga K x)
 ini:PySem.W.findIn K (.ref (ga K x)) "__init__"=some (some (.ref f))
 ty:PySem.W.typeIn K (.ref f)=some (.type "function")
 xf:XfC K (ga K x)
 ec:ExcC K (ga K x)
theorem xc_all {P:Program} {K:Kf} {x qual:Str} {st:Stmt} (e:xfW K x=(mkXD x qual st).val) (h:xcB P K x qual=true):∃f fd,XcAll P K x st qual f fd:=by
 unfold xcB at h
 obtain⟨h1,h⟩:=ba h
 obtain⟨h2,h⟩:=ba h
 obtain⟨h3,h⟩:=ba h
 obtain⟨h4,h⟩:=ba h
 obtain⟨h5,h⟩:=ba h
 obtain⟨h6,h⟩:=ba h
 obtain⟨h7,h⟩:=ba h
 obtain⟨h8,h⟩:=ba h
 obtain⟨h9,h⟩:=ba h
 obtain⟨h10,h⟩:=ba h
 obtain⟨h11,h⟩:=ba h
 obtain⟨h12,h⟩:=ba h
 obtain⟨h13,h⟩:=ba h
 obtain⟨h14,h⟩:=ba h
 obtain⟨h15,h⟩:=ba h
 obtain⟨h16,h⟩:=ba h
 obtain⟨h17,h18⟩:=ba h
 have O:OexC K (ga K x):=⟨oexB_ok h1,eqO_ok h2,of_decide_eq_true h3,of_decide_eq_true h4,h5⟩
 have XF:=xfB_ok h14
 unfold finB at h6
 unfold xfW at e
 split at h6
 ·rename_i oc od fd osl lk
  rw[lk] at e
  split at h6
  ·rename_i cda n cc hcd hcl hdf
   obtain⟨c1,c2⟩:=ba h6
   obtain⟨c3,c4⟩:=ba c2
   obtain⟨n1,n2,n3,n4,n5,n6,n7,n8,n9,n10,n11,n12,n13,n14,n15⟩:=fd
   dsimp only at hcd hcl hdf
   subst hcd hcl hdf
   have e2:(some (n1,n2,n3,n4,n5,n6,[n],n15):XfW)=(some (("__init__":Str),qual,defArgs st,FuncBody.stmts (defBody st),defScope st,mainGlobals,[("__class__":Str)],builtinsNs):XfW):=e
   simp only[Option.some.injEq,Prod.mk.injEq,List.cons.injEq,and_true] at e2
   obtain⟨k1,k2,k3,k4,k5,k6,k7,k8⟩:=e2
   subst k1 k2 k3 k4 k5 k6 k7 k8
   have ht:(P.main.scope.names.lookup ("super":Str)).isSome=false:=by
        cases z:(P.main.scope.names.lookup ("super":Str)).isSome with
        |false=>rfl
        |true=>rw[z] at h11;cases h11
   exact⟨_,_,⟨⟨oc,od,n9,n10,n11,n12,cda,n14,cc,osl,rfl,lk,c1,⟨O,codeB_ok c3,cellB_ok c4,eqO_ok h7,of_decide_eq_true h8,of_decide_eq_true h9,eqO_ok h10,ht⟩⟩,O,eqO_ok h12,of_decide_eq_true h13,XF,
        ⟨XF.ga,XF.gg,XF.exC,XF.hdC,eqO_ok h15,eqO_ok h16,of_decide_eq_true h17,of_decide_eq_true h18⟩⟩⟩
  ·cases h6
 ·cases h6
theorem su_all {P:Program} {K:Kf} {x base qual:Str} {st:Stmt} (e:xfW K x=(mkXD x qual st).val) (h:suB P K (mkSD x base qual st)=true):∃fd,SuFn P K (ga K x) (fAd K (x,some "__init__")) (fAd K (base,some "__init__")) qual st fd:=by
 unfold suB at h
 obtain⟨h1,h⟩:=ba h
 obtain⟨h6,h⟩:=ba h
 obtain⟨h7,h⟩:=ba h
 obtain⟨h8,h⟩:=ba h
 obtain⟨h9,h⟩:=ba h
 obtain⟨h10,h⟩:=ba h
 obtain⟨h11,h12⟩:=ba h
 have h6:finB P K x qual=true:=h6
 unfold finB at h6
 unfold xfW at e
 split at h6
 ·rename_i oc od fd osl lk
  rw[lk] at e
  split at h6
  ·rename_i cda n cc hcd hcl hdf
   obtain⟨c1,c2⟩:=ba h6
   obtain⟨c3,c4⟩:=ba c2
   obtain⟨n1,n2,n3,n4,n5,n6,n7,n8,n9,n10,n11,n12,n13,n14,n15⟩:=fd
   dsimp only at hcd hcl hdf
   subst hcd hcl hdf
   have e2:(some (n1,n2,n3,n4,n5,n6,[n],n15):XfW)=(some (("__init__":Str),qual,defArgs st,FuncBody.stmts (defBody st),defScope st,mainGlobals,[("__class__":Str)],builtinsNs):XfW):=e
   simp only[Option.some.injEq,Prod.mk.injEq,List.cons.injEq,and_true] at e2
   obtain⟨k1,k2,k3,k4,k5,k6,k7,k8⟩:=e2
   subst k1 k2 k3 k4 k5 k6 k7 k8
   have ht:(P.main.scope.names.lookup ("super":Str)).isSome=false:=by
        cases z:(P.main.scope.names.lookup ("super":Str)).isSome with
        |false=>rfl
        |true=>rw[z] at h12;cases h12
   exact⟨_,⟨oc,od,n9,n10,n11,n12,cda,n14,cc,osl,rfl,lk,c1,⟨Option.isSome_iff_exists.mp h1,codeB_ok c3,cellB_ok c4,eqO_ok h7,h8,of_decide_eq_true h9,of_decide_eq_true h10,eqO_ok h11,ht⟩⟩⟩
  ·cases h6
 ·cases h6
section
variable {P:Program} {D:HD} {w:World} {h:Heap} {K:Kf}
theorem SaysF.exc (c:SaysF P D w h K) {x qual:Str} {st:Stmt} (hm:mkXD x qual st∈D.xs):∃f fd,XcAll P K x st qual f fd:=by
 refine xc_all ?_ (c.c _ hm)
 obtain⟨i,hi,e⟩:=List.mem_iff_getElem.mp hm
 have q:(D.xs.map (fun d=>xfW K d.cls))[i]?=(D.xs.map XD.val)[i]?:=by rw[c.v]
 rw[z10,z10,z9 hi,e] at q
 exact z33 q
theorem SaysF.sup (c:SaysF P D w h K) {x base qual:Str} {st:Stmt} (hm:mkSD x base qual st∈D.su):∃fd,SuFn P K (ga K x) (fAd K (x,some "__init__")) (fAd K (base,some "__init__")) qual st fd:=by
 refine su_all ?_ (c.s _ hm)
 obtain⟨i,hi,e⟩:=List.mem_iff_getElem.mp hm
 have q:(D.su.map (fun d=>xfW K d.d.cls))[i]?=(D.su.map fun d=>d.d.val)[i]?:=by rw[c.sv]
 rw[z10,z10,z9 hi,e] at q
 exact z33 q
theorem mk_of_all {mg:Str→Option Value} {base:Heap} {x qual:Str} {st:Stmt} {ps:List Str} {sp:Sp} {f:Addr} {fd:FuncData} (A:XcAll P K x st qual f fd) (g:mg x=some (.ref (ga K x)))
 (ok:FnOk P w K mg base (L2.CX P w) 1 f fd ps sp)
 (hb:∀(kV doc pm:Value) (an:Option Addr) (cda:Addr) (ct:Value) (cc:Addr) (us:List Value),us.length=ps.length→bindArgs (PySem.W.ksFn "__init__" qual (defArgs st) (defBody st) (defScope st) .none kV doc pm an (.ref cda) ct cc) ⟨us,[]⟩=pure (ps.zip us)):
 Mk P w K mg base x (ga K x) ps sp:=by
 obtain⟨oc,od,kV,doc,pm,an,cda,ct,cc,osl,rfl,_⟩:=A.fn.ex
 exact⟨A.o,g,f,_,A.ini,A.ty,ok,.all (hb kV doc pm an cda ct cc)⟩
end
end Eb
namespace Eb
open PySem PySem.Spec PyProof.Rows L2
def anyOk:V→Prop:=fun _=>True
section
variable {X:Cx}
theorem cr_repr:CallR X (.builtin "repr") zRepr:=by
 intro pins s σ H xs us Q I r h
 unfold zRepr at h
 split at h
 ·obtain⟨hz,q⟩:=h
  obtain⟨u,rfl,t,rfl⟩:=vals1 r
  exact PySem.P.repr_of_int hz ⟨.str _,H,I.tok _,⟨_,rfl⟩,q⟩
 ·obtain⟨hz,q⟩:=h
  obtain⟨u,rfl,t,rfl⟩:=vals1 r
  exact PySem.P.repr_of_str ⟨.str _,H,I.tok _,⟨_,rfl⟩,q⟩ hz
 ·obtain⟨u,rfl,e⟩:=vals1 r
  cases e
  exact PySem.P.repr_of_bool ⟨.str _,H,I.tok _,⟨_,rfl⟩,h⟩
 ·exact h.elim
end
def yPar3 (i j l:Nat) (ta:TA):TS:=fun D σ H=>ta σ H fun vs H1=>match vs with
 |[u,v,w]=>D.nx (((σ.set i (some u)).set j (some v)).set l (some w)) H1
 |_=>False
theorem ys_par3 {X:Cx} {i j l:Nat} {st:Stmt} {ta:TA} (h:PS X st (tPar3 i j l (upA ta))):PS X st (yPar3 i j l ta):=
 PS.imp h fun D σ H q=>⟨_,q,fun vs H1 q1=>by
  match vs,q1 with
  |[u,v,w],q1=>exact⟨u,v,w,rfl,q1⟩⟩
theorem upd_idem {H:Hp} {a:Addr} {o1 o2:HO}:upd (upd H a o1) a o2=upd H a o2:=by
 funext b
 by_cases h:b=a
 ·rw[h,upd_same,upd_same]
 ·rw[upd_ne h,upd_ne h,upd_ne h]
theorem log_1920 {n:Nat} (h:n<2^60):((n:Nat):Int).natAbs.log2<1920:=by
 have e:((n:Nat):Int).natAbs=n:=by simp
 rw[e]
 by_cases h0:n=0
 ·subst h0
  decide
 ·exact Nat.lt_trans ((Nat.log2_lt h0).mpr h) (by decide)
section
variable {prog:Program} {w:World} {A:Around} {E:Value→Shared→Prop} {s:Shared}
theorem zipTH_next_item {z TI TO T i1 i2 l1 l2:Addr} {f:Bool} {oT:Obj} {k1 k2:Nat} {xs ys:Array Value} {x y:Value} {Q:Value→Shared→Prop} (D:ZipApart z TI TO i1 i2 l1 l2)
 (hz:IsZipHeld s.heap z TI TO T f) (hT:s.heap.get? T=some oT) (hTI:IsPair s.heap TI (.ref i1) (.ref i2))
 (h1:s.heap.IsTupleIter i1 l1 k1) (h2:s.heap.IsTupleIter i2 l2 k2) (hl1:s.heap.IsTuple l1 xs) (hl2:s.heap.IsTuple l2 ys) (hx:xs[k1]?=some x) (hy:ys[k2]?=some y)
 (hQ:∀h',IsZipHeld h' z TI TO T true→h'.IsTupleIter i1 l1 (k1+1)→h'.IsTupleIter i2 l2 (k2+1)→IsPair h' s.heap.objs.size x y→h'.objs.size=s.heap.objs.size+1→
  (∀c o,c≠z→c≠i1→c≠i2→s.heap.get? c=some o→h'.get? c=some o)→Q (.ref s.heap.objs.size) {s with heap:=h'}):
 wpAny (model prog w) A (Builtin.«zip.__next__» ⟨[.ref z],[]⟩) (fun fin s'=>∃v,fin= .done (.ret v)∧Q v s') E s:=by
 show wpAny _ _ (field (.ref z) 2>>=_) _ _ _
 refine wpAny_bind (wpAny_field hz rfl (x:= .bool false) rfl ?_)
 show wpAny _ _ (field (.ref z) 3>>=_) _ _ _
 refine wpAny_bind (wpAny_field hz rfl (x:= .ref TI) rfl ?_)
 refine wpAny_bind (wpAny_seqItems hTI rfl ?_)
 show wpAny _ _ (Builtin.SmallTypes.ownedTupleIsFree (.ref z)>>=_) _ _ _
 refine wpAny_bind (wpAny_tupleHeld_zip hz hT fun h₁ hz₁ hs₁=> ?_)
 simp only[Bool.false_eq_true,if_false]
 refine wpAny_bind ?_
 rw[←Array.forIn_toList]
 simp only[List.forIn_cons,List.forIn_nil]
 refine wpAny_bind (wpAny_bind (wpAny_holding ?_))
 show wpAny _ _ (Builtin.SmallTypes.nextOf (.ref i1)>>=_) _ _ _
 refine wpAny_bind (RZ.nextOf_tuple_item (s:={s with heap:=h₁}) (h1.extBut hs₁.extBut D.i1z) (hl1.extBut hs₁.extBut D.l1z) hx fun h₂ h1₂ hs₂=>wpAny_pure ?_)
 refine wpAny_pure ?_
 refine wpAny_bind (wpAny_bind (wpAny_holding ?_))
 show wpAny _ _ (Builtin.SmallTypes.nextOf (.ref i2)>>=_) _ _ _
 refine wpAny_bind (RZ.nextOf_tuple_item (s:={s with heap:=h₂}) ((h2.extBut hs₁.extBut D.i2z).extBut hs₂.extBut D.i12.symm) ((hl2.extBut hs₁.extBut D.l2z).extBut hs₂.extBut D.l2i1) hy fun h₃ h2₃ hs₃=>wpAny_pure ?_)
 refine wpAny_pure (wpAny_pure ?_)
 show wpAny _ _ (newTuple [x,y]>>=_) _ _ _
 refine wpAny_bind (wpAny_newTuple ?_)
 have hsz:h₃.objs.size=s.heap.objs.size:=by rw[hs₃.1,hs₂.1,hs₁.1]
 have hz₃:IsZipHeld h₃ z TI TO T true:=hs₃.extBut _ _ D.i2z.symm (hs₂.extBut _ _ D.i1z.symm hz₁)
 have hk:∀c o,c≠z→c≠i1→c≠i2→s.heap.get? c=some o→h₃.get? c=some o:=fun c o c1 c2 c3 e=>hs₃.extBut _ _ c3 (hs₂.extBut _ _ c2 (hs₁.extBut _ _ c1 e))
 have h1₃:h₃.IsTupleIter i1 l1 (k1+1):=h1₂.extBut hs₃.extBut D.i12
 refine wpAny_pure ⟨_,rfl,?_⟩
 show Q (.ref h₃.objs.size) _
 have hp:IsPair (h₃.push {cls:= .type "tuple",data:= .seq #[x,y]}) h₃.objs.size x y:=Heap.get?_push_size _ rfl
 have hz4:(h₃.push {cls:= .type "tuple",data:= .seq #[x,y]}).objs.size=h₃.objs.size+1:=Heap.size_push ..
 rw[hsz] at hp hz4⊢
 exact hQ _ (z21 _ hz₃) (h1₃.at fun o e=>z21 _ e) (h2₃.at fun o e=>z21 _ e) hp hz4 fun c o c1 c2 c3 e=>z21 _ (hk c o c1 c2 c3 e)
theorem zipTH_next_end {z TI TO T i1 i2 l1 l2:Addr} {f:Bool} {oT:Obj} {k1 k2:Nat} {xs ys:Array Value} {Q:Fin→Shared→Prop} (hh:A.handled=none) (D:ZipApart z TI TO i1 i2 l1 l2)
 (hz:IsZipHeld s.heap z TI TO T f) (hT:s.heap.get? T=some oT) (hTI:IsPair s.heap TI (.ref i1) (.ref i2))
 (h1:s.heap.IsTupleIter i1 l1 k1) (h2:s.heap.IsTupleIter i2 l2 k2) (hl1:s.heap.IsTuple l1 xs) (hl2:s.heap.IsTuple l2 ys) (hend:xs[k1]?=none∨ys[k2]?=none)
 (hE:∀h' e,(∀c o,c≠z→c≠i1→c≠i2→s.heap.get? c=some o→h'.get? c=some o)→(∃o,h'.get? e=some o∧o.cls= .type "StopIteration")→E (.ref e) {s with heap:=h'}):
 wpAny (model prog w) A (Builtin.«zip.__next__» ⟨[.ref z],[]⟩) Q E s:=by
 show wpAny _ _ (field (.ref z) 2>>=_) _ _ _
 refine wpAny_bind (wpAny_field hz rfl (x:= .bool false) rfl ?_)
 show wpAny _ _ (field (.ref z) 3>>=_) _ _ _
 refine wpAny_bind (wpAny_field hz rfl (x:= .ref TI) rfl ?_)
 refine wpAny_bind (wpAny_seqItems hTI rfl ?_)
 show wpAny _ _ (Builtin.SmallTypes.ownedTupleIsFree (.ref z)>>=_) _ _ _
 refine wpAny_bind (wpAny_tupleHeld_zip hz hT fun h₁ hz₁ hs₁=> ?_)
 simp only[Bool.false_eq_true,if_false]
 refine wpAny_bind ?_
 rw[←Array.forIn_toList]
 simp only[List.forIn_cons,List.forIn_nil]
 refine wpAny_bind (wpAny_bind (wpAny_holding ?_))
 show wpAny _ _ (Builtin.SmallTypes.nextOf (.ref i1)>>=_) _ _ _
 cases hx:xs[k1]? with
 |none=>
  refine wpAny_bind (RZ.nextOf_tuple_end (s:={s with heap:=h₁}) hh (h1.extBut hs₁.extBut D.i1z) (hl1.extBut hs₁.extBut D.l1z) hx fun h₂ e hs₂ he=> ?_)
  exact hE h₂ e (fun c o c1 c2 _ x=>hs₂ _ _ c2 (hs₁.extBut _ _ c1 x)) he
 |some x=>
  have hy:ys[k2]?=none:=by rcases hend with h|h;rw[hx] at h;cases h;exact h
  refine wpAny_bind (RZ.nextOf_tuple_item (s:={s with heap:=h₁}) (h1.extBut hs₁.extBut D.i1z) (hl1.extBut hs₁.extBut D.l1z) hx fun h₂ h1₂ hs₂=>wpAny_pure ?_)
  refine wpAny_pure ?_
  refine wpAny_bind (wpAny_bind (wpAny_holding ?_))
  show wpAny _ _ (Builtin.SmallTypes.nextOf (.ref i2)>>=_) _ _ _
  refine wpAny_bind (RZ.nextOf_tuple_end (s:={s with heap:=h₂}) hh ((h2.extBut hs₁.extBut D.i2z).extBut hs₂.extBut D.i12.symm) ((hl2.extBut hs₁.extBut D.l2z).extBut hs₂.extBut D.l2i1) hy fun h₃ e hs₃ he=> ?_)
  exact hE h₃ e (fun c o c1 c2 c3 x=>hs₃ _ _ c3 (hs₂.extBut _ _ c2 (hs₁.extBut _ _ c1 x))) he
theorem pyNext_zipTH_item {z TI TO T i1 i2 l1 l2:Addr} {f:Bool} {oT:Obj} {k1 k2:Nat} {xs ys:Array Value} {x y:Value} {Q:Option Value→Shared→Prop} (D:ZipApart z TI TO i1 i2 l1 l2)
 (hz:IsZipHeld s.heap z TI TO T f) (hT:s.heap.get? T=some oT) (hTI:IsPair s.heap TI (.ref i1) (.ref i2))
 (h1:s.heap.IsTupleIter i1 l1 k1) (h2:s.heap.IsTupleIter i2 l2 k2) (hl1:s.heap.IsTuple l1 xs) (hl2:s.heap.IsTuple l2 ys) (hx:xs[k1]?=some x) (hy:ys[k2]?=some y)
 (hQ:∀h',IsZipHeld h' z TI TO T true→h'.IsTupleIter i1 l1 (k1+1)→h'.IsTupleIter i2 l2 (k2+1)→IsPair h' s.heap.objs.size x y→h'.objs.size=s.heap.objs.size+1→
  (∀c o,c≠z→c≠i1→c≠i2→s.heap.get? c=some o→h'.get? c=some o)→Q (some (.ref s.heap.objs.size)) {s with heap:=h'}):
 wpAny (model prog w) A (pyNext (.ref z)) Q E s:=by
 have hTy:s.TypeIs (.ref z) "zip":=⟨_,hz,rfl⟩
 unfold pyNext
 exact wpAny_bind (wpAny_attempt (wpAny_callSpecial?_slot (name:=Str.ofString "__next__") hTy F.slot_zip_next
  (wpAny_call_entry F.slot_zip_next hTy F.entry_zip_next
   (zipTH_next_item D hz hT hTI h1 h2 hl1 hl2 hx hy fun h' a1 a3 a4 a5 a6 a7=>wpAny_pure (hQ h' a1 a3 a4 a5 a6 a7)) (F.args_zip_next_1 _))))
theorem pyNext_zipTH_end {z TI TO T i1 i2 l1 l2:Addr} {f:Bool} {oT:Obj} {k1 k2:Nat} {xs ys:Array Value} {Q:Option Value→Shared→Prop} (hh:A.handled=none) (D:ZipApart z TI TO i1 i2 l1 l2)
 (hz:IsZipHeld s.heap z TI TO T f) (hT:s.heap.get? T=some oT) (hTI:IsPair s.heap TI (.ref i1) (.ref i2))
 (h1:s.heap.IsTupleIter i1 l1 k1) (h2:s.heap.IsTupleIter i2 l2 k2) (hl1:s.heap.IsTuple l1 xs) (hl2:s.heap.IsTuple l2 ys) (hend:xs[k1]?=none∨ys[k2]?=none)
 (hQ:∀h',(∀c o,c≠z→c≠i1→c≠i2→s.heap.get? c=some o→h'.get? c=some o)→Q none {s with heap:=h'}):wpAny (model prog w) A (pyNext (.ref z)) Q E s:=by
 have hTy:s.TypeIs (.ref z) "zip":=⟨_,hz,rfl⟩
 unfold pyNext
 refine wpAny_bind (wpAny_attempt (wpAny_callSpecial?_slot (name:=Str.ofString "__next__") hTy F.slot_zip_next
  (wpAny_call_entry F.slot_zip_next hTy F.entry_zip_next (zipTH_next_end hh D hz hT hTI h1 h2 hl1 hl2 hend fun h' e hk he=> ?_) (F.args_zip_next_1 _))))
 obtain⟨o,ho,hc⟩:=he
 refine wpAny_bind (wpAny_isInstance (T:= "StopIteration") (b:=true) ⟨o,ho,hc⟩ isSubtype_stop ?_)
 exact wpAny_pure (hQ _ hk)
end
section
variable {prog:Program} {w:World}
theorem pairArg_zipT (z TI TO i1 i2 l1 l2:Addr) (D:ZipApart z TI TO i1 i2 l1 l2) (xs ys:Array Value):
 PairArg prog w "zip" z [z,TI,TO,i1,i2,l1,l2] [z,TO,i1,i2] (min xs.size ys.size) (fun i k v=>xs[i]?=some k∧ys[i]?=some v)
  (fun h=>IsZip h z TI TO .none∧IsPair h TI (.ref i1) (.ref i2)∧(∃a b,IsPair h TO a b)∧h.IsTupleIter i1 l1 0∧h.IsTupleIter i2 l2 0∧h.IsTuple l1 xs∧h.IsTuple l2 ys) where
 type:=fun s ok=>⟨_,ok.1,rfl⟩
 notDict:=by decide
 keep:=fun h h' ok hk=>by
  obtain⟨hz,hTI,⟨a,b,hTO⟩,h1,h2,hl1,hl2⟩:=ok
  exact⟨hk _ _ hz,hk _ _ hTI,⟨a,b,hk _ _ hTO⟩,h1.at fun o e=>hk _ o e,h2.at fun o e=>hk _ o e,hl1.at fun o e=>hk _ o e,hl2.at fun o e=>hk _ o e⟩
 there:=fun h ok b hb=>by
  obtain⟨hz,hTI,⟨a,c,hTO⟩,⟨o1,h1,_⟩,⟨o2,h2,_⟩,⟨o3,hl1,_⟩,⟨o4,hl2,_⟩⟩:=ok
  simp only[List.mem_cons,z13,or_false] at hb
  rcases hb with rfl|rfl|rfl|rfl|rfl|rfl|rfl
  all_goals first|exact⟨_,hz⟩|exact⟨_,hTI⟩|exact⟨_,hTO⟩|exact⟨_,h1⟩|exact⟨_,h2⟩|exact⟨_,hl1⟩|exact⟨_,hl2⟩
 sub:=fun b hb=>by simp at hb⊢;rcases hb with rfl|rfl|rfl|rfl<;>simp
 noKeys:=fun A s Q E hA ok h=>getAttrOr_miss_zip ok.1 rfl rfl rfl zip_no_keys (by decide+kernel) hA h
 iter:=fun A s d Q E hA ok hd hdf h=>by
  obtain⟨hz,hTI,⟨a,b,hTO⟩,h1,h2,hl1,hl2⟩:=ok
  simp only[List.mem_cons,z13,or_false,not_or] at hdf
  obtain⟨dz,dTI,dTO,di1,di2,dl1,dl2⟩:=hdf
  refine wpAny_pyIter_zip hz (h z [z,TO,i1,i2] (fun i h=>IsPair h TI (.ref i1) (.ref i2)∧h.IsTupleIter i1 l1 i∧h.IsTupleIter i2 l2 i∧h.IsTuple l1 xs∧h.IsTuple l2 ys∧
   ((IsZip h z TI TO .none∧∃a b,IsPair h TO a b)∨∃T f oT,IsZipHeld h z TI TO T f∧h.get? T=some oT∧T≠z∧T≠i1∧T≠i2∧T≠d)) s.heap s.toks ?_
   ⟨hTI,h1,h2,hl1,hl2,.inl ⟨hz,a,b,hTO⟩⟩ (fun _ _ e=>e) fun b hb=> .inl hb)
  exact{
   off:=fun hm=>by
        simp only[List.mem_cons,z13,or_false] at hm
        rcases hm with e|e|e|e
        ·exact dz e
        ·exact dTO e
        ·exact di1 e
        ·exact di2 e
   frame:=fun i h₁ h₂ st hk=>by
        obtain⟨hTI,h1,h2,hl1,hl2,hz⟩:=st
        refine⟨hk _ _ (Ne.symm dTI) hTI,h1.at fun o e=>hk _ o (Ne.symm di1) e,h2.at fun o e=>hk _ o (Ne.symm di2) e,hl1.at fun o e=>hk _ o (Ne.symm dl1) e,hl2.at fun o e=>hk _ o (Ne.symm dl2) e,?_⟩
        rcases hz with⟨hz,a,b,hTO⟩|⟨T,f,oT,hz,hT,r1,r2,r3,r4⟩
        ·exact .inl ⟨hk _ _ (Ne.symm dz) hz,a,b,hk _ _ (Ne.symm dTO) hTO⟩
        ·exact .inr ⟨T,f,oT,hk _ _ (Ne.symm dz) hz,hk _ _ r4 hT,r1,r2,r3,r4⟩
   item:=fun i s₁ Q₁ E₁ hi st hds hQ=>by
        obtain⟨hTI,h1,h2,hl1,hl2,hz⟩:=st
        have hix:i<xs.size:=z24 hi (Nat.min_le_left ..)
        have hiy:i<ys.size:=z24 hi (Nat.min_le_right ..)
        have ex:=Array.getElem?_eq_getElem hix
        have ey:=Array.getElem?_eq_getElem hiy
        have lt:∀{c o},s₁.heap.get? c=some o→s₁.heap.objs.size≠c:=fun e=>Nat.ne_of_gt (Heap.lt_size e)
        have n1:s₁.heap.objs.size≠i1:=let⟨_,e,_⟩:=h1;lt e
        have n2:s₁.heap.objs.size≠i2:=let⟨_,e,_⟩:=h2;lt e
        rcases hz with⟨hz,a,b,hTO⟩|⟨T,f,oT,hz,hT,r1,r2,r3,r4⟩
        ·refine RZ.pyNext_zipT_item D hz hTI hTO h1 h2 hl1 hl2 ex ey fun h' a1 a2 a3 a4 a5 a6 hk=> ?_
         exact hQ s₁.heap.objs.size _ _ h' s₁.toks ⟨ex,ey⟩ (.inl ⟨_,a5,rfl,_,rfl⟩)
          ⟨hk _ _ D.TIz D.TITO D.TIi1 D.TIi2 hTI,a3,a4,hl1.at fun o e=>hk _ o D.l1z D.l1TO D.l1i1 D.l1i2 e,hl2.at fun o e=>hk _ o D.l2z D.l2TO D.l2i1 D.l2i2 e,
           .inr ⟨s₁.heap.objs.size,false,_,a1,a5,lt hz,n1,n2,Nat.ne_of_gt hds⟩⟩
          fun c o hc e=>hk c o (fun x=>hc (by simp[x])) (fun x=>hc (by simp[x])) (fun x=>hc (by simp[x])) (fun x=>hc (by simp[x])) e
        ·refine pyNext_zipTH_item D hz hT hTI h1 h2 hl1 hl2 ex ey fun h' a1 a3 a4 a5 a6 hk=> ?_
         exact hQ s₁.heap.objs.size _ _ h' s₁.toks ⟨ex,ey⟩ (.inl ⟨_,a5,rfl,_,rfl⟩)
          ⟨hk _ _ D.TIz D.TIi1 D.TIi2 hTI,a3,a4,hl1.at fun o e=>hk _ o D.l1z D.l1i1 D.l1i2 e,hl2.at fun o e=>hk _ o D.l2z D.l2i1 D.l2i2 e,
           .inr ⟨T,true,oT,a1,hk _ _ r1 r2 r3 hT,r1,r2,r3,r4⟩⟩
          fun c o hc e=>hk c o (fun x=>hc (by simp[x])) (fun x=>hc (by simp[x])) (fun x=>hc (by simp[x])) e
   done:=fun s₁ Q₁ E₁ st hQ=>by
        obtain⟨hTI,h1,h2,hl1,hl2,hz⟩:=st
        have hend:xs[min xs.size ys.size]?=none∨ys[min xs.size ys.size]?=none:=by
         rcases Nat.le_total xs.size ys.size with h|h
         ·exact .inl (Array.getElem?_eq_none (by rw[Nat.min_eq_left h];exact z34 _))
         ·exact .inr (Array.getElem?_eq_none (by rw[Nat.min_eq_right h];exact z34 _))
        rcases hz with⟨hz,a,b,hTO⟩|⟨T,f,oT,hz,hT,r1,r2,r3,r4⟩
        ·exact RZ.pyNext_zipT_end hA D hz hTI hTO h1 h2 hl1 hl2 hend fun h' hk=>hQ h' s₁.toks fun c o hc e=>hk c o (fun x=>hc (by simp[x])) (fun x=>hc (by simp[x])) (fun x=>hc (by simp[x])) (fun x=>hc (by simp[x])) e
        ·exact pyNext_zipTH_end hA D hz hT hTI h1 h2 hl1 hl2 hend fun h' hk=>hQ h' s₁.toks fun c o hc e=>hk c o (fun x=>hc (by simp[x])) (fun x=>hc (by simp[x])) (fun x=>hc (by simp[x])) e}
end
section
variable {prog:Program} {w:World} {A:Around} {E:Value→Shared→Prop} {s:Shared} {Q:Value→Shared→Prop}
theorem all_raw {l:Addr} {its:List Value} {bs:List Bool} (hh:A.handled=none) (hl:s.heap.IsList l its.toArray) (hb:its=bs.map Value.bool)
 (h:∀h' tk,(∀b o,s.heap.get? b=some o→h'.get? b=some o)→Q (.bool (bs.all id)) {s with heap:=h',toks:=tk}):wpAny (model prog w) A (call (.builtin "all") [.ref l]) Q E s:=by
 refine call_all_walk ?_
 have hlt:l<s.heap.objs.size:=by
  obtain⟨_,e,_⟩:=hl
  exact Heap.lt_size e
 refine wpAny_pyIter_list hl ?_
 refine⟨_,_,_,_,_,_,fun i=>bs.getD i false,rfl,Walks.list (A:=A.in1) hh _ l (Nat.ne_of_lt hlt) its.toArray,⟨⟨_,Heap.get?_push_size _ rfl,rfl,rfl⟩,hl.push _⟩,?_,fun h' tk hk=> ?_⟩
 ·intro i v s' Q' E' hv hq
  have hv:its.toArray[i]?=some v:=hv
  subst hb
  have hv2:(bs.map Value.bool)[i]?=some v:=by simpa using hv
  rw[z10] at hv2
  obtain⟨b,hb,rfl⟩:=z30.mp hv2
  have e:bs.getD i false=b:=by rw[z14,hb];rfl
  have hq:Q' (bs.getD i false) s':=hq
  rw[e] at hq
  exact wpAny_of_eq (a:=b) (by rfl) hq
 ·have e:(List.range its.toArray.size).all (fun i=>bs.getD i false)=bs.all id:=by
   subst hb
   have e1:(bs.map Value.bool).toArray.size=bs.length:=by simp
   rw[e1,Bool.eq_iff_iff,List.all_eq_true,List.all_eq_true]
   constructor
   ·intro q b hbm
    obtain⟨i,hi,rfl⟩:=List.mem_iff_getElem.mp hbm
    have:=q i (List.mem_range.mpr hi)
    rw[z14,z9 hi] at this
    exact this
   ·intro q i hi
    have hi:=List.mem_range.mp hi
    rw[z14,z9 hi]
    exact q _ (List.getElem_mem hi)
  rw[e]
  exact h h' tk (old_kept hk)
end
theorem bools_of:∀{bs:List Bool} {us:List Value},Vals (bs.map V.bl) us→us=bs.map Value.bool
 |[],_,r=>by cases r;rfl
 |b::bs,_,r=>by
  cases r with
  |cons a t=>rw[bools_of t,show _=Value.bool b from a];rfl
theorem cr_all {X:Cx} (hc:X.calm=true:=by rfl):CallR X (.builtin "all") (zAll X.K):=by
 intro pins s σ H vs us Q I r h
 unfold zAll at h
 split at h
 ·obtain⟨bs,hs,q⟩:=h
  obtain⟨its,rv,hl,_⟩:=I.list hs
  rw[Vals.ref1 r]
  exact all_raw (I.ok.hd hc) hl.isList (bools_of rv) fun h' tk hk=>⟨.bl _,H,I.kept hk,rfl,q⟩
 ·exact h.elim
theorem zipK_kv:∀{ks:List Str} {ys:List V} {us:List Value},Vals ys us→KV (zipK ks ys) ((ks.map Sum.inr).zip us)
 |[],_,_,_=> .nil
 |_::_,_,_,.nil=> .nil
 |k::ks,_,_,.cons a t=> .cons ⟨rfl,a⟩ (zipK_kv t)
def yDictZip (K:Kf) (ta tb:TE):TE:=fun σ H Q=>ta σ H fun x H1=>tb σ H1 fun y H2=>match x,y with
 | .ref a,.ref b=>∃(ks:List Str) (ys:List V),SqT K H2 a (ks.map V.str)∧SqT K H2 b ys∧ks.length≤1000∧∀d,H2 d=none→Q (.ref d) (upd H2 d (.dK (mergeK [] (zipK ks ys))))
 |_,_=>False
theorem ye_dictZip {X:Cx} {a b:Expr} {ta tb:TE} {p p2 pos pos2:Pos} (hgd:Gl X "dict") (hmd:X.mg "dict"=none) (hgz:Gl X "zip") (hmz:X.mg "zip"=none) (ha:PE X a ta) (hb:PE X b tb) (hc:X.calm=true:=by rfl)
 (hs1:starEach [.Call (.Name "zip" p2) [a,b] [] pos2] X.env=(false,eval (.Call (.Name "zip" p2) [a,b] [] pos2) X.env)::starEach [] X.env:=by rfl)
 (hp1:(backTo pos (starEach [] X.env)).any (·.1)=false:=by rfl) (hs:starEach [a,b] X.env=(false,eval a X.env)::starEach [b] X.env:=by rfl) (hs2:starEach [b] X.env=(false,eval b X.env)::starEach [] X.env:=by rfl) (hpl:(backTo pos2 (starEach [b] X.env)).any (·.1)=false:=by rfl):
 PE X (.Call (.Name "dict" p) [.Call (.Name "zip" p2) [a,b] [] pos2] [] pos) (yDictZip X.K ta tb):=by
 refine⟨fun pins s σ H Q I h=> ?_⟩
 refine wpAny_Call_Name_kw (ld_blt I hgd hmd PyProof.Rows.boot_dict ?_ (by decide) (by decide))
 refine PyProof.Rows.callWith_type1 ?_ hs1 hp1
 rw[hs1]
 show wpAny _ _ (spliced ((false,eval (.Call (.Name "zip" p2) [a,b] [] pos2) X.env)::backTo pos (starEach [] X.env))) _ _ s
 refine Calls.spliced_cons ?_
 refine wpAny_Call_Name_kw (ld_blt I hgz hmz PyProof.Rows.boot_zip ?_ (by decide) (by decide))
 refine PyProof.Rows.callWith_type1 (thn ((pa_cons (PE.up ha) (pa_cons (PE.up hb) pa_nil hs2) hs).run pos2 pins s σ H (fun vs H2=>∃x y,vs= [x,y]∧(match x,y with
  | .ref a,.ref b=>∃(ks:List Str) (ys:List V),SqT X.K H2 a (ks.map V.str)∧SqT X.K H2 b ys∧ks.length≤1000∧∀d,H2 d=none→Q (.ref d) (upd H2 d (.dK (mergeK [] (zipK ks ys))))
  |_,_=>False)) I ⟨_,h,fun x H1 q1=>⟨_,q1,fun y H2 q2=>⟨x,y,rfl,q2⟩⟩⟩) fun us s1 hh=> ?_) hs hpl
 obtain⟨vs,H1,I1,r1,x,y,rfl,q⟩:=hh
 cases x<;>cases y<;>first|exact False.elim q|skip
 rename_i l1 l2
 obtain⟨ks,ys,h1,h2,hl,q⟩:=q
 obtain⟨u1,u2,rfl,e1,e2⟩:=vals2 r1
 obtain rfl:u1=Value.ref l1:=e1
 obtain rfl:u2=Value.ref l2:=e2
 obtain⟨its,rv,p1,_⟩:=I1.tuple h1
 obtain⟨its2,rv2,p2,_⟩:=I1.tuple h2
 have lt1:l1<s1.heap.objs.size:=by
  obtain⟨_,e,_⟩:=p1
  exact Heap.lt_size e
 have lt2:l2<s1.heap.objs.size:=by
  obtain⟨_,e,_⟩:=p2
  exact Heap.lt_size e
 refine RZ.call_zipT p1 p2 fun h' hz hTI hTO hi1 hi2 hsz hk=> ?_
 have I2:Inv X pins σ H1 {s1 with heap:=h'}:=I1.kept (t':=s1.toks) hk
 refine Calls.spliced_nil ?_
 show wpAny _ _ (call (.type "dict") [.ref (s1.heap.objs.size+4)]) _ _ _
 have D:ZipApart (s1.heap.objs.size+4) (s1.heap.objs.size+2) (s1.heap.objs.size+3) s1.heap.objs.size (s1.heap.objs.size+1) l1 l2:=by
  have lt1: @LT.lt Nat _ l1 s1.heap.objs.size:=lt1
  have lt2: @LT.lt Nat _ l2 s1.heap.objs.size:=lt2
  constructor<;>exact fun z=>absurd (show @Eq Nat _ _ from z) (by omega)
 have hlen:its.length=ks.length:=by rw[←rv.length,z8]
 refine PySem.call_dict_pairs (knd:=mixKind X.prog X.w) (kvs:=(ks.map Sum.inr).zip its2) (pairArg_zipT (prog:=X.prog) (w:=X.w) (s1.heap.objs.size+4) (s1.heap.objs.size+2) (s1.heap.objs.size+3) s1.heap.objs.size (s1.heap.objs.size+1) l1 l2 D its.toArray its2.toArray) (I.ok.hd hc)
  ⟨hz,hTI,⟨_,_,hTO⟩,hi1,hi2,(show s1.heap.IsTuple l1 its.toArray from p1).at fun o e=>hk _ o e,(show s1.heap.IsTuple l2 its2.toArray from p2).at fun o e=>hk _ o e⟩ ⟨?_,fun i key v ⟨k1,k2⟩=> ?_⟩ ?_ fun h2' tk hd hk2=> ?_
 ·rw[List.length_zip,z8,List.size_toArray,List.size_toArray,hlen]
 ·have k1':its[i]?=some key:=by simpa using k1
  have k2':its2[i]?=some v:=by simpa using k2
  have hi:i<ks.length:=by
   rw[←hlen]
   exact(List.getElem?_eq_some_iff.mp k1').1
  obtain⟨u,hu,ru⟩:=rv.get (i:=i) (x:=V.str ks[i]) (by rw[z10,z9 hi];rfl)
  have eu:u=key:=z33 (hu.symm.trans k1')
  subst eu
  refine⟨Sum.inr ks[i],?_,kV_is (k:=Sum.inr ks[i]) ru⟩
  rw[List.getElem?_zip_eq_some]
  exact⟨by rw[z10,z9 hi];rfl,k2'⟩
 ·rw[List.size_toArray,hlen,sizeLine_eq]
  omega
 ·have hml:(mergeK [] (zipK ks ys)).length≤sizeLine:=by
   have e1:=length_mergeK (zipK ks ys) []
   have e2:(zipK ks ys).length≤ks.length:=by
        unfold zipK
        rw[List.length_zip,z8]
        exact Nat.min_le_left ..
   rw[List.length_nil] at e1
   rw[sizeLine_eq]
   omega
  have hst:∀b o,s1.heap.get? b=some o→h2'.get? b=some o:=fun b o e=>hk2 b o (fun hm=>by
   have hb: @LT.lt Nat _ b s1.heap.objs.size:=Heap.lt_size e
   simp only[List.mem_cons,z13,or_false] at hm
   rcases hm with e|e|e|e<;>exact absurd (show @Eq Nat _ _ from e) (by omega)) (hk b o e)
  have hnd:s1.heap.objs.size≤h'.objs.size:=by omega
  have hsys:(h'.objs.size==sysModules)=false:=by
   have q: @LT.lt Nat _ sysModules s1.heap.objs.size:=I1.big
   simp only[beq_eq_false_iff_ne,ne_eq]
   intro z
   have z: @Eq Nat _ _:=z
   omega
  exact⟨.ref h'.objs.size,_,I1.laid (t':=tk) (a:=h'.objs.size) (o:= .dK (mergeK [] (zipK ks ys))) (h':=h2') hst hnd ⟨hml,hsys,_,KV.merge (zipK_kv rv2) .nil,hd⟩,rfl,q _ (I1.hok.fresh hnd)⟩
structure OM (P:Program) (w:World) (K:Kf) (mg:Str→Option Value) (base:Heap) (x:Str) (k:Nat) (ps:List Str) (sp:Sp):Prop where
 c:Cls K (He.ga K x)
 ex:∃f fd,L2.Mk K (He.ga K x) f∧FnOk P w K mg base (L2.CX P w) k f fd ps sp∧mg x=some (.ref (He.ga K x))∧Binds K fd ps []
structure OMe (P:Program) (w:World) (K:Kf) (mg:Str→Option Value) (base:Heap) (x m:Str) (k:Nat) (ps:List Str) (sp:Sp):Prop where
 c:Cls K (He.ga K x)
 ex:∃f fd,Meth K (He.ga K x) m f∧FnOk P w K mg base (L2.CX P w) k f fd ps sp∧Binds K fd ps []
theorem tk0 {X:Cx}:Takes X W0:=takes_none5
section
variable {X:Cx} {x m:Str} {k:Nat} {ps:List Str} {sp:Sp} {W:WX} {t:TA} {ta:TE} {e o:Expr} {es:List Expr} {p pos apos:Pos}
theorem new_run {C:Addr} {f:Addr} {fd:FuncData} {E:XK} {pins:List (Addr × Obj)} {σ:L2.St} {H:Hp} {s:Shared} {Q:VK} {us:List Value} {vs:List V} (M:L2.Mk X.K C f) (F:FnOk X.prog X.w X.K X.mg X.base (L2.CX X.prog X.w) k f fd ps sp) (hr:Room (k+1) X.A) (hb:Binds X.K fd ps [])
 (hx:PassesAt (L2.CX X.prog X.w) X σ E) (I:Inv X pins σ H s) (r:Vals vs us)
 (h:∀x dx,H x=none→H dx=none→dx≠x→sp (.ref x::vs) (upd (upd H dx (.own x)) x (.ins C dx [])) (fun v H2=>v= .non∧Q (.ref x) H2) E):
 wpAny (model X.prog X.w) X.A (call (.ref C) us) (EP X pins σ Q) X.xe s:=by
 have hq:=h (s.heap.objs.size+1) s.heap.objs.size (I.hok.fresh (Nat.le_succ _)) (I.hok.fresh (z34 _)) (Nat.ne_of_lt (Nat.lt_succ_self _))
 have I2:=Inv.made (C:=C) I
 have r2:Vals (V.ref (s.heap.objs.size+1)::vs) (Value.ref (s.heap.objs.size+1)::us):= .cons rfl r
 have hl:(Value.ref (s.heap.objs.size+1)::us).length=ps.length:=by
  have e:=r2.length
  rw[F.len _ _ _ _ hq] at e
  exact e.symm
 have hb':=hb _ (Value.ref (s.heap.objs.size+1)::us) I2.kIn (by rw[z26];exact hl)
 rw[z26] at hb'
 refine wpAny_call (make_map (f:=f) I.kIn M.makes M.init (beq_iff_eq.mp M.fn) (codeAny_mono (F.run _ X.stack _ _ ⟨Value.ref (s.heap.objs.size+1)::us,[]⟩ (Value.ref (s.heap.objs.size+1)::us) _ _ E (hr.make C us [])
  (I2.env0.make C us []) hb' r2 hq) fun r s' hq'=> ?_))
 cases r with
 |error e=>exact hx pins _ _ e s' I2 hq'
 |ok fl=>
  cases fl with
  |ret u=>
   obtain⟨v,H',I3,rv,ev,q3⟩:=I2.after hq'
   subst ev
   exact⟨rv,⟨V.ref (s.heap.objs.size+1),H',I3,rfl,q3⟩⟩
  |next=>exact False.elim hq'
  |brk=>exact False.elim hq'
  |cont=>exact False.elim hq'
theorem ye_new (M:OM X.prog X.w X.K X.mg X.base x k ps sp) (tk:Takes X W) (hr:Room (k+1) X.A) (hg:Gl X x) (ha:PA X (e::es) t) (hdb:(x==("__debug__":Str))=false:=by decide)
 (he:starEach (e::es) X.env=(false,eval e X.env)::starEach es X.env:=by rfl) (hpl:(backTo pos (starEach es X.env)).any (·.1)=false:=by rfl):PE X (.Call (.Name x p) (e::es) [] pos) (yNew (He.ga X.K x) sp W t):=by
 obtain⟨f,fd,h1,h2,h3,h4⟩:=M.ex
 refine⟨fun pins s σ H Q I h=> ?_⟩
 refine wpAny_Call_Name_kw (ld_glob I hg h3 ?_ hdb)
 refine PySem.W.callWith_K (h₀:=X.base) I.ok.mod.kin h1.kp (thn (ha.run pos pins s σ H _ I h) fun us s1 ⟨vs,H1,I1,r,q⟩=>⟨I1.kIn,?_⟩) he hpl
 exact new_run h1 h2 hr h4 (passAt tk σ) I1 r q
theorem ye_meth {pl:Sem Bool} (M:OMe X.prog X.w X.K X.mg X.base x m k ps sp) (tk:Takes X W) (hr:Room k X.A) (ho:PE X o ta) (ha:PA X (e::es) t)
 (hst:starEach (e::es) X.env=(false,eval e X.env)::starEach es X.env:=by rfl) (hpl:(backTo pos (starEach es X.env)).any (·.1)=false:=by rfl)
 (ht:eval (.Call (.Attribute o m apos) (e::es) [] pos) X.env=(do
  let ov←eval o X.env
  standAt apos.atName
  let(f,first)←holding [ov] (getMethod ov m pl)
  callWith pos f first (backTo pos (starEach (e::es) X.env)) (backToKw pos (keywordEach [] X.env))):=by rfl):PE X (.Call (.Attribute o m apos) (e::es) [] pos) (yMeth (He.ga X.K x) m sp W ta t):=by
 obtain⟨f,fd,h1,h2,h3⟩:=M.ex
 refine⟨fun pins s σ H Q I h=> ?_⟩
 refine PySem.W.methodCall_KW (pl:=pl) (thn (ho.run pins s σ H _ I h) fun u s1 ⟨y,H1,I1,rx,q⟩=> ?_) ht
 cases y<;>first|exact False.elim q|skip
 obtain⟨dx,fs,ea,l,q⟩:=q
 rename_i a
 obtain rfl:u=Value.ref a:=rx
 refine getmeth_ok I1 ea M.c h1 l ?_
 refine PySem.W.callWith_K (first:= [.ref a]) (h₀:=X.base) I.ok.mod.kin h1.kp (thn (ha.run pos pins s1 σ H1 _ I1 q) fun us s2 ⟨vs,H2,I2,r,q2⟩=>⟨I2.kIn,?_⟩) hst hpl
 exact run_fnS (us:= .ref a::us) (vs:= .ref a::vs) (E:=fun σ cls d H'=>W cls d σ H') h2 hr h3 (passAt tk σ) I2 (.cons rfl r) q2
theorem ye_meth0 {pl:Sem Bool} (M:OMe X.prog X.w X.K X.mg X.base x m k ps sp) (tk:Takes X W) (hr:Room k X.A) (ho:PE X o ta)
 (ht:eval (.Call (.Attribute o m apos) [] [] pos) X.env=(do
  let ov←eval o X.env
  standAt apos.atName
  let(f,first)←holding [ov] (getMethod ov m pl)
  callWith pos f first (backTo pos (starEach [] X.env)) (backToKw pos (keywordEach [] X.env))):=by rfl):PE X (.Call (.Attribute o m apos) [] [] pos) (yMeth (He.ga X.K x) m sp W ta tNil):=by
 obtain⟨f,fd,h1,h2,h3⟩:=M.ex
 refine⟨fun pins s σ H Q I h=> ?_⟩
 refine PySem.W.methodCall_KW (pl:=pl) (thn (ho.run pins s σ H _ I h) fun u s1 ⟨y,H1,I1,rx,q⟩=> ?_) ht
 cases y<;>first|exact False.elim q|skip
 obtain⟨dx,fs,ea,l,q⟩:=q
 rename_i a
 obtain rfl:u=Value.ref a:=rx
 refine getmeth_ok I1 ea M.c h1 l ?_
 exact PySem.W.callWith_K0 (first:= [.ref a]) I1.kIn h1.kp (run_fnS (us:= [.ref a]) (vs:= [.ref a]) (E:=fun σ cls d H'=>W cls d σ H') h2 hr h3 (passAt tk σ) I1 (.cons rfl .nil) q)
end
def yRaise (t:L2.St→Hp→XK→Prop) (W:WX):TS:=fun _ σ H=>t σ H fun cls d H'=>W cls d σ H'
theorem ys_raise {X:Cx} {W:WX} {e:Expr} {t:L2.St→Hp→XK→Prop} {pos:Pos} (hc:X.calm=true) (tk:Takes X W) (he:PMk X e t):PS X (.Raise (some e) none pos) (yRaise t W):=ps_raise hc tk he
def asTs (i:Nat) (ts:Addr→Value→Option Addr→TS):Addr→Value→Option Addr→TS:=fun a cls d D σ H=>
 ts a cls d {nx:=fun σ' H'=>D.nx (σ'.set i none) H',rt:=D.rt,bk:=fun σ' H'=>D.bk (σ'.set i none) H',ct:=fun σ' H'=>D.ct (σ'.set i none) H'} (σ.set i (some (.ref a))) H
inductive HdsN (X:Cx):List ExceptHandler→List (Value × (Addr→Value→Option Addr→TS))→Prop
 |nil:HdsN X [] []
 |plain {x:Str} {c:Value} {ts:Addr→Value→Option Addr→TS} {b₀:Stmt} {suite:List Stmt} {np pos':Pos} {hds:List ExceptHandler} {l:List (Value × (Addr→Value→Option Addr→TS))} (hc:Names X x c)
  (hsu:∀(a:Addr) (oe:Obj) (cls:Value) (d:Option Addr) (pn:List (Addr × Obj)),Zc cls d oe→(∃vs,oe.data= .fields vs)→PSs (X.suite a ((a,oe)::pn)) (b₀::suite) (ts a cls d)) (r:HdsN X hds l):
  HdsN X (.ExceptHandler (some (.Name x np)) none (b₀::suite) pos'::hds) ((c,ts)::l)
 |named {x n:Str} {c:Value} {i:Nat} {ts:Addr→Value→Option Addr→TS} {b₀:Stmt} {suite:List Stmt} {np pos':Pos} {hds:List ExceptHandler} {l:List (Value × (Addr→Value→Option Addr→TS))} (hi:X.N[i]?=some n) (hln:X.env.kindOf n=some .local) (hc:Names X x c)
  (hsu:∀(a:Addr) (oe:Obj) (cls:Value) (d:Option Addr) (pn:List (Addr × Obj)),Zc cls d oe→(∃vs,oe.data= .fields vs)→PSs (X.suite a ((a,oe)::pn)) (b₀::suite) (ts a cls d)) (r:HdsN X hds l):
  HdsN X (.ExceptHandler (some (.Name x np)) (some n) (b₀::suite) pos'::hds) ((c,asTs i ts)::l)
section
variable {X:Cx} {body:List Stmt} {h₀:ExceptHandler} {hds:List ExceptHandler} {l:List (Value × (Addr→Value→Option Addr→TS))} {pos:Pos} {tb:WX→TS} {Wout:WX}
def yTry (K:Kf) (tb:WX→TS) (Wout:WX) (l:List (Value × (Addr→Value→Option Addr→TS))):TS:=fun D σ H=>tb (wMany K Wout D l) D σ H
theorem ys_try (hs:X.stack=X.env::X.outer) (hf:X.env.frame=some X.env.locals) (hN:X.N.Nodup) (tk:Takes X Wout)
 (hb:∀(W:WX) (pn:List (Addr × Obj)) (xe:Value→Shared→Prop),Takes (X.tr pn xe) W→PassesOwn (model X.prog X.w) X.A X.env xe→PSs (X.tr pn xe) body (tb W))
 (hh:HdsN X (h₀::hds) l):PS X (.Try body (h₀::hds) [] [] pos) (yTry X.K tb Wout l):=by
 refine⟨fun pins s σ H D I h=> ?_⟩
 have ok:=I.ok
 have hfr:X.A.frames=some (X.env::X.outer):=by rw[ok.frames,hs]
 refine wpAny_Try_except ?_
 refine wpAny_mono ((hb (wMany X.K Wout D l) (X.pn++pins) (fun e s₁=>wpAny (model X.prog X.w) X.A (noteFrame e X.env) (fun _ s₂=>wpAny (model X.prog X.w) X.A (setFlight e none) (fun _ s₃=>
  wpAny (model X.prog X.w) X.A (handleBy e X.env (h₀::hds)) (SP X pins D) X.xe s₃) X.xe s₂) X.xe s₁) (fun u s' xx=> ?_) PassesOwn.looking).run [] s σ H D (I.toTry _) h) (fun f s1 hsp=> ?_) (fun e s1 he=>he)
 ·obtain⟨a,B,sI,pins',σ',H',cls,d,rfl,J',nb,up,sky,na,os,ag,w⟩:=xx
  have J:Inv X pins σ' H' sI:=J'.ofTry ok
  have sky':Sky B (X.env::X.outer) a (Zc cls d) X.env.locals s'.heap:=by rw[←hs];exact sky
  show wpAny (model X.prog X.w) X.A (noteFrame (.ref a) X.env) _ _ _
  refine Sky.land Zc.steady hfr hf sky' fun h3 fl3 up3=> ?_
  have J3:Inv X pins σ' H' {s' with heap:=h3}:=J.landed nb fl3.1 (up.trans up3) os ag
  obtain⟨oe3,vs3,he3,hz3,hd3⟩:=fl3.there
  have notFr:∀{h:Heap} {o:Obj} {vs:Array Value},h.FunFrames B (X.env::X.outer)→h.get? a=some o→o.data= .fields vs→a∉frs (X.env::X.outer):=fun{h o vs} ff e dd hm=>by
   obtain⟨_,o',e',hnf⟩:=ff.mem hm
   rw[e] at e'
   cases e'
   exact hnf _ dd
  have nfr:=notFr fl3.2.2.1 he3 hd3
  have nL:a≠X.env.locals:=fun z=>nfr (List.mem_filterMap.mpr ⟨X.env,z31,by rw[hf,z]⟩)
  have nF:a∉X.fs:=fun hm=>by
   obtain⟨e,he,q⟩:=List.mem_filterMap.mp hm
   exact nfr (List.mem_filterMap.mpr ⟨e,z23 _ he,q⟩)
  have S3:=J3.suite he3 hd3 na nL nF
  have LT:PySem.W.Looks (model X.prog X.w) h3 (typeOf (.ref a)) cls:=fun A Q E s k q=>wpAny_typeOf_ref (k _ _ he3) (by rw[hz3.1];exact q)
  have test:∀{x:Str} {c:Value} {np:Pos} {Q:Value→Shared→Prop} {E:Value→Shared→Prop},Names X x c→Q c {s' with heap:=h3}→wpAny (model X.prog X.w) (X.A.mark (some (.ref a))) (eval (.Name x np) X.env) Q E {s' with heap:=h3}:=fun{x c np Q E} hc q=>by
   obtain⟨hg,hdbg,hm|⟨hm,hv,hnn⟩⟩:=hc
   ·exact ld_glob (X:=X.suite a ((a,oe3)::(X.pn++pins))) S3 hg hm q hdbg
   ·exact ld_blt (X:=X.suite a ((a,oe3)::(X.pn++pins))) S3 hg hm hv q hnn hdbg
  have go:∀{hds':List ExceptHandler} {l':List (Value × (Addr→Value→Option Addr→TS))},HdsN X hds' l'→wMany X.K Wout D l' cls d σ' H'→
        wpAny (model X.prog X.w) X.A (handleBy (.ref a) X.env hds') (SP X pins D) X.xe {s' with heap:=h3}:=by
   intro hds' l' hk
   induction hk with
   |nil=>
    intro w
    refine wpAny_handleBy_nil ?_
    obtain⟨k1,k2,k3,oe,vs,T,oT,ts',he,hz,hd,h1,hr⟩:=id fl3
    unfold PySem.passOn
    refine wpAny_bind (wpAny_field he hd h1 ?_)
    rw[if_neg (show¬((Value.ref T==Value.none)=true) from by simp)]
    have fin:wpAny (model X.prog X.w) X.A (setFlight (.ref a) X.env.frame) (fun _ s4=>wpAny (model X.prog X.w) X.A (throw (.ref a):Sem Flow) (SP X pins D) X.xe s4) X.xe {s' with heap:=h3}:=by
     rw[hf]
     refine HandSPX.setFlight_upZ fl3 fun h4 hh4 up4=>wpAny_throw (tk _ _ ?_)
     exact⟨a,B,sI,pins,σ',H',cls,d,rfl,J,nb,(up.trans up3).trans up4,.inr (.inr (by rw[hs];exact hh4)),na,os,ag,w⟩
    first
     |exact wpAny_bind (wpAny_pure (wpAny_bind fin))
     |exact wpAny_bind fin
   | @plain x c ts b₀ suite np pos' hds2 l2 hc hsu r ih=>
     intro w
     obtain⟨b,hb1,hyes,hno⟩:=w
     refine wpAny_handleBy_cons (codeAny_handlers_test ?_) (by intro q;cases q)
     have LM:=PySem.W.exm_one (M:=model X.prog X.w) (J3.kIn) LT hb1
     refine test hc (LM.here ?_)
     cases b with
     |true=>
      refine codeAny_handlers_suite ?_
      refine HandSPX.lands_againZ fl3 fun h4 fl4 up4=> ?_
      have J4:Inv X pins σ' H' {s' with heap:=h4}:=J.landed nb fl4.1 ((up.trans up3).trans up4) os ag
      obtain⟨oe4,vs4,he4,hz4,hd4⟩:=fl4.there
      have S4:=J4.suite he4 hd4 na nL nF
      refine wpAny_mono ((hsu a oe4 cls d (X.pn++pins) hz4 ⟨_,hd4⟩).run [] _ _ H' _ S4 (hyes rfl a na)) (fun f s6 hsp=> ?_) (fun _ _ z=>False.elim z)
      cases f with
      |next=>
       obtain⟨σ6,H6,S6,q6⟩:=hsp
       exact⟨_,_,S6.unsuite ok,q6⟩
      |brk=>
       obtain⟨σ6,H6,S6,q6⟩:=hsp
       exact⟨_,_,S6.unsuite ok,q6⟩
      |cont=>
       obtain⟨σ6,H6,S6,q6⟩:=hsp
       exact⟨_,_,S6.unsuite ok,q6⟩
      |ret u=>
       obtain⟨v6,σ6,H6,S6,r6,q6⟩:=hsp
       exact⟨_,_,_,S6.unsuite ok,r6,q6⟩
     |false=>
      show wpAny _ X.A (handleBy (.ref a) X.env hds2) _ _ _
      exact ih (hno rfl)
   | @named x n c i ts b₀ suite np pos' hds2 l2 hi hln hc hsu r ih=>
     intro w
     obtain⟨b,hb1,hyes,hno⟩:=w
     refine wpAny_handleBy_cons (codeAny_handlers_test ?_) (by intro q;cases q)
     have LM:=PySem.W.exm_one (M:=model X.prog X.w) (J3.kIn) LT hb1
     refine test hc (LM.here ?_)
     cases b with
     |true=>
      refine codeAny_handlers_suite_as ?_
      refine HandSPX.lands_againZ fl3 fun h4 fl4 up4=> ?_
      have J4:Inv X pins σ' H' {s' with heap:=h4}:=J.landed nb fl4.1 ((up.trans up3).trans up4) os ag
      obtain⟨oe4,vs4,he4,hz4,hd4⟩:=fl4.there
      have S4:=J4.suite he4 hd4 na nL nF
      refine store_ok (X:=X.suite a ((a,oe4)::(X.pn++pins))) (v:= .ref a) S4 hN hi (.inl hln) rfl (fun s5 S5=> ?_) (.inr hln)
      refine wpAny_mono ((hsu a oe4 cls d (X.pn++pins) hz4 ⟨_,hd4⟩).run [] s5 _ H' _ S5 (hyes rfl a na)) (fun f s6 hsp=> ?_) (fun _ _ z=>False.elim z)
      have end_:∀{σ6:L2.St} {H6:Hp} {Q:Shared→Prop},Inv (X.suite a ((a,oe4)::(X.pn++pins))) [] σ6 H6 s6→(∀s7,Inv X pins (σ6.set i none) H6 s7→Q s7)→
          wpAny (model X.prog X.w) X.A (do bindName X.env n .none;unbindBehindTheSuite X.env n pos') (fun _ s7=>Q s7) X.xe s6:=fun{σ6 H6 Q} S6 hq=>gone_ok (S6.unsuite ok) hN hi hln hq
      cases f with
      |next=>
       obtain⟨σ6,H6,S6,q6⟩:=hsp
       exact end_ S6 fun s7 J7=>⟨_,_,J7,q6⟩
      |brk=>
       obtain⟨σ6,H6,S6,q6⟩:=hsp
       exact end_ S6 fun s7 J7=>⟨_,_,J7,q6⟩
      |cont=>
       obtain⟨σ6,H6,S6,q6⟩:=hsp
       exact end_ S6 fun s7 J7=>⟨_,_,J7,q6⟩
      |ret u=>
       obtain⟨v6,σ6,H6,S6,r6,q6⟩:=hsp
       exact end_ S6 fun s7 J7=>⟨_,_,_,J7,r6,q6⟩
     |false=>
      show wpAny _ X.A (handleBy (.ref a) X.env hds2) _ _ _
      exact ih (hno rfl)
  exact go hh w
 ·cases f with
  |next=>
   obtain⟨σ',H',J',q⟩:=hsp
   exact wpAny_execs_nil ⟨σ',H',J'.ofTry ok,q⟩
  |brk=>
   obtain⟨σ',H',J',q⟩:=hsp
   exact⟨σ',H',J'.ofTry ok,q⟩
  |cont=>
   obtain⟨σ',H',J',q⟩:=hsp
   exact⟨σ',H',J'.ofTry ok,q⟩
  |ret u=>
   obtain⟨v,σ',H',J',r,q⟩:=hsp
   exact⟨v,σ',H',J'.ofTry ok,r,q⟩
end
def yXf (K:Kf) (a:Addr) (cls:Value) (d:Option Addr) (n:Str) (te:TE):TE:=fun σ H Q=>te σ H fun x H1=>x= .ref a∧∃(C dd:Addr) (fs:List (Str × V)) (v:V),cls= .ref C∧isX K n C∧d=some dd∧H1 dd=some (.xd fs)∧fs.lookup n=some v∧Q v H1
def zIsS (K:Kf) (a:Addr) (cls:Value) (d:Option Addr):List V→Hp→VK→Prop:=fun xs H Q=>∃(C:Addr) (b:Bool),cls= .ref C∧ExcC K C∧(d=none∨∃(dd:Addr) (fs:List (Str × V)),d=some dd∧H dd=some (.xd fs))∧
 ((∃c,xs= [.ref a,.ref c]∧PySem.W.kitOne K (.ref C) (.ref c)=some b)∨∃T,xs= [.ref a,.ty T]∧PySem.W.kitOne K (.ref C) (.type T)=some b)∧Q (.bl b) H
section
variable {X:Cx} {a:Addr} {oe:Obj} {cls:Value} {d:Option Addr} {pn:List (Addr × Obj)}
theorem caught_inst {C:Addr} {pins:List (Addr × Obj)} {σ:L2.St} {H:Hp} {s:Shared} (I:Inv (X.suite a ((a,oe)::pn)) pins σ H s) (hz:Zc cls d oe) (hf:∃vs,oe.data= .fields vs) (ec:cls= .ref C)
 (hd:d=none∨∃(dd:Addr) (fs:List (Str × V)),d=some dd∧H dd=some (.xd fs)):∃od,PySem.W.InstAt s.heap a oe C od:=by
 obtain⟨ha,_⟩:=I.pin (a,oe) (z18 _ z31)
 obtain⟨vs,hv⟩:=hf
 rcases hd with e|⟨dd,fs,e,hx⟩
 ·exact⟨none,ha,hz.1.trans ec,by unfold PySem.W.notCls;rw[hv]<;>rfl,by rw[hz.2,e];exact True.intro⟩
 ·have hx:ObjOk X.prog X.w H s.heap dd (.xd fs):=I.hok dd _ hx
  obtain⟨mA,hns,hr⟩:=hx
  obtain⟨od,ho,hl⟩:=lookIn_ns hns
  exact⟨some od,ha,hz.1.trans ec,by unfold PySem.W.notCls;rw[hv]<;>rfl,by rw[hz.2,e];exact ho⟩
theorem ye_xf {e:Expr} {te:TE} {pos:Pos} {n:Str} (hz:Zc cls d oe) (hf:∃vs,oe.data= .fields vs) (he:PE (X.suite a ((a,oe)::pn)) e te) (hb:attributeBase e n X.env (eval e X.env)=eval e X.env:=by rfl):
 PE (X.suite a ((a,oe)::pn)) (.Attribute e n pos) (yXf X.K a cls d n te):=by
 refine⟨fun pins s σ H Q I h=> ?_⟩
 refine attr_of hb (thn (he.run pins s σ H _ I h) fun u s1 hh=> ?_)
 obtain⟨x,H1,I1,rx,ex,C,dd,fs,v,ec,⟨T,hno⟩,ed,ea,l,q⟩:=hh
 subst ex
 obtain rfl:u=Value.ref a:=rx
 subst ec
 subst ed
 obtain⟨ha,_⟩:=I1.pin (a,oe) (z18 _ z31)
 obtain⟨vs,hd⟩:=hf
 have hx:ObjOk X.prog X.w H1 s1.heap dd (.xd fs):=I1.hok dd _ ea
 obtain⟨mA,hns,hr⟩:=hx
 obtain⟨od,ho,hl⟩:=lookIn_ns hns
 obtain⟨u,hu,ru⟩:=RelO.some_of (v:=v) (o:=mA n) (by rw[←l];exact hr n)
 have J:PySem.W.InstAt s1.heap a oe C (some od):=⟨ha,hz.1,by unfold PySem.W.notCls;rw[hd]<;>rfl,by rw[hz.2];exact ho⟩
 exact HandSPX.exc_get I1.kIn J T.ga T.gg T.exC (PySem.W.findObj_own T.hdC hno rfl (by rw[hl,hu])) (handed_of ru) ⟨v,H1,I1.tok _,ru,q⟩
theorem cr_isS (hz:Zc cls d oe) (hf:∃vs,oe.data= .fields vs):CallR (X.suite a ((a,oe)::pn)) (.builtin "isinstance") (zIsS X.K a cls d):=by
 intro pins s σ H xs us Q I r h
 obtain⟨C,b,ec,T,hd,hk,q⟩:=h
 obtain⟨od,J⟩:=caught_inst I hz hf ec hd
 rcases hk with⟨c,rfl,e⟩|⟨c,rfl,e⟩
 all_goals
  obtain⟨u1,u2,rfl,r1,r2⟩:=vals2 r
  cases r1
  cases r2
  exact PySem.W.kia_one (kitx_exc T) I.kIn ⟨oe,od,J⟩ e (fun z=>nomatch z) fun tk=>⟨.bl b,H,I.kept (t':=tk) fun _ _ z=>z,rfl,q⟩
end
def zIsO (K:Kf):List V→Hp→VK→Prop:=fun xs H Q=>match xs with
 |[.str _,.ref c]=>∃b,PySem.W.kitOne K (.type "str") (.ref c)=some b∧Q (.bl b) H
 |[.ref a,.ref c]=>∃t b,TyOf K H (.ref a) t∧PySem.W.kitOne K t (.ref c)=some b∧Q (.bl b) H
 |_=>False
theorem cr_isO {X:Cx}:CallR X (.builtin "isinstance") (zIsO X.K):=CallR.imp call_isi fun xs H Q q=>by
 unfold zIsO at q
 split at q
 ·obtain⟨b,h,q⟩:=q
  exact⟨_,_,_,_,b,rfl,.own _,.base (.str _),h,q⟩
 ·obtain⟨t,b,ty,h,q⟩:=q
  exact⟨_,_,_,_,b,rfl,.own _,.base ty,h,q⟩
 ·exact q.elim
def yFmt (te:TE):TE:=fun σ H Q=>te σ H fun x H1=>match x with
 | .str y=>y.length≤16777216∧Q (.str y) H1
 | .int i=>i.natAbs.log2<1920∧Q (.str (toString i)) H1
 |_=>False
def yJs:List TE→Str→L2.St→Hp→(Str→Hp→Prop)→Prop
 |[],acc,_,H,Q=>Q acc H
 |t::ts,acc,σ,H,Q=>t σ H fun x H1=>match x with
  | .str y=>(acc++y).length≤16777216∧yJs ts (acc++y) σ H1 Q
  |_=>False
def yJoin (ts:List TE):TE:=fun σ H Q=>yJs ts Str.empty σ H fun out H1=>Q (.str out) H1
section
variable {X:Cx}
theorem ye_fmt {e:Expr} {te:TE} {pos:Pos} (he:PE X e te):PE X (.FormattedValue e (-1) none pos) (yFmt te):=PE.imp (pe_fmt (PE.up he)) fun σ H Q q=>⟨_,q,fun x H1 q1=>by
 cases x<;>first|exact False.elim q1|skip
 ·exact .inr ⟨_,rfl,q1.1,q1.2⟩
 ·exact .inl ⟨_,rfl,q1.1,q1.2⟩⟩
theorem pj_up:∀{es:List Expr} {ts:List TE},PJ X es ts→PJ X es (ts.map upE):=by
 intro es ts h
 induction h with
 |nil=>exact .nil
 |cons h r ih=>exact .cons (PE.up h) ih
theorem js_up:∀(ts:List TE) (acc:Str) (σ:L2.St) (H:Hp) (Q:Str→Hp→Prop),yJs ts acc σ H Q→tJs (ts.map upE) acc σ H Q
 |[],_,_,_,_,q=>q
 |t::ts,acc,σ,H,Q,q=>⟨_,q,fun x H1 q1=>by
  cases x<;>first|exact False.elim q1|skip
  exact⟨_,rfl,q1.1,js_up ts _ σ H1 Q q1.2⟩⟩
theorem ye_joined {v1 v2:Expr} {rest:List Expr} {ts:List TE} {pos:Pos} (h:PJ X (v1::v2::rest) ts):PE X (.JoinedStr (v1::v2::rest) pos) (yJoin ts):=PE.imp (pe_joined (pj_up h)) fun σ H Q q=>js_up ts _ σ H _ q
theorem walk_zipT {K:Kf} {a b:Addr} {xs ys:List V}:Walk (RZ.ItzT K a b) (min xs.length ys.length) (fun H=>SqT K H a xs∧SqT K H b ys) (YPair (fun i=>xs[i]?) (fun i=>ys[i]?)):=by
 refine⟨fun i _ hi q=> ?_,fun _ q=>⟨xs,ys,q.1,q.2,by omega⟩,fun i H v H' _ q y=> ?_⟩
 ·have h1:i<xs.length:=by omega
  have h2:i<ys.length:=by omega
  exact⟨xs,ys,xs[i],ys[i],q.1,q.2,by simp[h1],by simp[h2]⟩
 ·obtain⟨T,x,z,h1,h2,h3,h4,h5⟩:=y
  exact⟨T,x,z,h1,h2,h3,h4 xs q.1,h5 ys q.2⟩
def jZipT (K:Kf) (tl th:TE):Src:=fun σ H R=>tl σ H fun x H1=>th σ H1 fun y H2=>match x,y with
 | .ref a,.ref b=>∃xs ys,SqT K H2 a xs∧SqT K H2 b ys∧R (min xs.length ys.length) (fun H=>SqT K H a xs∧SqT K H b ys) (YPair (fun i=>xs[i]?) (fun i=>ys[i]?)) H2
 |_,_=>False
theorem j_zipT {a b:Expr} {ta tb:TE} {p pos tpos:Pos} {elts:List Expr} {kk:Nat} (hg:Gl X "zip") (hm:X.mg "zip"=none) (ha:PE X a ta) (hb:PE X b tb) (hs:starEach [a,b] X.env=(false,eval a X.env)::starEach [b] X.env:=by rfl) (hs2:starEach [b] X.env=(false,eval b X.env)::starEach [] X.env:=by rfl) (hpl:(backTo pos (starEach [b] X.env)).any (·.1)=false:=by rfl):PSrc X (.Tuple elts kk tpos) (.Call (.Name "zip" p) [a,b] [] pos) (jZipT X.K ta tb):=⟨_,RZ.pi_zipA hg hm (pa_cons (PE.up ha) (pa_cons (PE.up hb) pa_nil hs2) hs) hs hpl,fun σ H R R' q k=>⟨_,q,fun x H1 q1=>⟨_,q1,fun y H2 q2=>by
 cases x<;>cases y<;>first|exact False.elim q2|skip
 obtain⟨xs,ys,h1,h2,q3⟩:=q2
 exact⟨_,_,xs,ys,rfl,.inr ⟨h1,h2,k _ _ _ _ q3 _ walk_zipT⟩⟩⟩⟩⟩
theorem blkOk_in {N:List Str} {sc S1 S:Scope} {own:List (Str × Nat)} {s:Shared} {H:Hp} {cl:List (Str × Addr)} {C:Addr} {fp:List Addr} (hN:X.N=N) (hs:X.env.scope=sc) (h:blkC N (relS S1 sc) S own=true):
 BlkOk (X.blk s H S1 (compEnvC S1 cl C X.env) fp).N (X.blk s H S1 (compEnvC S1 cl C X.env) fp).env.scope S own:=by
 subst hN
 subst hs
 exact blkOk_by h
theorem ys_setLc {i:Nat} {y:Str} {py spos:Pos} {tg iter:Expr} {src:Src} {g:TG} {tt:TT} {te:TE} {elt:Expr} {ifs:List Expr} {scope:Scope} {own:List (Str × Nat)} {pos:Pos} (hc:X.calm=true) (hN:X.N.Nodup) (hy:X.N[i]?=some y) (hyl:X.env.scope.names.lookup y=some .local)
 (hsw:swapsWith (.ListComp elt [⟨tg,iter,ifs,0⟩] scope pos) (some (.Name y py)) spos.line X.env=pure true) (hi:PSrc X tg iter src) (ok:BlkOk X.N X.env.scope scope own)
 (hg:∀(s:Shared) (H:Hp) (C:Addr) (cl:List (Str × Addr)) (fp:List Addr),PG (X.blk s H scope (compEnvC scope cl C X.env) fp) tg g) (ht:∀(s:Shared) (H:Hp) (C:Addr) (cl:List (Str × Addr)) (fp:List Addr),PTs (X.blk s H scope (compEnvC scope cl C X.env) fp) ifs tt)
 (he:∀(s:Shared) (H:Hp) (C:Addr) (cl:List (Str × Addr)) (fp:List Addr),PE (X.blk s H scope (compEnvC scope cl C X.env) fp) elt te) (hs:∀x,foldedSetIterable iter X.env x=pure x:=by intro _;rfl):
 PS X (.Assign [.Name y py] (.ListComp elt [⟨tg,iter,ifs,0⟩] scope pos) spos) (tAsg (yLc src g tt te (own.map (·.2))) (gName i)):=by
 obtain⟨wi,h,k⟩:=hi.wi
 refine PS.imp (ps_setLc hc hN hy hyl hsw h ok (fun s H C cl fp=>PG.up (hg s H C cl fp)) (fun s H C cl fp=>PTs.up (ht s H C cl fp)) (fun s H C cl fp=>PE.up (he s H C cl fp)) hs) fun D σ H q=>k σ H _ _ q fun n G Y H1 hh J w D' hD=> ?_
 exact lc_ends (Qd:=fun x H1=>gName i x σ H1 D.nx) (g:=g) (tt:=tt) (te:=te) (vs:=own.map (·.2)) (σ:=σ) (H1:=H1) w D' (hh D' hD)
@[irreducible] def repS (x:Str) (k:Nat):Str:=⟨(List.replicate k x.cps).foldl (· ++ ·) #[]⟩
def zRepS:R2:=fun x y H Q=>match x,y with
 | .str z,.int k=>0≤k∧k≤100000∧z.length≤100∧Q (.str (repS z k.toNat)) H
 |_,_=>False
theorem repS_one (x:Str):repS x 1=x:=by
 unfold repS
 simp
theorem repS_zero (x:Str):repS x 0=Str.empty:=by
 unfold repS
 rfl
theorem rep_empty (k:Nat):(List.replicate k (#[]:Array Nat)).foldl (· ++ ·) #[]= #[]:=by
 induction k with
 |zero=>rfl
 |succ k ih=>
  rw[List.replicate_succ,List.foldl_cons]
  simpa using ih
theorem rep_size (a:Array Nat):∀(k:Nat) (b:Array Nat),((List.replicate k a).foldl (· ++ ·) b).size=b.size+k*a.size
 |0,b=>by simp
 |k+1,b=>by
  rw[List.replicate_succ,List.foldl_cons,rep_size a k,Array.size_append,Nat.succ_mul]
  omega
theorem repS_len (x:Str) (k:Nat):(repS x k).length=k*x.length:=by
 unfold repS
 show((List.replicate k x.cps).foldl (· ++ ·) #[]).size=k*x.cps.size
 rw[rep_size]
 simp
theorem op_zRepS:OpR X (binaryOp .Mult) zRepS:=by
 intro pins s σ H x y v u Q I rx ry h
 unfold zRepS at h
 split at h
 ·rename_i z k
  obtain⟨h0,h1,hz,q⟩:=h
  obtain⟨t,rfl⟩:=rx
  obtain⟨t2,rfl⟩:=ry
  refine PySem.P.mul_str (by rw[decide_eq_false (by omega),decide_eq_false (by omega)];rfl) (fun hk _=> ?_) (fun hk _=> ?_) ?_
  ·have e1:(z.length:Int)≤100:=by omega
   have e2:(100:Int)≤(2^63-1)/k:=by
        rw[Int.le_ediv_iff_mul_le (by omega)]
        omega
   omega
  ·have e1:z.length*k.toNat≤100*100000:=Nat.mul_le_mul hz (by omega)
   show decide (z.length*k.toNat>sizeLine)=false
   rw[sizeLine_eq]
   exact decide_eq_false (by omega)
  ·by_cases hk:k<1
   ·rw[if_pos hk]
    have e:k.toNat=0:=by omega
    rw[e,repS_zero] at q
    exact⟨by decide,.str Str.empty,H,I.tok _,⟨_,rfl⟩,q⟩
   ·rw[if_neg hk]
    by_cases h2:(k==1||z.length==0)=true
    ·rw[if_pos h2]
     refine⟨.str z,H,I,⟨t,rfl⟩,?_⟩
     have e:repS z k.toNat=z:=by
       rcases Bool.or_eq_true_iff.mp h2 with a|a
       ·have a:k=1:=by simpa using a
        rw[a]
        exact repS_one z
       ·have a:z.cps.size=0:=by simpa[Str.length] using a
        have b:z.cps= #[]:=Array.eq_empty_of_size_eq_zero a
        obtain⟨zc⟩:=z
        dsimp only at b
        subst b
        unfold repS
        rw[rep_empty]
     rw[e] at q
     exact q
    ·rw[if_neg h2]
     refine⟨?_,.str (repS z k.toNat),H,I.tok _,⟨_,by unfold repS;rfl⟩,q⟩
     have er:(⟨(List.replicate k.toNat z.cps).foldl (· ++ ·) #[]⟩:Str)=repS z k.toNat:=by
       unfold repS
       rfl
     rw[er]
     rw[repS_len,sizeLine_eq]
     have e1:k.toNat*z.length≤100000*100:=Nat.mul_le_mul (by omega) hz
     omega
 ·exact h.elim
theorem pe_globE {x:Str} {v:V} {pos:Pos} (hg:Gl X x) (h:∃u,X.mg x=some u∧RelV v u) (hd:(x==("__debug__":Str))=false:=by decide):PE X (.Name x pos) (tC v):=by
 obtain⟨u,h1,h2⟩:=h
 exact pe_glob hg h1 h2 hd
end
theorem cf1 {K:Kf} {x f:Str} (h:Cls K (He.ga K x)∧NoAttr K (He.ga K x) f):∀C,isC K [x] C→Cls K C∧NoAttr K C f:=fun C e=>by
 have e:C=He.ga K x:=e
 rw[e]
 exact h
section
variable {X:Cx} {m x:Str} {k:Nat} {ps:List Str} {sp:Sp} {W:WX}
theorem run_at {f:Addr} {fd:FuncData} {A:Around} {E:L2.St→XK} {pins:List (Addr × Obj)} {σ:L2.St} {H:Hp} {s:Shared} {Q:VK} {us:List Value} {vs:List V} (F:FnOk X.prog X.w X.K X.mg X.base (L2.CX X.prog X.w) k f fd ps sp) (hr:Room k A) (hfr:A.frames=X.A.frames) (hb:Binds X.K fd ps []) (hx:PassesAt (L2.CX X.prog X.w) X σ (E σ))
 (I:Inv X pins σ H s) (r:Vals vs us) (h:sp vs H Q (E σ)):wpAny (model X.prog X.w) A (call (.ref f) us) (EP X pins σ Q) X.xe s:=by
 have hl:us.length=ps.length:=by rw[←r.length];exact F.len _ _ _ _ h
 have b:=hb s us I.kIn (by rw[z26];exact hl)
 rw[z26] at b
 have e0:Env0 X.prog X.w X.K X.mg X.base A X.stack s H:=by
  have e:=I.env0
  exact⟨by rw[hfr];exact e.frames,e.mod,e.bs,e.bsz,e.funs,e.frf,e.hok,e.bare⟩
 refine wpAny_call (codeAny_mono (F.run A X.stack s H ⟨us,[]⟩ us vs Q (E σ) hr e0 b r h) fun r s' hq=> ?_)
 cases r with
 |error e=>exact hx pins H s e s' I hq
 |ok fl=>
  cases fl with
  |ret u=>exact I.after hq
  |next=>exact False.elim hq
  |brk=>exact False.elim hq
  |cont=>exact False.elim hq
def zLenO (C:Addr) (sp:Sp):List V→Hp→VK→Prop:=fun xs H Q=>match xs with
 |[.ref a]=>∃dx fs,H a=some (.ins C dx fs)∧sp [.ref a] H (fun v H'=>match v with
  | .int n=>(0≤n∧n<2^63)∧Q (.int n) H'
  |_=>False) E0
 |_=>False
theorem cr_lenO {CN:Str} (M:OMe X.prog X.w X.K X.mg X.base CN "__len__" k ps sp) (hr:Room (k+1) X.A):CallR X (.builtin "len") (zLenO (He.ga X.K CN) sp):=by
 obtain⟨f,fd,h1,h2,h3⟩:=M.ex
 intro pins s σ H xs us Q I r h
 unfold zLenO at h
 split at h
 ·obtain⟨dx,fs,e,q⟩:=h
  obtain⟨u,rfl,r1⟩:=vals1 r
  cases r1
  obtain⟨mA,J,_⟩:=ins_get I.hok e
  obtain⟨od,J,_⟩:=J.look
  obtain⟨m,hF⟩:=I.fr
  refine PySem.W.len_K hF I.ok.mod.kin J h1.at_ h1.fn (wpAny_mono (run_at (vs:= [.ref _]) h2 hr.in1 rfl h3 (passAt tk0 σ) I (.cons rfl .nil) q) (fun v s' hq=> ?_) fun _ _ z=>z)
  obtain⟨w',H',I',rv,q'⟩:=hq
  cases w'<;>first|exact q'.elim|skip
  obtain⟨t,rfl⟩:=rv
  exact⟨q'.1,.int _,H',I'.tok _,⟨_,rfl⟩,q'.2⟩
 ·exact h.elim
end
def AtCaller (P:Program) (w:World) (K:Kf) (mg:Str→Option Value) (base:Heap) (fa:Addr) (fd:FuncData) (x:Str) (sp:Sp):Prop:=
 ∀(s:Shared) (H:Hp) (u:Value) (v:V) (Q:VK),Env0 P w K mg base callerA [] s H→BindsTo s fd ⟨[u],[]⟩ [(x,u)]→RelV v u→sp [v] H Q E0→
  codeAny (model P w) callerA (.call (.ref fa) ⟨[u],[]⟩) (CR CX0 [] P w H s Q E0) s
def lawHp (K:Kf) (ts:List Addr) (a:Addr) (ob:Obj) (xs:List V):Hp:=fun b=>
 if b∈ts then some (.tbl #[]) else if b=a∧(K.lookup a).isNone=true then some (.frz ob (.lst xs)) else none
section
variable {K:Kf} {ts:List Addr} {a b:Addr} {ob:Obj} {xs:List V}
theorem lawHp_tab (h:b∈ts):lawHp K ts a ob xs b=some (.tbl #[]):=if_pos h
theorem lawHp_inv {u:HO} (h:lawHp K ts a ob xs b=some u):(b∈ts∧u= .tbl #[])∨(b∉ts∧b=a∧K.lookup a=none∧u= .frz ob (.lst xs)):=by
 unfold lawHp at h
 by_cases h1:b∈ts
 ·rw[if_pos h1] at h
  exact .inl ⟨h1,(z33 h).symm⟩
 ·rw[if_neg h1] at h
  by_cases h2:b=a∧(K.lookup a).isNone=true
  ·rw[if_pos h2] at h
   exact .inr ⟨h1,h2.1,Option.isNone_iff_eq_none.mp h2.2,(z33 h).symm⟩
  ·rw[if_neg h2] at h
   cases h
end
theorem law_end {P:Program} {w:World} {K:Kf} {mg mb:Str→Option Value} {fa a:Addr} {tabs:List (Addr × Addr)} {fd:FuncData} {x:Str} {sp:Sp} {s:Shared} {us:List Value} {ns:List Int}
 (kin:K.In s.heap) (nsG:s.heap.Ns mainGlobals mg) (nsB:s.heap.Ns builtinsNs mb) (boot:∀y:Str,y≠ "__name__" →mb y=bootBuiltins y) (lim:s.heap.NoLimit) (gens:s.gens= #[])
 (empty:∀p∈tabs,s.heap.get? p.2=some {cls:= .none,data:= .fields #[]}) (free:∀p∈tabs,K.lookup p.2=none) (code:∀p∈tabs,PySem.W.CodeHd s.heap p.1 p.2)
 (mod:∃(bm:Addr) (o:Obj),mg "__builtins__"=some (.ref bm)∧bm≠builtinsNs∧s.heap.get? bm=some o∧o.cls= .type "module" ∧o.dict=some builtinsNs∧o.data= .plain)
 (hscr:s.heap.get? a=some {cls:= .type "list",data:= .seq us.toArray}) (hin:IntsAre us ns) (most:ns.length≤sizeLine)
 (run:∀base:Heap,K.In base→base.Ns mainGlobals mg→(∀p∈tabs,LamX.TabB base mg p.1 p.2)→AtCaller P w K mg base fa fd x sp)
 (bind:∀(s:Shared) (u:Value),BindsTo s fd ⟨[u],[]⟩ [(x,u)])
 (due:∀H:Hp,(∀p∈tabs,H p.2=some (.tbl #[]))→SqL K H a (ns.map V.int)→sp [.ref a] H (fun v _=>v= .bl true) E0):
 codeAny (model P w) callerA (.call (.ref fa) ⟨[.ref a],[]⟩) (fun r s'=>r= .ok (.ret (.bool true))∧OldK s.heap s'.heap∧s'.os=s.os∧AllBare s'.gens) s:=by
 have lenU:=hin.length
 generalize hob:({cls:= .type "list",data:= .seq us.toArray}:Obj)=ob at hscr
 generalize hts:tabs.map (·.2)=ts
 have inT:∀p∈tabs,p.2∈ts:=fun p hp=>by rw[←hts];exact List.mem_map_of_mem hp
 have ofT:∀b,b∈ts→∃p∈tabs,p.2=b:=fun b hb=>by rw[←hts] at hb;exact z37.mp hb
 have tabAt:∀b,b∈ts→s.heap.get? b=some {cls:= .none,data:= .fields #[]}:=fun b hb=>by
  obtain⟨p,hp,rfl⟩:=ofT b hb
  exact empty p hp
 have track:∀b o,s.heap.get? b=some o→o.cls≠ .none→(b≠a∨(K.lookup a).isNone=false)→lawHp K ts a ob (ns.map V.int) b=none:=fun b o e hc hb=>by
  unfold lawHp
  rw[if_neg (fun z=>hc (by have q:=(tabAt b z).symm.trans e;cases q;rfl)),if_neg (fun z=>by
   rcases hb with q|q
   ·exact q z.1
   ·rw[z.2] at q;cases q)]
 generalize hH:lawHp K ts a ob (ns.map V.int)=H at track
 have held:HOk P w H s.heap:=fun b u e=>by
  rw[←hH] at e
  rcases lawHp_inv e with⟨h1,rfl⟩|⟨_,rfl,_,rfl⟩
  ·exact tabAt b h1
  ·subst hob
   exact⟨hscr,(by rw[z8];exact most),us,_,vals_ints hin,hscr⟩
 have script:SqL K H a (ns.map V.int):=by
  cases hk:K.lookup a with
  |none=>
   refine .inl (.inr ⟨ob,?_⟩)
   rw[←hH]
   unfold lawHp
   rw[if_neg (fun z=>by have q:=(tabAt a z).symm.trans hscr;rw[←hob] at q;cases q),if_pos ⟨rfl,by rw[hk];rfl⟩]
  |some o=>
   have q:=(kin a o hk).symm.trans hscr
   cases q
   subst hob
   exact .inr ⟨_,us.toArray,_,hk,rfl,rfl,rfl,(by rw[List.size_toArray,lenU];exact most),by simpa using vals_ints hin⟩
 have bse:∀{b:Addr} {o:Obj},s.heap.get? b=some o→H b=none→(hidT s.heap H).get? b=some o:=fun e n=>hidT_get e n
 have aOb:∀{b:Addr} {o:Obj},s.heap.get? b=some o→(∀z n,o.data≠ .seq z n)→b≠a:=fun{b o} e h z=>by
  subst z
  have q:=e.symm.trans hscr
  cases q
  subst hob
  exact h _ _ rfl
 have nsd:∀{b:Addr} {m:Str→Option Value},s.heap.Ns b m→(hidT s.heap H).Ns b m:=fun{b m} ⟨o,es,ep,e,d,r⟩=>
  ⟨o,es,ep,bse e (by
   have n1:b∉ts:=fun z=>by have q:=(tabAt b z).symm.trans e;cases q;cases d
   have n2:=aOb e fun z n q=>by rw[d] at q;cases q
   rw[←hH]
   unfold lawHp
   rw[if_neg n1,if_neg fun z=>n2 z.1]),d,r⟩
 have kinB:K.In (hidT s.heap H):=fun b o e=>bse (kin b o e) (by
  rw[←hH]
  unfold lawHp
  rw[if_neg (fun z=>by
   obtain⟨p,hp,rfl⟩:=ofT b z
   rw[free p hp] at e
   cases e),if_neg (fun z=>by
   obtain⟨rfl,z⟩:=z
   rw[e] at z
   cases z)])
 have modB:L2.Mod K mg (hidT s.heap H):=⟨kinB,nsd nsG,⟨mb,nsd nsB,boot⟩,let⟨mc,h1,h2⟩:=lim;⟨mc,nsd h1,h2⟩⟩
 have keepB:∀{b:Addr} {o:Obj},s.heap.get? b=some o→o.cls≠ .none→(∀z n,o.data≠ .seq z n)→(hidT s.heap H).get? b=some o:=fun e h1 h2=>bse e (track _ _ e h1 (.inl (aOb e h2)))
 have tabB:∀p∈tabs,LamX.TabB (hidT s.heap H) mg p.1 p.2:=fun p hp=>by
  refine⟨?_,?_,fun z=> ?_⟩
  ·obtain⟨o,vs,file,tf,flags,tg,inF,text,tt,e1,r1,r2,r3⟩:=code p hp
   exact⟨o,vs,file,tf,flags,tg,inF,text,tt,keepB e1 (by rw[r1];exact fun q=>by cases q) (by rw[r2];exact fun _ _ q=>by cases q),r1,r2,r3⟩
  ·obtain⟨bm,o,b1,b2,b3,b4,b5,b6⟩:=mod
   refine⟨bm,o,b1,b2,fun q=> ?_,fun q=> ?_,keepB b3 (by rw[b4];exact fun q=>by cases q) (by rw[b6];exact fun _ _ q=>by cases q),b4,b5,b6⟩
   ·obtain⟨o',es,ep,e,d,_⟩:=nsG
    rw[q,e] at b3
    cases b3
    rw[d] at b6
    cases b6
   ·rw[q,empty p hp] at b3
    cases b3
    cases b4
  ·obtain⟨o',es,ep,e,d,_⟩:=nsG
   rw[z,empty p hp] at e
   cases e
   cases d
 have e0:Env0 P w K mg (hidT s.heap H) callerA [] s H:=⟨rfl,modB,fun b o e=>of_hidT e,Nat.le_of_eq (hidT_size _ _),trivial,fun b hb=>absurd (show b∈([]:List Addr) from hb) (by simp),held,.of_eq gens⟩
 have tabsH:∀p∈tabs,H p.2=some (.tbl #[]):=fun p hp=>by
  rw[←hH]
  exact lawHp_tab (inT p hp)
 refine codeAny_mono (run _ kinB (nsd nsG) tabB s H (.ref a) (.ref a) _ e0 (bind s (.ref a)) rfl (due H tabsH script)) fun r s' z=> ?_
 cases r with
 |error e=>exact(show False from z).elim
 |ok fl=>
  cases fl<;>first|exact False.elim z|skip
  obtain⟨v,H',os,bare,un,held',rel,q⟩:=z
  have q:v= .bl true:=q
  subst q
  obtain rfl:_=Value.bool true:=rel
  have stays:∀b o,b∉ts→s.heap.get? b=some o→s'.heap.get? b=some o:=fun b o nb e=>by
   cases hb:H b with
   |none=>exact un.keep b o e hb (by intro z;exact absurd (show b∈([]:List Addr) from z) (by simp)) (by simp)
   |some u=>
    have hb2:=hb
    rw[←hH] at hb2
    rcases lawHp_inv hb2 with⟨h1,_⟩|⟨_,_,_,rfl⟩
    ·exact absurd h1 nb
    ·have k1:s.heap.get? b=some ob:=(held b _ hb).1
     have k2:s'.heap.get? b=some ob:=(held' b _ (un.frzs b _ _ hb)).1
     rw[k2,←k1,e]
  refine⟨rfl,⟨fun b o e=> ?_,fun b o e=> ?_⟩,os,bare⟩
  all_goals by_cases hb:b∈ts
  ·obtain⟨p,hp,rfl⟩:=ofT b hb
   obtain⟨more,z⟩:=un.tbls p.2 #[] (tabsH p hp)
   rw[empty p hp] at e
   cases e
   exact .inr (.inl ⟨((code p hp).tab (empty p hp)).isCodeTable,rfl,#[],more,rfl,by have q:=held' p.2 _ z;rw[Array.empty_append] at q⊢;exact q⟩)
  ·exact .inl (stays b o hb e)
  ·obtain⟨p,hp,rfl⟩:=ofT b hb
   obtain⟨more,z⟩:=un.tbls p.2 #[] (tabsH p hp)
   exact⟨_,held' p.2 _ z⟩
  ·exact⟨o,stays b o hb e⟩
def LawFits (l:PySem.W.OpenLaw) (w:World) (K:Kf) (n:Nat) (x:Str) (mg:Str→Option Value) (fa:Addr) (h:Heap):Prop:=
 ∃(fd:FuncData) (tabs:List (Addr × Addr)) (sp:Sp),(∀p∈tabs,h.get? p.2=some {cls:= .none,data:= .fields #[]}∧K.lookup p.2=none∧PySem.W.CodeHd h p.1 p.2)∧(∀(s:Shared) (u:Value),BindsTo s fd ⟨[u],[]⟩ [(x,u)])∧
  (∀(H:Hp) (a:Addr) (ns:List Int),ns.length≤n→(∀z∈ns,Builtin.Int.intBits z≤1048576)→(∀p∈tabs,H p.2=some (.tbl #[]))→SqL K H a (ns.map V.int)→sp [.ref a] H (fun v _=>v= .bl true) E0)∧
  ∀base:Heap,K.In base→base.Ns mainGlobals mg→(∀p∈tabs,LamX.TabB base mg p.1 p.2)→AtCaller l.prog w K mg base fa fd x sp
theorem walk_fits {l:PySem.W.OpenLaw} {n:Nat} {q:Program} {loose:List Str} {XP:(Str→Option Value)→Heap→Prop} {YP:World→Heap→Prop} {d:DefRec} {x:Str} (hn:l.most=some n) (hz:n≤sizeLine) (hdf:d.params.defaults= [])
 (F:∀(w:World) (mg:Str→Option Value) (fa:Addr) (h:Heap),YP w h→h.Ns mainGlobals mg→mg d.name=some (.ref fa)→∃K:Kf,K.In h∧LawFits l w K n x mg fa h):
 PySem.W.WalkO q loose XP YP l.row.toRowW d [] (fun f vs=>PySem.call f vs):=by
 refine Att.attach_callB hn hdf fun w s0 s mg mb fa ob pm cd doc a us ns G Y hob hd hcd hmg hscr hints hlen hbits hg=> ?_
 obtain⟨K,kin,fd,tabs,sp,ht,hb,hsp,hF⟩:=F w mg fa _ Y G.T.g hmg
 exact law_end kin G.T.g G.T.b G.T.builtins G.T.nolimit hg (fun p hp=>(ht p hp).1) (fun p hp=>(ht p hp).2.1) (fun p hp=>(ht p hp).2.2) G.T.bmain hscr hints (Nat.le_trans hlen hz) hF hb fun H hH hS=>hsp H a ns hlen hbits hH hS
abbrev LTT:=(XK→Hp→VK→Prop)→Hp→VK→Prop
def yAct (f c':Addr) (q:Str) (tl:XK→Hp→VK→Prop) (n:Nat) (W:WX):TE:=fun σ H Q=>∃E:XK,(∀cls d σ' H',E cls d H'→σ'.length=n→W cls d σ' H')∧σ[0]?=some (some (.ref f))∧H c'=some (LamX.CodeO c' q)∧tl E H Q
theorem ye_act {Z:Cx} {W:WX} {n:Nat} {f c':Addr} {q:Str} {tl:XK→Hp→VK→Prop} {e:Expr}
 (act:∀E:XK,(∀cls d σ' H',E cls d H'→σ'.length=n→W cls d σ' H')→PE Z e (fun σ H Q=>σ[0]?=some (some (.ref f))∧H c'=some (LamX.CodeO c' q)∧tl E H Q)):PE Z e (yAct f c' q tl n W):=
 ⟨fun pins s σ H Q I ⟨E,hW,h⟩=>(act E hW).run pins s σ H Q I h⟩
theorem takes_len {X:Cx} {W:WX} (tk:Takes X W):Takes X (fun cls d σ H=>σ.length=X.N.length→W cls d σ H):=fun u s' x=>tk u s' (by
 obtain⟨a,B,sI,pins,σ,H,cls,d,e,I,nb,up,sky,na,os,ag,w⟩:=x
 exact⟨a,B,sI,pins,σ,H,cls,d,e,I,nb,up,sky,na,os,ag,w I.len⟩)
structure Giv (X:Cx) (x a:Str) (TT:LTT):Prop where
 ex:∃(g:Addr) (pg:Arguments) (bg:List Stmt) (sg:Scope) (dV kV doc pm cdv ct oc:Value) (an od:Option Addr) (osl:Array (Option Value)) (Ng:List Str),
  X.mg x=some (.ref g)∧PySem.W.keepIn X.K (.ref g)=true∧X.K.lookup g=some ⟨oc,od,.func (PySem.W.fnOf x x pg bg sg dV kV doc pm an cdv ct),osl⟩∧PySem.W.codeIn X.K cdv x=true∧
  L2.Binds X.K (PySem.W.fnOf x x pg bg sg dV kV doc pm an cdv ct) [a] []∧FnScope Ng [a] sg∧Ng[0]?=some a∧Vis sg a∧∀q,LamX.GivesTo X Ng x sg g cdv bg a q TT
theorem giv_of {X:Cx} {x a:Str} {TT:LTT} {pg:Arguments} {bg:List Stmt} {sg:Scope} {g:Addr} {fd:FuncData} {Ng:List Str} (F:FunD X.K x x pg bg sg [] [] g fd) (hm:X.mg x=some (.ref g)) (S:FnScope Ng [a] sg) (h0:Ng[0]?=some a) (hv:Vis sg a)
 (hb:∀(kV doc pm:Value) (an:Option Addr) (cdv ct:Value) (us:List Value),us.length=1→bindArgs (PySem.W.fnOf x x pg bg sg .none kV doc pm an cdv ct) ⟨us,[]⟩=pure ([a].zip us))
 (hG:∀(cdv:Value) (q:Str),LamX.GivesTo X Ng x sg g cdv bg a q TT):Giv X x a TT:=by
 have b:=F.bindsN (ps:= [a]) hb
 obtain⟨oc,od,dV,kV,doc,pm,an,cdv,ct,osl,rfl,lk,hcd,_,_⟩:=F.ex
 exact⟨g,pg,bg,sg,dV,kV,doc,pm,cdv,ct,oc,an,od,osl,Ng,hm,F.kp,lk,hcd,b,S,h0,hv,hG cdv⟩
theorem atCaller {P:Program} {w:World} {K:Kf} {mg:Str→Option Value} {base:Heap} {x qual a:Str} {pd:He.Defn} {params:Arguments} {body:List Stmt} {scope:Scope} {fd:FuncData} {N:List Str} {k:Nat} {sp:Sp}
 (F:FunD K x qual params body scope [] [] (He.fAd K pd) fd) (S:FnScope N [a] scope) (hr:Room (k+1) callerA)
 (hbody:∀(s:Shared) (H:Hp) (v:V) (Q:VK),Room k (callerA.deeper (envOfC qual scope s.heap.objs.size (He.fAd K pd) (.ref (He.cT K pd).1)))→sp [v] H Q E0→
  ∃t,PSs (cxOf CX0 P w K mg base N qual scope (He.fAd K pd) (.ref (He.cT K pd).1) callerA [] s H E0) body t∧t {nx:=fun _ H'=>Q .non H',rt:=Q} (start N [v]) H):AtCaller P w K mg base (He.fAd K pd) fd a sp:=by
 obtain⟨oc,od,dV,kV,doc,pm,an,cdv,ct,osl,rfl,lk,hcd,_,_⟩:=F.ex
 obtain⟨c,rfl⟩:∃c,cdv= .ref c:=by
  unfold PySem.W.codeIn at hcd
  split at hcd
  ·exact⟨_,rfl⟩
  ·cases hcd
 have e:c=(He.cT K pd).1:=(He.codeOf_eq lk rfl).symm
 subst e
 intro s H u v Q e0 hb rv h
 exact LamX.run_ofS (ps:= [a]) (us:= [u]) (vs:= [v]) lk hcd S hr e0 hb (.cons rv .nil) rfl fun hr'=>hbody s H v Q hr' h
section
variable {P:Program} {w:World} {K:Kf} {mg:Str→Option Value} {base:Heap} {k:Nat} {ps:List Str} {sp:Sp} {fd:FuncData} {params:Arguments} {body:List Stmt} {scope:Scope}
theorem cal_of {x:Str} (F:FunD K x x params body scope [] [] (He.fAd K (x,none)) fd) (g:mg x=some (.ref (He.ga K x))) (ok:FnOk P w K mg base (L2.CX P w) k (He.fAd K (x,none)) fd ps sp)
 (hb:∀(kV doc pm:Value) (an:Option Addr) (cdv ct:Value) (us:List Value),us.length=ps.length→bindArgs (PySem.W.fnOf x x params body scope .none kV doc pm an cdv ct) ⟨us,[]⟩=pure (ps.zip us)):Cal P w K mg base x k ps sp:=⟨_,_,ok,g,F.kp,F.bindsN hb⟩
theorem om_of {x qual:Str} (F:FunD K "__init__" qual params body scope [] [] (He.fAd K (x,some "__init__")) fd) (c:Cls K (He.ga K x)) (m:L2.Mk K (He.ga K x) (He.ma K (He.ga K x) "__init__")) (g:mg x=some (.ref (He.ga K x)))
 (ok:FnOk P w K mg base (L2.CX P w) k (He.fAd K (x,some "__init__")) fd ps sp) (hb:∀(kV doc pm:Value) (an:Option Addr) (cdv ct:Value) (us:List Value),us.length=ps.length→bindArgs (PySem.W.fnOf "__init__" qual params body scope .none kV doc pm an cdv ct) ⟨us,[]⟩=pure (ps.zip us)):
 OM P w K mg base x k ps sp:=⟨c,_,fd,m,ok,g,F.bindsN hb⟩
theorem ome_of {x m qual:Str} (F:FunD K m qual params body scope [] [] (He.fAd K (x,some m)) fd) (c:Cls K (He.ga K x)) (me:Meth K (He.ga K x) m (He.ma K (He.ga K x) m))
 (ok:FnOk P w K mg base (L2.CX P w) k (He.fAd K (x,some m)) fd ps sp) (hb:∀(kV doc pm:Value) (an:Option Addr) (cdv ct:Value) (us:List Value),us.length=ps.length→bindArgs (PySem.W.fnOf m qual params body scope .none kV doc pm an cdv ct) ⟨us,[]⟩=pure (ps.zip us)):
 OMe P w K mg base x m k ps sp:=⟨c,_,fd,me,ok,F.bindsN hb⟩
end
theorem k_int {mg:Str→Option Value} {x:Str} {i:Int} (h:∃t,mg x=some (.int i t)):∃u,mg x=some u∧RelV (.int i) u:=by
 obtain⟨t,e⟩:=h
 exact⟨_,e,t,rfl⟩
theorem k_str {mg:Str→Option Value} {x z:Str} (h:∃t,mg x=some (.str z t)):∃u,mg x=some u∧RelV (.str z) u:=by
 obtain⟨t,e⟩:=h
 exact⟨_,e,t,rfl⟩
theorem k_ref {mg:Str→Option Value} {x:Str} {a:Addr} (h:mg x=some (.ref a)):∃u,mg x=some u∧RelV (.ref a) u:=⟨_,h,rfl⟩
theorem xfsB_ok {K:Kf} {xs:List (Str × Str)} (h:xfsB K xs=true) (ha:∀p∈xs,XfC K (He.ga K p.1)∧ExcC K (He.ga K p.1)):XFs K xs:=fun p hp=>by
 obtain⟨h1,h⟩:=He.ba (List.all_eq_true.mp h p hp)
 obtain⟨h2,h⟩:=He.ba h
 obtain⟨h3,h4⟩:=He.ba h
 exact⟨⟨(ha p hp).1,He.eqO_ok h3⟩,(ha p hp).2,of_decide_eq_true h1,of_decide_eq_true h2,fun q hq=>of_decide_eq_true (List.all_eq_true.mp h4 q hq)⟩
theorem exL_ok {K:Kf} {l:List (Kf→Bool)} (h:(l.all fun t=>t K)=true) (i:Nat) {t:Kf→Bool} (e:l[i]?=some t:=by rfl):t K=true:=List.all_eq_true.mp h t (z11 e)
section
variable {X:Cx}
def zIdx (K:Kf):V→List V→Hp→VK→Prop:=fun x vs H Q=>match x,vs with
 | .ref a,[y]=>∃ys j,SqL K H a ys∧flatV y=true∧ys.all flatV=true∧ys[j]?=some y∧L2.eqV y y=true∧(∀m z,m<j→ys[m]?=some z→L2.eqV z y=false)∧Q (.int (j:Nat)) H
 |_,_=>False
theorem mt_zIdx:MtR X "list.index" (zIdx X.K):=MtR.imp mt_index fun x xs H Q q=>by
 unfold zIdx at q
 split at q
 ·obtain⟨ys,j,h1,h2,h3,h4,h5,h6,q⟩:=q
  exact⟨_,ys,_,j,_,rfl,rfl,h1,h2,h3,h4,h5,h6,q⟩
 ·exact q.elim
end
end Eb
namespace PySem
open Sem (wp)
open AutoSeq1 (wpAny_loadPart')
abbrev itT0 (t:Addr):Obj:={cls:= .type "tuple_iterator",data:= .fields #[.ref t,.int 0 0]}
abbrev enT0 (i:Addr):Obj:={cls:= .type "enumerate",data:= .fields #[.none,.bool false,.ref i,rawInt 0,.none,.none]}
theorem enum_newT (t:Addr) (its:Array Value):
 Meets (Builtin.«enumerate.__new__» ⟨[.type "enumerate",.ref t],[]⟩) (fun _ R s=>s.heap.IsTuple t its∧
  R (.ok (.ret (.ref (s.heap.push (itT0 t)).objs.size))) {s with heap:=(s.heap.push (itT0 t)).push (enT0 s.heap.objs.size)}):=
 .of_wp fun prog w A R s h=>by
  obtain⟨hp,g,d,tk,os⟩:=s
  obtain⟨isT,h⟩:=h
  have isT:Heap.IsTuple (Shared.heap ⟨hp,g,d,tk,os⟩) t its:=isT
  have sub1:=sub_enumerate
  obtain⟨o,ot,oc,n,od⟩:=id isT
  obtain⟨o1,o2,o3,o4⟩:=o
  simp only at oc od
  subst oc;subst od
  wp_walk using wpAny_loadPart' ot
  refine wpAny_stack_any fun st=>wpAny_pure ?_
  split
  ·rename_i c _ _ _ _ _
   cases(c==Value.type "enumerate")
   ·wp_walk using wpAny_loadPart' ot,wpAny_pyIter_tuple isT
    exact⟨_,rfl,h⟩
   ·wp_walk using wpAny_loadPart' ot,wpAny_pyIter_tuple isT
    exact⟨_,rfl,h⟩
  ·wp_walk using wpAny_loadPart' ot,wpAny_pyIter_tuple isT
   exact⟨_,rfl,h⟩
theorem call_enumT {prog:Program} {w:World} {A:Around} {E:Value→Shared→Prop} {s:Shared} {t:Addr} {its:Array Value} {Q:Value→Shared→Prop} (isT:s.heap.IsTuple t its)
 (h:∀g,IsEnum g (s.heap.objs.size+1) s.heap.objs.size 0 .none→g.IsTupleIter s.heap.objs.size t 0→(∀b o,s.heap.get? b=some o→g.get? b=some o)→Q (.ref (s.heap.objs.size+1)) {s with heap:=g}):
 wpAny (model prog w) A (call (.type "enumerate") [.ref t]) Q E s:=by
 refine callType_new F.called_enumerate (by decide) (F.typeCall_enumerate_1 _) (F.newCall_enumerate_1 _) (fun obj=>F.args_object_init_2 obj _) F.entry_enumerate_new (enum_newT t its) ⟨isT,?_⟩
 have z:(s.heap.push (itT0 t)).objs.size=s.heap.objs.size+1:=Heap.size_push ..
 show _∧_
 rw[z]
 have e:IsEnum ((s.heap.push (itT0 t)).push (enT0 s.heap.objs.size)) (s.heap.objs.size+1) s.heap.objs.size 0 .none:=by
  have q:=Heap.get?_push_size (s.heap.push (itT0 t)) (o:=enT0 s.heap.objs.size) rfl
  rw[z] at q
  exact q
 exact⟨⟨_,e,rfl⟩,h _ e ⟨_,z21 _ (Heap.get?_push_size _ rfl),rfl,rfl⟩ fun b o x=>z21 _ (z21 _ x)⟩
end PySem
namespace Eb
open PySem PySem.Spec PyProof.Rows L2
def IteT (K:Kf) (a:Addr):It:=
 ⟨fun i H=>∃(xs:List V) (x:V),SqT K H a xs∧xs[i]?=some x,fun i H v H'=>∃T x,v= .ref T∧H T=none∧H'=upd H T (.tup [.int (i:Nat),x])∧∀xs,SqT K H a xs→xs[i]?=some x,fun i H=>∃xs:List V,SqT K H a xs∧xs.length=i⟩
theorem turn_enumT {P:Program} {w:World} {K:Kf} {elts:List Expr} {kk:Nat} {tpos:Pos} {a e it:Addr} {its:Array Value} (hE:e≠it) (hea:e≠a) (hia:a≠it):
 Turn P w K (.Tuple elts kk tpos) (IteT K a) [e,it] e (fun i h=>(∃old,IsEnum h e it ((i:Nat):Int) old)∧h.IsTupleIter it a i) where
 mem:=by simp
 obj:=fun i h st b hb=>by
  obtain⟨⟨old,he⟩,⟨o,ho,hc,hd⟩⟩:=st
  rcases(show b=e∨b=it by simpa using hb) with z|z
  ·rw[z]
   exact⟨_,he,fun v q=>nomatch q⟩
  ·rw[z]
   exact⟨o,ho,fun v q=>by rw[hd] at q;cases q⟩
 keep:=fun i h h' st k=>let⟨⟨old,he⟩,hi⟩:=st;⟨⟨old,k e (by simp) _ he⟩,hi.at fun o q=>k it (by simp) o q⟩
 item:=by
  intro X hP hw hK hc i pins s σ H E I hf st hg
  subst hP hw hK
  obtain⟨⟨old,he⟩,hit⟩:=st
  obtain⟨xs,x,hq,hx⟩:=hg
  obtain⟨us,rv,p,hz⟩:=I.tuple hq
  obtain⟨u,hu,ru⟩:=rv.get hx
  have pT:s.heap.IsTuple a us.toArray:=p
  have lt:i<us.toArray.size:=by
   have z:=(List.getElem?_eq_some_iff.mp hu).1
   simpa using z
  refine wpAny_pyNext_enum_itemD (Draws.tuple (A:=X.A.in1) (I.ok.hd hc) it a hia us.toArray) he ⟨hit,pT⟩ lt hE (by simp[hE,hea]) fun v h' tk hv ho hit' hT hsz hk=> ?_
  have ev:v=u:=by
   have z:us[i]?=some v:=by simpa using hv
   rw[hu] at z
   exact(z33 z).symm
  subst ev
  have hel:e<s.heap.objs.size:=Heap.lt_size he
  have hil:it<s.heap.objs.size:=by obtain⟨_,q,_⟩:=hit;exact Heap.lt_size q
  refine⟨_,rfl,wpAny_letOwnedTupleGo_enum (s:={s with heap:=h',toks:=tk+1}) ho fun g ge sb=> ?_⟩
  have hT2:g.get? s.heap.objs.size=some {cls:= .type "tuple",data:= .seq #[.int i tk,v]}:=(sb.2 _ (Nat.ne_of_gt hel)).trans hT
  have new:ObjOk X.prog X.w (upd H s.heap.objs.size (.tup [.int (i:Nat),x])) g s.heap.objs.size (.tup [.int (i:Nat),x]):=
   ⟨by show 2≤sizeLine;decide,[.int i tk,v],.cons ⟨_,rfl⟩ (.cons ru .nil),⟨_,hT2,rfl,_,rfl⟩⟩
  have I1:Inv X pins σ (upd H s.heap.objs.size (.tup [.int (i:Nat),x])) {s with heap:=g,toks:=tk+1}:=
   I.turnedNew (ch:= [e,it]) (fun b ob hb q=>(sb.2 b (fun z=>hb (by simp[z]))).trans (hk b ob (fun z=>hb (by simp[z])) (fun z=>hb (by simp[z])) q)) hf (z34 _) new
  refine⟨.ref s.heap.objs.size,_,I1,rfl,⟨_,x,rfl,I.hok.fresh (z34 _),rfl,fun ys hy=>by rw[I.tuple_inj hy hq];exact hx⟩,⟨⟨v,?_⟩,hit'.1.at fun o q=>(sb.2 it (Ne.symm hE)).trans q⟩,fun b hb=> ?_⟩
  ·have e1:((i+1:Nat):Int)=(i:Int)+1:=by omega
   rw[e1]
   exact ge
  ·have hb':b<s.heap.objs.size:=by
        rcases(show b=e∨b=it by simpa using hb) with z|z
        ·rw[z];exact hel
        ·rw[z];exact hil
   rw[upd_ne (Nat.ne_of_lt hb')]
   exact(hf b hb).1
 done:=by
  intro X hP hw hK hc i pins s σ H E I hf st hg
  subst hP hw hK
  obtain⟨⟨old,he⟩,hit⟩:=st
  obtain⟨xs,hq,hx⟩:=hg
  obtain⟨us,rv,p,hz⟩:=I.tuple hq
  obtain⟨f0,f1,f2,f3,f4,f5⟩:=hf it (by simp)
  have pT:s.heap.IsTuple a us.toArray:=p
  have hl:us.toArray.size=i:=by
   rw[List.size_toArray,←rv.length]
   exact hx
  subst hl
  exact wpAny_pyNext_enum_endD (Draws.tuple (A:=X.A.in1) (I.ok.hd hc) it a hia us.toArray) he ⟨hit,pT⟩ fun h' eb=>⟨rfl,I.turned (t':=s.toks) (fun b o hb q=>eb b o hb q) f0 f1 f3 f4 f5⟩
 self:=fun A i s Q E st h=>let⟨⟨_,he⟩,_⟩:=st;wpAny_pyIter_enum he h
def iEnumT (K:Kf) (ta:TA):TI:=fun σ H R=>ta σ H fun vs H1=>∃a xs,vs= [.ref a]∧SqT K H1 a xs∧R (IteT K a) H1
theorem pi_enumT {X:Cx} {e:Expr} {ta:TA} {p pos tpos:Pos} {elts:List Expr} {kk:Nat} (hg:Gl X "enumerate") (hm:X.mg "enumerate"=none) (ha:PA X [e] ta) (hs:starEach [e] X.env= [(false,eval e X.env)]:=by rfl):
 PI X (.Tuple elts kk tpos) (.Call (.Name "enumerate" p) [e] [] pos) (iEnumT X.K ta):=by
 refine⟨fun pins s σ H R I h=> ?_⟩
 refine Call_ (ld_blt I hg hm boot_enumerate (callWith_type1 (thn (ha.run pos pins s σ H _ I h) fun us s1 ⟨vs,H1,I1,r1,q1⟩=> ?_) hs rfl))
 obtain⟨a,xs,ex,hq,q⟩:=q1
 subst ex
 cases r1 with
 |cons r rr=>
  cases rr
  cases r
  obtain⟨its,rv,p',hz⟩:=I1.tuple hq
  have pT:s1.heap.IsTuple a its.toArray:=p'
  have la:a<s1.heap.objs.size:=by obtain⟨_,q,_⟩:=id pT;exact Heap.lt_size q
  refine call_enumT pT fun g he hit hk=>wpAny_pyIter_enum he ?_
  have I2:Inv X pins σ H1 {s1 with heap:=g}:=I1.kept (t':=s1.toks) hk
  refine⟨s1.heap.objs.size+1,[s1.heap.objs.size+1,s1.heap.objs.size],_,_,H1,rfl,I2,turn_enumT (its:= #[]) (Nat.succ_ne_self _) (Nat.ne_of_gt (Nat.lt_succ_of_lt la)) (Nat.ne_of_lt la),⟨⟨.none,he⟩,hit⟩,fun b hb=> ?_,q⟩
  have hle:s1.heap.objs.size≤b:=by
   rcases(show b=s1.heap.objs.size+1∨b=s1.heap.objs.size by simpa using hb) with z|z
   ·rw[z];exact Nat.le_add_right _ _
   ·rw[z];exact z34 _
  exact I1.fpOk hle (I1.hok.fresh hle)
theorem walk_enumT {K:Kf} {a:Addr} {xs:List V}:Walk (IteT K a) xs.length (fun H=>SqT K H a xs) (YPair (fun i=>some (.int (i:Nat))) (fun i=>xs[i]?)):=by
 refine⟨fun i _ hi q=>⟨xs,xs[i],q,by simp[hi]⟩,fun _ q=>⟨xs,q,rfl⟩,fun i H v H' _ q y=> ?_⟩
 obtain⟨T,x,h1,h2,h3,h4⟩:=y
 exact⟨T,_,x,h1,h2,h3,rfl,h4 xs q⟩
def jEnumT (K:Kf) (tl:TE):Src:=fun σ H R=>tl σ H fun x H1=>match x with
 | .ref a=>∃xs,SqT K H1 a xs∧R xs.length (fun H=>SqT K H a xs) (YPair (fun i=>some (.int (i:Nat))) (fun i=>xs[i]?)) H1
 |_=>False
def jOr (a b:Src):Src:=fun σ H R=>a σ H R∨b σ H R
def yOr2 (a b:TE):TE:=fun σ H Q=>a σ H Q∨b σ H Q
section
variable {X:Cx}
theorem j_enumT {e:Expr} {te:TE} {p pos tpos:Pos} {elts:List Expr} {kk:Nat} (hg:Gl X "enumerate") (hm:X.mg "enumerate"=none) (h:PE X e te) (hs:starEach [e] X.env= [(false,eval e X.env)]:=by rfl):PSrc X (.Tuple elts kk tpos) (.Call (.Name "enumerate" p) [e] [] pos) (jEnumT X.K te):=⟨_,pi_enumT hg hm (pa_cons (PE.up h) pa_nil hs) hs,fun σ H R R' q k=>⟨_,q,fun x H1 q1=>by
 cases x<;>first|exact False.elim q1|skip
 obtain⟨xs,h1,q2⟩:=q1
 exact⟨_,xs,rfl,h1,k _ _ _ _ q2 _ walk_enumT⟩⟩⟩
theorem j_or {tg iter:Expr} {a b:Src} (ha:PSrc X tg iter a) (hb:PSrc X tg iter b):PSrc X tg iter (jOr a b):=by
 obtain⟨w1,p1,h1⟩:=ha
 obtain⟨w2,p2,h2⟩:=hb
 refine⟨fun σ H R=>w1 σ H R∨w2 σ H R,⟨fun pins s σ H R I h=>h.elim (fun h=>p1.run pins s σ H R I h) fun h=>p2.run pins s σ H R I h⟩,fun σ H R R' q k=> ?_⟩
 exact q.elim (fun q=> .inl (h1 σ H R R' q k)) fun q=> .inr (h2 σ H R R' q k)
theorem ye_or2 {e:Expr} {a b:TE} (ha:PE X e a) (hb:PE X e b):PE X e (yOr2 a b):=⟨fun pins s σ H Q I h=>h.elim (fun h=>ha.run pins s σ H Q I h) fun h=>hb.run pins s σ H Q I h⟩
theorem ys_fldaug {P:Addr→Prop} {o value:Expr} {ta tv:TE} {f:Str} {op:Operator} {rd:R2} {pos tpos:Pos} (hP:∀C,P C→Cls X.K C∧NoAttr X.K C f) (ha:PE X o ta) (hv:PE X value tv) (hop:InOp X op rd):PS X (.AugAssign (.Attribute o f tpos) op value pos) (yAugF P ta tv rd f):=
 PS.imp (ps_fldaug (PE.up ha) (PE.up hv) hop) fun D σ H q=>⟨_,q,fun x H1 q1=>by
  cases x<;>first|exact False.elim q1|skip
  obtain⟨C,dx,fs,v,h1,h2,h3,q2⟩:=q1
  exact⟨_,C,dx,fs,v,rfl,h1,(hP C h2).1,(hP C h2).2,h3,_,q2,fun y H2 q3=>q3⟩⟩
def zDictP (K:Kf):List V→Hp→VK→Prop:=fun xs H Q=>match xs with
 |[.ref a]=>∃(ps:List Addr) (kvs:List (Key × V)),SqL K H a (ps.map V.ref)∧Paired (fun p kv=>SqT K H p [kV kv.1,kv.2]) ps kvs∧∀p,H p=none→Q (.ref p) (upd H p (.dK (mergeK [] kvs)))
 |_=>False
theorem cr_zDictP (hc:X.calm=true):CallR X (.type "dict") (zDictP X.K):=CallR.imp (call_dictP hc) fun xs H Q q=>by
 unfold zDictP at q
 split at q
 ·obtain⟨ps,kvs,h1,h2,q⟩:=q
  exact⟨_,ps,kvs,rfl,h1,h2,q⟩
 ·exact q.elim
def yLItems (te:TE):TE:=fun σ H Q=>te σ H fun x H1=>match x with
 | .ref d=>∃kvs,H1 d=some (.dK kvs)∧∀(H':Hp) (p:Addr) (ts:List Addr),Ext H1 H'→H1 p=none→(∀t∈ts,H1 t=none)→p∉ts→H' p=some (.lst (ts.map V.ref))→Paired (fun(t:Addr) (q:Key × V)=>H' t=some (.tup [kV q.1,q.2])) ts kvs→Q (.ref p) H'
 |_=>False
theorem ye_litems {e:Expr} {te:TE} {p apos cpos pos:Pos} (hc:X.calm=true) (hg:Gl X "list") (hm:X.mg "list"=none) (he:PE X e te) (hv:bootBuiltins "list"=some (.type "list"):=by decide+kernel) (hbase:attributeBase e "items" X.env (eval e X.env)=eval e X.env:=by rfl) (hline:(apos.endLine==cpos.line)=true:=by rfl)
 (hs:starEach [.Call (.Attribute e "items" apos) [] [] cpos] X.env=(false,eval (.Call (.Attribute e "items" apos) [] [] cpos) X.env)::starEach [] X.env:=by rfl):
 PE X (.Call (.Name "list" p) [.Call (.Attribute e "items" apos) [] [] cpos] [] pos) (yLItems te):=PE.imp (LiI.pe_listItems hc (PE.up he) hg hm hv hbase hline hs) fun σ H Q q=>⟨_,q,fun x H1 q1=>by
 cases x<;>first|exact False.elim q1|skip
 obtain⟨kvs,h1,q2⟩:=q1
 exact⟨_,kvs,rfl,h1,q2⟩⟩
end
theorem PTup.sq {K:Kf} {H:Hp} {t:Addr} {xs:List V} (h:PTup H t xs):SqT K H t xs:=h.elim fun o h=> .inl (.inr ⟨o,h.2⟩)
def zTupleP (K:Kf):List V→Hp→VK→Prop:=fun xs H Q=>match xs with
 |[.ref p]=>∃ys,(SqL K H p ys∧∀l (o:Obj),o.dict=none→H l=none→Q (.ref l) (upd H l (.frz o (.tup ys))))∨(SqT K H p ys∧Q (.ref p) H)
 |_=>False
section
variable {X:Cx}
theorem cr_tupleP:CallR X (.type "tuple") (zTupleP X.K):=by
 intro pins s σ H xs us Q I r h
 unfold zTupleP at h
 split at h
 ·rename_i p
  obtain⟨ys,h⟩:=h
  obtain⟨u,rfl,rx⟩:=vals1 r
  cases rx
  rcases h with⟨hq,q⟩|⟨hq,q⟩
  ·obtain⟨its,r',pl,hz⟩:=I.list hq
   have hlen:=r'.length
   refine call_tuple_list pl.isList (fun h' kp=> ?_) (by simp only[List.size_toArray]<;>omega)
   have I1:Inv X pins σ H {s with heap:=h'}:=I.kept (t':=s.toks) kp
   have I2:Inv X pins σ (upd H h'.objs.size (.frz {cls:= .type "tuple",data:= .seq its.toArray} (.tup ys))) {s with heap:=h'.push {cls:= .type "tuple",data:= .seq its.toArray}}:=
        I1.laid (t':=s.toks) (fun b o e=>z21 _ e) (z34 _) ⟨Heap.get?_push_size _ rfl,hz,its,r',IsTup.new _ _⟩
   exact⟨.ref h'.objs.size,_,I2,rfl,q _ _ rfl (I1.hok.fresh (z34 _))⟩
  ·obtain⟨its,r',pl,hz⟩:=I.tuple hq
   exact call_tuple_same pl ⟨.ref p,H,I,rfl,q⟩
 ·exact h.elim
end
theorem sameMaB_ok {K:Kf} {x y m:Str} (h:sameMaB K x y m=true):He.ma K (He.ga K x) m=He.ma K (He.ga K y) m:=of_decide_eq_true h
structure PL (X:Cx) (es:List Expr) (t:TA):Prop where
 run:∀(pos:Pos) (rest:List (Bool × Sem Value)) (Qf:List Value→Shared→Prop) (pins:List (Addr × Obj)) (s:Shared) (σ:L2.St) (H:Hp) (Q:List V→Hp→Prop),Inv X pins σ H s→t σ H Q→
  (∀us vs s1 H1,vs.length=es.length→Inv X pins σ H1 s1→Vals vs us→Q vs H1→wpAny (model X.prog X.w) X.A (spliced rest) (fun ws s2=>Qf (us++ws) s2) X.xe s1)→
  wpAny (model X.prog X.w) X.A (spliced (backTo pos (starEach es X.env)++rest)) Qf X.xe s
def yStar (K:Kf) (te:TE) (t:TA):TA:=fun σ H Q=>te σ H fun x H1=>match x with
 | .ref p=>∃xs,(SqT K H1 p xs∨SqL K H1 p xs)∧t σ H1 fun ys H2=>Q (xs++ys) H2
 |_=>False
section
variable {X:Cx}
theorem ya_star {e:Expr} {es:List Expr} {te:TE} {t:TA} {p:Pos} (he:PE X e te) (hr:PA X es t) (hs:starEach (.Starred e p::es) X.env=(true,eval e X.env)::starEach es X.env:=by rfl):PA X (.Starred e p::es) (yStar X.K te t):=by
 have h:=StX.pa_star (p:=p) (PE.up he) hr hs
 refine⟨fun pos pins s σ H Q I q=>h.run pos pins s σ H Q I ⟨_,q,fun x H1 z=> ?_⟩⟩
 cases x<;>first|exact z.elim|skip
 rename_i a
 obtain⟨xs,h1,h2⟩:=z
 exact⟨a,xs,rfl,h1,h2⟩
end
end Eb
namespace PySem
open Sem (wp)
section
variable {prog:Program} {w:World} {A:Around} {E:Value→Shared→Prop} {s:Shared}
theorem wpAny_dictPut_pairs {K:Type} [DecidableEq K] {knd:KeyKind prog w K} {d:Addr} {kvs:List (K × Value)} {k:K} {key v:Value} {Q:Unit→Shared→Prop} (hkey:knd.is k key=true) (hm:s.heap.DictOf knd d kvs)
 (hQ:∀h',h'.DictOf knd d (stored kvs k v)→Heap.SameBut d s.heap h'→Q () {s with heap:=h'})
 (hsz:kvs.length≤sizeLine:=by size_fits):
 wpAny (model prog w) A (dictPut d (knd.hash k) key v) Q E s:=by
 obtain⟨o,es,ep,ho,hc,hd,hk,hp,hn⟩:=hm
 have hes:es.size≤sizeLine:=by have e1:=hp.length;have e2:es.toList.length=es.size:=by simp
                               omega
 unfold dictPut
 refine wpAny_bind (wpAny_dictFind_of hkey ho hd hk ?_)
 have hidx:(es.findIdx? fun e=>knd.is k e.key)=kvs.findIdx? fun kv=>decide (kv.1=k):=by
  rw[←hp.findIdx k];obtain⟨l⟩:=es;simp
 cases hi:es.findIdx? fun e=>knd.is k e.key with
 |some i=>
  refine wpAny_updateDict ho hd (hQ _ ⟨_,_,ep,Heap.get?_update_self _ ho (Obj.isFreed_of_dict (Obj.data_mapDict hd _)),
   hc.mapDict _,Obj.data_mapDict hd _,hk.modify _ _,?_,?_⟩ (Heap.SameBut.update ..))
  ·rw[stored,if_pos (any_of_findIdx_some (hidx▸hi))]
   have hl:(es.toList.findIdx? fun e=>knd.is k e.key)=some i:=by rw[←hi];obtain⟨l⟩:=es;simp
   have:=hp.modify hn hl v
   obtain⟨l⟩:=es
   simpa using this
  ·rw[stored,if_pos (any_of_findIdx_some (hidx▸hi)),keys_map_store];exact hn
 |none=>
  have hnot:k∉kvs.map (·.1):=not_mem_of_findIdx_none (hidx▸hi)
  have hany: ¬(kvs.any fun kv=>decide (kv.1=k))=true:=by
   rw[List.any_eq_true];rintro⟨kv,hkv,he⟩
   exact hnot (z37.mpr ⟨kv,hkv,of_decide_eq_true he⟩)
  refine wpAny_updateDictKeys (hz:=hes) ho hd (hQ _ ⟨_,_,ep+1,Heap.get?_update_self _ ho (Obj.isFreed_of_dict (Obj.data_mapDictKeys hd _)),
   hc.mapDictKeys _,Obj.data_mapDictKeys hd _,hk.push hkey _,?_,?_⟩ (Heap.SameBut.update ..))
  ·rw[stored,if_neg hany]
   have:=hp.append hkey (knd.hash k) v
   obtain⟨l⟩:=es
   simpa using this
  ·rw[stored,if_neg hany,z16,List.nodup_append]
   refine⟨hn,by simp,?_⟩
   intro a ha b hb
   simp only[List.map_cons,List.map_nil,z32] at hb
   subst hb
   exact fun e=>hnot (e▸ha)
theorem wpAny_mergeMapping {d o:Addr} {kvs more:List (L2.Key × Value)} {Q:Unit→Shared→Prop} (hdo:d≠o) (hoS:(o==sysModules)=false)
 (hd:s.heap.DictOf (L2.mixKind prog w) d kvs) (ho:s.heap.DictOf (L2.mixKind prog w) o more)
 (hQ:∀h',h'.DictOf (L2.mixKind prog w) d (merged kvs more)→Heap.SameBut d s.heap h'→Q () {s with heap:=h'})
 (hsz:kvs.length+more.length≤sizeLine:=by size_fits):
 wpAny (model prog w) A (mergeMapping d (.ref o) false) Q E s:=by
 obtain⟨od,esd,epd,hod,hcd,hdd,hkd,hpd,hnd⟩:=id hd
 obtain⟨oo,eso,epo,hoo,hco,hdo',hko,hpo,hno⟩:=id ho
 have hlen:more.length=eso.size:=by rw[←hpo.length];simp
 unfold mergeMapping
 refine wpAny_bind (wpAny_isInstance ho.typeIs isSubtype_dict_dict ?_)
 dsimp only
 rw[if_pos rfl]
 refine wpAny_bind (wpAny_specialOf ho.typeIs F.slot_dict_iter.lookup ?_)
 refine wpAny_bind (wpAny_pure ?_)
 simp only[beq_self_eq_true]
 rw[if_neg (by rw[hoS];exact Bool.false_ne_true)]
 refine wpAny_bind (wpAny_dictEntries hod hdd ?_)
 have key:wpAny (model prog w) A (do
  let size:=(←dictEntries o).size
  let epoch←dictEpoch o
  for i in List.range size do
        let some e:=(←dictEntries o)[i]?|unsupported "dict.changed-during-merge"
        holding [e.key,e.val] do
         dictPut d e.hash e.key e.val
        if(←dictEpoch o) !=epoch then unsupported "dict.changed-during-merge") Q E s:=by
  refine wpAny_bind (wpAny_dictEntries hoo hdo' ?_)
  refine wpAny_bind (wpAny_dictEpoch hoo hdo' ?_)
  refine wpAny_bind ?_
  refine wpAny_forIn_list _
   (fun rest _ s'=>∃h' i,s'={s with heap:=h'}∧rest=List.range' i (eso.size-i)∧i≤eso.size∧h'.DictOf (L2.mixKind prog w) d (merged kvs (more.take i))∧h'.get? o=some oo∧Heap.SameBut d s.heap h')
   _ ?_ ?_ (List.range eso.size) _ ⟨s.heap,0,rfl,by rw[List.range_eq_range'];simp,z35 _,by simpa[merged] using hd,hoo,Heap.SameBut.refl _ _⟩
  ·rintro x rest b s' ⟨h',i,rfl,hr,hi,hd',hoo',hs'⟩
   have hlt:i<eso.size:=by
        rcases Nat.lt_or_ge i eso.size with h|h
        ·exact h
        ·rw[Nat.sub_eq_zero_of_le h] at hr;simp at hr
   obtain⟨rfl,hrest⟩:x=i∧rest=List.range' (i+1) (eso.size- (i+1)):=by
        have e:eso.size-i=(eso.size- (i+1))+1:=by omega
        rw[e,List.range'_succ] at hr
        injection hr with h1 h2
        exact⟨h1,h2⟩
   refine wpAny_bind (wpAny_dictEntries hoo' hdo' ?_)
   rw[Array.getElem?_eq_getElem hlt]
   obtain⟨kv,hkv⟩:∃kv,more[x]?=some kv:=⟨more[x]'(by rw[hlen];exact hlt),z9 _⟩
   obtain⟨k,v⟩:=kv
   obtain⟨hkey,hval⟩:=hpo.get? (e:=eso[x]) (by simp[hlt]) hkv
   obtain⟨k',hkey',hhash⟩:=hko eso[x] (Array.getElem_mem hlt)
   obtain rfl:k'=k:=(L2.mixKind prog w).inj _ _ _ hkey' hkey
   show wpAny _ _ (holding [eso[x].key,eso[x].val] (dictPut d eso[x].hash eso[x].key eso[x].val)>>=_) _ _ _
   rw[hhash,hval]
   have hmx:(merged kvs (more.take x)).length≤sizeLine:=by
        have e1:=merged_length_le kvs (more.take x)
        have e2:(more.take x).length≤more.length:=by rw[z22];omega
        omega
   refine wpAny_bind (wpAny_holding (wpAny_dictPut_pairs (hsz:=hmx) hkey hd' fun h'' hd'' hs''=> ?_))
   have hoo'':h''.get? o=some oo:=(hs''.2 o (Ne.symm hdo)).trans hoo'
   refine wpAny_bind (wpAny_dictEpoch hoo'' hdo' ?_)
   rw[if_neg (by simp)]
   exact wpAny_pure ⟨h'',x+1,rfl,hrest,hlt,by rw[merged_take_succ kvs more x (k',v) hkv];exact hd'',hoo'',hs'.trans hs''⟩
  ·rintro b s' ⟨h',i,rfl,hr,hi,hd',hoo',hs'⟩
   have hin:i=eso.size:=by
        rcases Nat.lt_or_ge i eso.size with h|h
        ·have e:eso.size-i=(eso.size- (i+1))+1:=by omega
         rw[e,List.range'_succ] at hr;exact nomatch hr
        ·exact Nat.le_antisymm hi h
   refine wpAny_pure (hQ h' ?_ hs')
   rw[hin,←hlen,List.take_length] at hd';exact hd'
 split
 ·refine wpAny_bind (wpAny_dictEntries hoo hdo' ?_)
  refine wpAny_bind (wpAny_of_eq (a:=PUnit.unit) ?_ ?_)
  ·rw[←Array.forIn_toList]
   refine forIn_yield_id _ fun e he c=> ?_
   obtain⟨k,hkey,_⟩:=hko e (Array.mem_toList_iff.mp he)
   rcases L2.keyIs_shape hkey with⟨i,t,_,e2⟩|⟨x,t,_,e2⟩<;>rw[e2]
  ·exact key
 ·exact key
end
end PySem
namespace PySem
open Sem (wp)
theorem dictDisplay_star (m k v:Sem Value):dictDisplay [(none,m),(some k,v)]=(do
 let d←alloc {cls:= .type "dict",data:= .dict #[]}
 let x←holding [.ref d] m
 (((holding [.ref d,x] (mergeMapping d x false)).onRaise fun e=>do let _←holding [.ref d,x,e] (runValue (.builtin "proto.let_go" {}))).tryCatch fun e=>do
        if←isInstance e (.type "AttributeError") then
         rule "dict.display.not-a-mapping";raiseError "TypeError" s!"'{← typeNameOf x}' object is not a mapping"
        throw e).onRaise fun e=>do let _←holding [.ref d,e] (runValue (.builtin "proto.let_go" {}))
 let sub←holding [.ref d] (subDict [(k,v)])
 (holding [.ref d,.ref sub] (mergeMapping d (.ref sub) false)).onRaise fun e=>do let _←holding [.ref d,e] (runValue (.builtin "proto.let_go" {}))
 pure (.ref d)):=by
 unfold dictDisplay
 simp only[List.forIn_cons,List.forIn_nil,List.isEmpty_nil,if_true,pure_bind,bind_assoc,List.nil_append,z27,List.length_nil]
 simp only[show((0+1:Nat)==17)=false from rfl,Bool.false_eq_true,if_false,pure_bind,List.isEmpty_cons,bind_assoc]
end PySem
namespace L2
open PySem PySem.Spec PyProof.Rows
section
variable {X:Cx} {pins:List (Addr × Obj)} {σ:St} {H:Hp} {s:Shared} {A:Around} {E:Value→Shared→Prop}
theorem d_merge {Q:Unit→Shared→Prop} {D a:Addr} {kvs more:List (Key × V)} (I:Inv X pins σ H s) (hD:H D=some (.dK kvs)) (ha:H a=some (.dK more)) (hne:D≠a) (hz:kvs.length+more.length≤sizeLine)
 (h:∀s',Inv X pins σ (upd H D (.dK (mergeK kvs more))) s'→Q () s'):wpAny (model X.prog X.w) A (mergeMapping D (.ref a) false) Q E s:=by
 obtain⟨z,hd,vs,rel,dd⟩:=dk_of I.hok hD
 obtain⟨z2,hd2,vs2,rel2,dd2⟩:=dk_of I.hok ha
 have hzv:vs.length+vs2.length≤sizeLine:=by rw[←rel.length,←rel2.length];exact hz
 have hl:(mergeK kvs more).length≤sizeLine:=by have:=length_mergeK more kvs;omega
 refine wpAny_mergeMapping (hsz:=hzv) hne hd2 dd dd2 fun h' dd' hs=>h _ ?_
 have he:∃q,h'.get? D=some q:=let⟨q,_,_,hq,_⟩:=dd';⟨q,hq⟩
 exact d_write I (by rw[hD];exact True.intro) hs he (dk_new hl hd (rel2.merge rel) dd')
end
def tDMrg (tm tk tv:TE):TE:=fun σ H Q=>∀D,H D=none→tm σ (upd H D (.dK [])) fun x H1=>∃a more,x= .ref a∧D≠a∧H1 a=some (.dK more)∧H1 D=some (.dK [])∧more.length<sizeLine∧
 ∀S,S≠D→upd H1 D (.dK (mergeK [] more)) S=none→tk σ (upd (upd H1 D (.dK (mergeK [] more))) S (.dK [])) fun y H2=>tv σ H2 fun z H3=>∃k,y=kV k∧H3 D=some (.dK (mergeK [] more))∧H3 S=some (.dK [])∧
  Q (.ref D) (upd (upd H3 S (.dK [(k,z)])) D (.dK (putK (mergeK [] more) k z)))
theorem pe_dmrg {X:Cx} {pos:Pos} {mx kx vx:Expr} {tm tk tv:TE} (hm:PE X mx tm) (hk:PE X kx tk) (hv:PE X vx tv):PE X (.Dict [none,some kx] [mx,vx] pos) (tDMrg tm tk tv):=by
 refine⟨fun pins s σ H Q I q=> ?_⟩
 rw[arm_eval_Dict]
 refine wpAny_bind (wpAny_standAt ?_)
 show wpAny _ _ (dictDisplay [(none,do let x←eval mx X.env;standAt pos;pure x),(some (eval kx X.env),do let x←eval vx X.env;standAt pos;pure x)]) _ _ _
 rw[dictDisplay_star]
 refine wpAny_bind (wpAny_alloc ?_)
 have hn:=I.hok.fresh (z34 s.heap.objs.size)
 have I1:=I.laid (a:=s.heap.objs.size) (o:= .dK []) (h':=s.heap.push {cls:= .type "dict",data:= .dict #[]}) (t':=s.toks) (fun _ _ q=>z21 _ q) (z34 _) (dk_empty s.heap I.big)
 generalize hD:s.heap.objs.size=D at hn I1 q⊢
 refine wpAny_bind (wpAny_holding (wpAny_bind (thn (hm.run pins _ σ _ _ I1 (q D hn)) fun w1 s1 h1=> ?_)))
 obtain⟨x,H1,I1',r1,a,more,ex,hne,ha,hD1,hz,q1⟩:=h1
 subst ex
 cases(show w1=Value.ref a from r1)
 refine wpAny_bind (wpAny_standAt (wpAny_pure ?_))
 refine wpAny_bind (wpAny_onRaise (wpAny_tryCatch (wpAny_onRaise (wpAny_holding (d_merge I1' hD1 ha hne (by rw[List.length_nil];omega) fun s2 I2=> ?_)))))
 have hn2:=I2.hok.fresh (z34 s2.heap.objs.size)
 have hSD:s2.heap.objs.size≠D:=fun e=>by rw[e,upd_same] at hn2;cases hn2
 have I3:=I2.laid (a:=s2.heap.objs.size) (o:= .dK []) (h':=s2.heap.push {cls:= .type "dict",data:= .dict #[]}) (t':=s2.toks) (fun _ _ q=>z21 _ q) (z34 _) (dk_empty s2.heap I2.big)
 generalize hS:s2.heap.objs.size=S at hn2 hSD I3
 refine wpAny_bind (wpAny_holding (wpAny_subDict (knd:=mixKind X.prog X.w) (by show 1≤15;decide) ?_))
 rw[hS]
 refine thn ((pps_cons hk hv pps_nil).run (pos:=pos) pins _ σ _ (fun ps H3=>match ps with
  |[(y,z)]=>∃k,y=kV k∧H3 D=some (.dK (mergeK [] more))∧H3 S=some (.dK [])∧Q (.ref D) (upd (upd H3 S (.dK [(k,z)])) D (.dK (putK (mergeK [] more) k z)))
  |_=>False) I3 (q1 S hSD hn2)) fun ws s3 h3=> ?_
 obtain⟨ps,H3,I4,rel,q3⟩:=h3
 match ps,rel,q3 with
 |[(y,z)],rel,⟨k,ey,hD3,hS3,q4⟩=>
  subst ey
  obtain⟨rs,c,rk⟩:=carries_of (P:=X.prog) (w:=X.w) (kvs:= [(k,z)]) rel
  obtain⟨z0,hd0,vs0,r0,dd⟩:=dk_of I4.hok hS3
  cases r0
  refine⟨rs,c,dd,fun h' dd' hs=> ?_⟩
  have hz1:(mergeK [] [(k,z)]).length≤sizeLine:=by
    have h1:=length_mergeK [(k,z)] []
    rw[List.length_nil,z27,List.length_nil] at h1
    rw[sizeLine_eq];omega
  have he:∃q,h'.get? S=some q:=let⟨q,_,_,hq,_⟩:=dd';⟨q,hq⟩
  have I5:=d_write (t':=s3.toks+ws.length) I4 (by rw[hS3];exact True.intro) hs he (dk_new hz1 hd0 (rk.merge .nil) dd')
  have hm1:mergeK [] [(k,z)]= [(k,z)]:=rfl
  rw[hm1] at I5
  have hml:(mergeK [] more).length≤more.length:=by have:=length_mergeK more [];rw[List.length_nil] at this;omega
  refine wpAny_bind (wpAny_onRaise (wpAny_holding (d_merge I5 (by rw[upd_ne (Ne.symm hSD)];exact hD3) upd_same (Ne.symm hSD) (by rw[z27,List.length_nil];omega) fun s6 I6=> ?_)))
  exact wpAny_pure ⟨.ref D,_,I6,rfl,q4⟩
end L2
namespace Eb
open PySem PySem.Spec PyProof.Rows L2
section
variable {P:Program} {w:World} {K:Kf} {mg:Str→Option Value} {base:Heap} {k:Nat} {params:Arguments} {body:List Stmt} {scope:Scope} {fd:FuncData} {ps:List Str} {sp:Sp}
theorem ome_tw {x y m qual:Str} (F:FunD K m qual params body scope [] [] (He.fAd K (y,some m)) fd) (c:Cls K (He.ga K x)) (me:Meth K (He.ga K x) m (He.ma K (He.ga K y) m))
 (ok:FnOk P w K mg base (L2.CX P w) k (He.fAd K (y,some m)) fd ps sp) (hb:∀(kV doc pm:Value) (an:Option Addr) (cdv ct:Value) (us:List Value),us.length=ps.length→bindArgs (PySem.W.fnOf m qual params body scope .none kV doc pm an cdv ct) ⟨us,[]⟩=pure (ps.zip us)):
 OMe P w K mg base x m k ps sp:=⟨c,_,fd,me,ok,F.bindsN hb⟩
theorem om_su {x b qual:Str} {st:Stmt} (F:SuFn P K (He.ga K x) (He.fAd K (x,some "__init__")) (He.fAd K (b,some "__init__")) qual st fd) (c:Cls K (He.ga K x)) (m:L2.Mk K (He.ga K x) (He.ma K (He.ga K x) "__init__")) (g:mg x=some (.ref (He.ga K x)))
 (ok:FnOk P w K mg base (L2.CX P w) k (He.fAd K (x,some "__init__")) fd ps sp)
 (hb:∀(kV doc pm:Value) (an:Option Addr) (cda:Addr) (ct:Value) (cc:Addr) (us:List Value),us.length=ps.length→bindArgs (PySem.W.ksFn "__init__" qual (defArgs st) (defBody st) (defScope st) .none kV doc pm an (.ref cda) ct cc) ⟨us,[]⟩=pure (ps.zip us)):
 OM P w K mg base x k ps sp:=by
 obtain⟨oc,od,kV,doc,pm,an,cda,ct,cc,osl,rfl,_⟩:=F.ex
 exact⟨c,_,_,m,ok,g,.all (hb kV doc pm an cda ct cc)⟩
end
end Eb
namespace Eb
open PySem PySem.Spec PyProof.Rows L2 LamX
def LamO (q:Str) (params:Arguments) (body:Expr) (scope:Scope) (clo:List (Str × Addr)) (f c':Addr):HO:= .ext fun h=>∃(pm ctv:Value),h.get? f=some (PySem.W.kla_obj "<lambda>" q params body scope clo pm c' ctv)
section
variable {X:Cx} {pins:List (Addr × Obj)} {σ:L2.St} {H:Hp} {s:Shared}
theorem inv_lam {q:Str} {params:Arguments} {body:Expr} {scope:Scope} {clo:List (Str × Addr)} {c':Addr} {pm ctv:Value} {h':Heap} {t' t2:Nat} (I:Inv X pins σ H {s with heap:=h',toks:=t'}):
 Inv X pins σ (upd H h'.objs.size (LamO q params body scope clo h'.objs.size c')) {s with heap:=h'.push (PySem.W.kla_obj "<lambda>" q params body scope clo pm c' ctv),toks:=t2}:=
 I.laid (a:=h'.objs.size) (t':=t2) (fun b u e=>z21 _ e) (z34 _) ⟨⟨pm,ctv,Heap.get?_push_size _ rfl⟩,⟨_,Heap.get?_push_size _ rfl⟩,fun h1 h2 ⟨pm,ctv,a⟩ st=>⟨pm,ctv,st _ a⟩⟩
theorem lam_keep {T:List (Addr × Str)} {c P:Addr} {params:Arguments} {body:Expr} {scope:Scope} {pos:Pos} {E:Value→Shared→Prop} {Q:Value→Shared→Prop} (I:Inv X pins σ H s) (TB:TabB X.base X.mg c P) (hcode:X.env.code= .ref c)
 (hm:(P,X.env.qual++ "<lambda>")∈T) (hu:∀p∈T,p.1=P→p.2=X.env.qual++ "<lambda>") (hT:Tabs T H) (hdef:defaultsOf params X.env=([],[])) (hfree:∀y∈scope.names,y.2= .free→∃c,X.env.cells.lookup y.1=some c)
 (h:∀(f c':Addr) (H1:Hp) (s':Shared),Inv X pins σ H1 s'→ExtN H H1→Tabs T H1→H f=none→H1 f=some (LamO (X.env.qual++ "<lambda>") params body scope (cloFrom X.env.cells scope.names []) f c')→H1 c'=some (CodeO c' (X.env.qual++ "<lambda>"))→Q (.ref f) s'):
 wpAny (model X.prog X.w) X.A (eval (.Lambda params body scope pos) X.env) Q E s:=by
 obtain⟨ps,hP,ht,ha⟩:=hT _ hm
 refine PySem.W.kla_eval hdef ?_
 have bP:s.heap.BuiltinsAt X.mg P:=TB.bm.keeps I.bk
 have hP':s.heap.get? P=some {cls:= .none,data:= .fields ps}:=I.hok P _ hP
 cases hc:codeAmong pos ps.toList with
 |none=>
  refine PySem.W.kla_makeFunction (mg:=X.mg) (c:=c) (P:=P) (ps:=ps) (closure_ok hfree) I.ok.glob (I.mod.glob.keeps I.bk) hcode (TB.code.keeps I.bk) hP' ht hc TB.gP bP fun c' ctv h' tk hx hge hlt hrec htb=> ?_
  obtain⟨c2,oc,vs,t,e2,hoc,hd,hv⟩:=hrec
  cases e2
  have hsz:s.heap.objs.size≤h'.objs.size:=Nat.le_trans hge (Nat.le_of_lt hlt)
  have nC:H c'=none:=I.hok.fresh hge
  have I1:=inv_table (t':=tk) (more:= #[rawInt pos.line,rawInt pos.col,.ref c']) (h':=h') I hP hx htb hge ⟨oc,vs,t,hoc,hd,hv⟩
  have hE:ExtN H (upd (upd H P (.tbl (ps++ #[rawInt pos.line,rawInt pos.col,.ref c']))) c' (CodeO c' (X.env.qual++ "<lambda>"))):=fun b o e n=>by
   rw[upd_ne (ne_of_none e nC),upd_ne (fun z=>n ps (z33 (e.symm.trans (by rw[z];exact hP))))]
   exact e
  have nf:H h'.objs.size=none:=I.hok.fresh hsz
  have nf1:upd (upd H P (.tbl (ps++ #[rawInt pos.line,rawInt pos.col,.ref c']))) c' (CodeO c' (X.env.qual++ "<lambda>")) h'.objs.size=none:=by
   have n1:h'.objs.size≠c':=Nat.ne_of_gt hlt
   have n2:h'.objs.size≠P:=Nat.ne_of_gt (z24 (Heap.lt_size hP') hsz)
   rw[upd_ne n1,upd_ne n2]
   exact nf
  have eL:(ps++ #[rawInt pos.line,rawInt pos.col,.ref c']).toList=ps.toList++ [rawInt pos.line,rawInt pos.col,.ref c']:=by simp
  have T1:Tabs T (upd (upd H P (.tbl (ps++ #[rawInt pos.line,rawInt pos.col,.ref c']))) c' (CodeO c' (X.env.qual++ "<lambda>"))):=fun p hp=>by
   by_cases hb:p.1=P
   ·rw[hu p hp hb,hb]
    refine⟨_,by rw[upd_ne (ne_of_none hP nC),upd_same],by rw[eL];exact PySem.TriplesOk_snoc _ _ _ _ ht,fun p' cv hcv=> ?_⟩
    rw[eL] at hcv
    rcases among_app _ ht hcv with z|z
    ·obtain⟨c0,e1,e2⟩:=ha p' cv z
     exact⟨c0,e1,hE _ _ e2 codeO_ne⟩
    ·exact⟨c',z,upd_same⟩
   ·obtain⟨ps',a1,a2,a3⟩:=hT p hp
    refine⟨ps',by rw[upd_ne (ne_of_none a1 nC),upd_ne hb];exact a1,a2,fun p' cv hcv=> ?_⟩
    obtain⟨c0,e1,e2⟩:=a3 p' cv hcv
    exact⟨c0,e1,hE _ _ e2 codeO_ne⟩
  have e2:=Ext.new (o:=LamO (X.env.qual++ "<lambda>") params body scope (cloFrom X.env.cells scope.names []) h'.objs.size c') nf1
  exact h h'.objs.size c' _ _ (inv_lam I1) (hE.trans (ExtN.of e2)) (T1.ext e2) nf upd_same (e2 _ _ upd_same)
 |some cv=>
  obtain⟨c',e,hco⟩:=ha pos cv hc
  subst e
  refine PySem.W.kla_makeFunctionHit (mg:=X.mg) (c:=c) (P:=P) (ps:=ps) (closure_ok hfree) I.ok.glob (I.mod.glob.keeps I.bk) hcode (TB.code.keeps I.bk) hP' ht hc bP fun ctv h' tk hx hsz=> ?_
  have I1:Inv X pins σ H {s with heap:=h',toks:=tk}:=I.kept hx
  have nf:H h'.objs.size=none:=I.hok.fresh hsz
  have e2:=Ext.new (o:=LamO (X.env.qual++ "<lambda>") params body scope (cloFrom X.env.cells scope.names []) h'.objs.size c') nf
  exact h h'.objs.size c' _ _ (inv_lam I1) (ExtN.of e2) (hT.ext e2) nf upd_same (e2 _ _ hco)
def yKeep (T:List (Addr × Str)) (q:Str) (lo:Nat→Addr→Addr→HO) (j:Nat):TE:=fun σ H Q=>Tabs T H∧∀(f c':Addr) (H1:Hp),ExtN H H1→Tabs T H1→H f=none→H1 f=some (lo j f c')→H1 c'=some (CodeO c' q)→Q (.ref f) H1
theorem ye_keep {T:List (Addr × Str)} {c P:Addr} {params:Arguments} {body:Expr} {scope:Scope} {pos:Pos} {q:Str} {lo:Nat→Addr→Addr→HO} {j:Nat} (TB:TabB X.base X.mg c P) (hcode:X.env.code= .ref c) (hq:q=X.env.qual++ "<lambda>")
 (hm:(P,X.env.qual++ "<lambda>")∈T) (hu:∀p∈T,p.1=P→p.2=X.env.qual++ "<lambda>") (L:LamS X.env.scope scope) (hdef:defaultsOf params X.env=([],[]))
 (hlo:∀f c',lo j f c'=LamO (X.env.qual++ "<lambda>") params body scope (cloFrom X.env.cells scope.names []) f c'):PE X (.Lambda params body scope pos) (yKeep T q lo j):=by
 refine⟨fun pins s σ H Q I h=> ?_⟩
 obtain⟨hT,h⟩:=h
 subst hq
 exact lam_keep I TB hcode hm hu hT hdef (L.has I.ok) fun f c' H1 s' I1 e1 T1 nf hf hc=>⟨.ref f,H1,I1,rfl,h f c' H1 e1 T1 nf (by rw[hlo];exact hf) hc⟩
theorem lam_startS {A:Around} {outer:List Env} {E:XK} {scope:Scope} {f c':Addr} {h₁:Heap} {tk:Nat} {HZ:Hp} {s1:Shared} (I:Inv X pins σ H s) (L:LamS X.env.scope scope) (e0:Env0 X.prog X.w X.K X.mg X.base A outer s1 HZ) (hd:A.handled=none)
 (hcell:∀x c,X.env.cells.lookup x=some c→HZ c=none∧∀v,s.heap.IsCell c v→s1.heap.IsCell c v) (hns:h₁.Ns s1.heap.objs.size fun y=>([]:List (Str × Value)).reverse.lookup y) (kp:∀b o,s1.heap.get? b=some o→h₁.get? b=some o):
 Inv (lamCx X A outer s1 HZ E scope f c') [] σ HZ {s1 with heap:=h₁,toks:=tk}:=by
 have hfree:=L.has I.ok
 have cm:∀{y c},(cloFrom X.env.cells scope.names []).lookup y=some c→X.env.cells.lookup y=some c:=fun{y c} e=>by
  rcases cloFrom_mem (PySem.mem_of_lookup e) with hm|⟨h1,h2⟩
  ·cases hm
  ·obtain⟨c1,hc⟩:=hfree _ h1 rfl
   have hc:X.env.cells.lookup y=some c1:=hc
   have e2:c=c1:=by
        rw[h2,hc]<;>rfl
   rw[e2]
   exact hc
 have look:∀{y},scope.names.lookup y=some .free→∃c,(cloFrom X.env.cells scope.names []).lookup y=some c:=fun{y} hl=>by
  have hy:(y,NameKind.free)∈scope.names:=PySem.mem_of_lookup hl
  exact mem_lookup (cloFrom_has (cells:=X.env.cells) (acc:= []) hy)
 have cellK:∀{x:Str} {c:Addr} {v:Option Value},X.env.cells.lookup x=some c→s.heap.IsCell c v→h₁.IsCell c v:=fun{x c v} e z=>by
  obtain⟨o,ho,hd⟩:=(hcell x c e).2 v z
  exact⟨_,kp _ _ ho,hd⟩
 have noA:∀b:Addr,b∉ (lamCx X A outer s1 HZ E scope f c').ex:=fun b z=>absurd (show b∈([]:List Addr) from z) (by simp)
 refine⟨⟨e0.mod,L.kind,rfl,rfl,z34 _,fun y z c e1 e2=>I.ok.inj y z c (cm e1) (cm e2),fun y hy=> ?_,fun y c z _=> ?_,fun _=>hd,Around.frames_deeper e0.frames,.inr ⟨rfl,rfl⟩,fun b z=>absurd z (noA b),e0.bs,e0.bsz,fun b _ _=>noA b,
  fun b z=>absurd z (noA b),e0.funs,e0.frf⟩,
  rfl,e0.bare,Un.kept kp,⟨_,hns,fun i y v e1 e2 e3=> ?_⟩,fun y c e=> ?_,e0.hok.fresh (z34 _),fun y c e=> ?_,fun q hq=>absurd (show q∈([]:List (Addr × Obj))++ [] from hq) (by simp),e0.hok.kept kp,I.len⟩
 ·have hy:scope.names.lookup y=some .cell∨scope.names.lookup y=some .free:=hy
  rcases hy with hy|hy
  ·exact absurd rfl (L.own _ (PySem.mem_of_lookup hy)).2
  ·exact look hy
 ·have z:false=true:=z
  cases z
 ·have e3:Vis scope y:=e3
  rcases e3 with k|k|k
  ·exact absurd rfl (L.own _ (PySem.mem_of_lookup k)).1
  ·exact absurd rfl (L.own _ (PySem.mem_of_lookup k)).2
  ·obtain⟨m,hn,hl⟩:=I.loc
   have hvis:Vis X.env.scope y:=(L.free _ (PySem.mem_of_lookup k) rfl).elim (fun k=> .inr (.inl k)) (fun k=> .inr (.inr k))
   obtain⟨w',r,q⟩:=hl i y v e1 e2 hvis
   obtain⟨c2,h2⟩:=look k
   refine⟨w',r,.inr ⟨.inr k,c2,h2,?_⟩⟩
   have c1:=cm h2
   rcases q with⟨k',_⟩|⟨_,c3,e',z⟩
   ·have k':X.env.scope.names.lookup y=some .local:=k'
    rcases L.free _ (PySem.mem_of_lookup k) rfl with k2|k2<;>rw[show X.env.scope.names.lookup y=_ from k2] at k'<;>cases k'
   ·rw[c1] at e'
    cases e'
    exact cellK c1 z
 ·obtain⟨w',z⟩:=I.cell y c (cm e)
  exact⟨w',cellK (cm e) z⟩
 ·exact(hcell y c (cm e)).1
theorem pe_actS {CXg:CXT} {Eg:XK} {Ng:List Str} {qg:Str} {sg:Scope} {g f c':Addr} {cdg:Value} {params:Arguments} {body:Expr} {scope:Scope} {k i:Nat} {a:Str} {pn:List (Addr × Obj)} {xe:Value→Shared→Prop} {W:WX} {E:XK} {tb:TE} {p1 p2:Pos} {sB:Shared} {HB:Hp}
 (I:Inv X pins σ H s) (L:LamS X.env.scope scope) (hcB:∀x c,X.env.cells.lookup x=some c→HB c=none∧∀v,s.heap.IsCell c v→sB.heap.IsCell c v)
 (hbind:∀(pm ctv:Value),bindArgs (PySem.W.kla_fn "<lambda>" (X.env.qual++ "<lambda>") params body scope (cloFrom X.env.cells scope.names []) pm (.ref c') ctv) ⟨[],[]⟩=pure [])
 (tk:Takes ((cxOf CXg X.prog X.w X.K X.mg X.base Ng qg sg g cdg X.A X.stack sB HB Eg).tr pn xe) W) (hW:∀cls d σ' H',E cls d H'→W cls d σ' H') (hr:Room (k+1) (X.A.deeper (envOfC qg sg sB.heap.objs.size g cdg)))
 (hbody:∀(A:Around) (outer:List Env) (s:Shared) (H:Hp),Room k (A.deeper (lamEnv X scope s.heap.objs.size f c'))→PE (lamCx X A outer s H E scope f c') body tb)
 (hN:Ng[i]?=some a) (hv:Vis sg a) (hd:(a==("__debug__":Str))=false:=by decide) (hcd:(a==("__classdict__":Str))=false:=by decide):
 PE ((cxOf CXg X.prog X.w X.K X.mg X.base Ng qg sg g cdg X.A X.stack sB HB Eg).tr pn xe) (.Call (.Name a p1) [] [] p2)
  (fun σZ HZ Q=>σZ[i]?=some (some (.ref f))∧HZ c'=some (CodeO c' (X.env.qual++ "<lambda>"))∧HZ f=some (LamO (X.env.qual++ "<lambda>") params body scope (cloFrom X.env.cells scope.names []) f c')∧tb σ HZ Q):=by
 refine⟨fun pinsZ sZ σZ HZ Q IZ h=> ?_⟩
 obtain⟨hs,hc,hf,ht⟩:=h
 refine wpAny_Call_Name_kw (thn ((pe_var (pos:=p1) (i:=i) hN hv hd hcd).run pinsZ sZ σZ HZ (fun v H1=>v= .ref f∧H1=HZ) IZ ⟨.ref f,hs,rfl,rfl⟩) fun u s1 ⟨v,H1,I1,r1,q1⟩=> ?_)
 obtain⟨ev,eH⟩:=q1
 subst ev
 rw[eH] at I1
 obtain rfl:u=Value.ref f:=r1
 obtain⟨⟨pm,ctv,of1⟩,_,_⟩:=I1.hok f _ hf
 refine PySem.W.callWith_F0 ⟨_,_,_,_,of1⟩ ?_
 have un:Un (frs X.stack) [] HB HZ sB.heap s1.heap:=I1.base
 obtain⟨⟨oc,vs,t,hoc,hdc,hvc⟩,_,_⟩:=I1.hok c' _ hc
 have hcell:∀x c,X.env.cells.lookup x=some c→HZ c=none∧∀v,s.heap.IsCell c v→s1.heap.IsCell c v:=fun x c e=>by
  obtain⟨z1,z2⟩:=hcB x c e
  refine⟨?_,fun v hv=> ?_⟩
  ·obtain⟨v,hv⟩:=I.cell x c e
   obtain⟨o,ho,_⟩:=z2 v hv
   exact un.free c o ho z1 (by simp)
  ·obtain⟨o,ho,hd⟩:=z2 v hv
   obtain⟨sl,q⟩:=un.any ho z1 (by simp)
   exact⟨_,q,hd⟩
 have rc:codeAny (model X.prog X.w) (X.A.deeper (envOfC qg sg sB.heap.objs.size g cdg)) (.call (.ref f) ⟨[],[]⟩) (CR (L2.CX X.prog X.w) (envOfC qg sg sB.heap.objs.size g cdg::X.stack) X.prog X.w HZ s1 Q E) s1:=by
  refine PySem.W.kla_callFunE hr.depth of1 rfl L.co L.gen rfl ⟨c',oc,vs,t,rfl,hoc,hdc,hvc⟩ ?_
  rw[hbind]
  refine wpAny_pure (wpAny_newFunctionEnv (fun y hy=>(L.own y hy).2) (fun y hy=>absurd hy (by simp)) (fun h₁ hns hsb=>⟨I1.nolimit.fresh _ hsb,?_⟩) L.kind)
  show codeAny _ _ (.expr body (lamEnv X scope s1.heap.objs.size f c')) _ _
  have kp:∀b o,s1.heap.get? b=some o→h₁.get? b=some o:=fun b o e=>hsb.extBut b o (Nat.ne_of_lt (Heap.lt_size e)) (z21 _ e)
  have J:Inv (lamCx X (X.A.deeper (envOfC qg sg sB.heap.objs.size g cdg)) (envOfC qg sg sB.heap.objs.size g cdg::X.stack) s1 HZ E scope f c') [] σ HZ {s1 with heap:=h₁,toks:=s1.toks+([]:List (Str × Value)).length}:=
   lam_startS I L I1.env0 hr.hd hcell hns kp
  refine PySem.W.kla_codeExpr (wpAny_mono ((hbody _ _ s1 HZ (hr.deeper _)).run [] _ _ HZ Q J ht) (fun v s' hq=> ?_) fun e s' hq=>hq)
  obtain⟨w',H',J',rv,q⟩:=hq
  exact⟨w',H',J'.os,J'.bare,J'.base,J'.hok,rv,q⟩
 have hx:Passes (L2.CX X.prog X.w) ((cxOf CXg X.prog X.w X.K X.mg X.base Ng qg sg g cdg X.A X.stack sB HB Eg).tr pn xe) E:=passes_call tk hW
 refine wpAny_call (codeAny_mono rc fun r s' hq=> ?_)
 cases r with
 |error e=>exact hx pinsZ σZ HZ s1 e s' I1 hq
 |ok fl=>
  cases fl with
  |ret u=>exact I1.after hq
  |next=>exact False.elim hq
  |brk=>exact False.elim hq
  |cont=>exact False.elim hq
structure LamR where
 params:Arguments
 body:Expr
 scope:Scope
 t:XK→TE
def loOf (X:Cx) (L:List LamR):Nat→Addr→Addr→HO:=fun j f c'=>match L[j]? with
 |some r=>LamO (X.env.qual++ "<lambda>") r.params r.body r.scope (cloFrom X.env.cells r.scope.names []) f c'
 |none=> .ext fun _=>False
def yHand (q:Str) (lo:Nat→Addr→Addr→HO) (TT:LTT) (ts:List (XK→TE)) (ta:TE) (σ0:L2.St):TE:=fun σ H Q=>ta σ H fun v H1=>∃(j:Nat) (f c':Addr) (t:XK→TE),ts[j]?=some t∧v= .ref f∧H1 f=some (lo j f c')∧H1 c'=some (CodeO c' q)∧TT (fun E H' Q'=>H' f=some (lo j f c')∧t E σ0 H' Q') H1 Q
theorem ye_hand {X:Cx} {TT:LTT} {x a:Str} {k:Nat} {LS:List LamR} {pins0:List (Addr × Obj)} {σ0:L2.St} {H0:Hp} {s0:Shared} {bsc:Scope} {cl:List (Str × Addr)} {C:Addr} {fp:List Addr} {e:Expr} {ta:TE} {p pos:Pos} {q:Str}
 (G:Giv (X.blk s0 H0 bsc (compEnvC bsc cl C X.env) fp) x a TT) (hg:Gl (X.blk s0 H0 bsc (compEnvC bsc cl C X.env) fp) x) (I0:Inv X pins0 σ0 H0 s0) (hfp:∀b∈fp,FpOk X pins0 H0 b) (hr:Room (k+2) X.A) (hq:q=X.env.qual++ "<lambda>")
 (hL:∀r∈LS,LamS X.env.scope r.scope∧(∀(q:Str) (cl:List (Str × Addr)) (pm cv ctv:Value),bindArgs (PySem.W.kla_fn "<lambda>" q r.params r.body r.scope cl pm cv ctv) ⟨[],[]⟩=pure [])∧
  ∀(A:Around) (outer:List Env) (s:Shared) (H:Hp) (E:XK) (f c':Addr),Room k (A.deeper (lamEnv X r.scope s.heap.objs.size f c'))→PE (lamCx X A outer s H E r.scope f c') r.body (r.t E))
 (he:PE (X.blk s0 H0 bsc (compEnvC bsc cl C X.env) fp) e ta) (hst:starEach [e] (compEnvC bsc cl C X.env)=(false,eval e (compEnvC bsc cl C X.env))::starEach [] (compEnvC bsc cl C X.env):=by rfl)
 (hdb:(x==("__debug__":Str))=false:=by decide) (hd:(a==("__debug__":Str))=false:=by decide) (hcd:(a==("__classdict__":Str))=false:=by decide):
 PE (X.blk s0 H0 bsc (compEnvC bsc cl C X.env) fp) (.Call (.Name x p) [e] [] pos) (yHand q (loOf X LS) TT (LS.map (·.t)) ta σ0):=by
 obtain⟨g,pg,bg,sg,dV,kV,doc,pm,cdv,ct,oc,an,od,osl,Ng,hm,hk,lk,hcg,hb,Sg,hNg,hva,hG⟩:=G.ex
 subst hq
 refine⟨fun pins s σ H Q I h=> ?_⟩
 refine wpAny_Call_Name_kw (ld_glob I hg hm ?_ hdb)
 refine PySem.W.callWith_K (h₀:=X.base) I.ok.mod.kin hk ?_ hst (by rfl)
 show wpAny _ _ (spliced (backTo pos (starEach [e] (compEnvC bsc cl C X.env)))) _ _ s
 rw[hst]
 show wpAny _ _ (spliced ((false,eval e (compEnvC bsc cl C X.env))::backTo pos (starEach [] (compEnvC bsc cl C X.env)))) _ _ s
 refine Calls.spliced_cons (thn (he.run pins s σ H _ I h) fun u s1 ⟨v,H1,I1,r1,j,f,c',t,ht,ev,hf,hc,hTT⟩=> ?_)
 subst ev
 obtain rfl:u=Value.ref f:=r1
 refine Calls.spliced_nil ⟨I1.kIn,?_⟩
 rw[z10] at ht
 obtain⟨r,hr1,hr2⟩:=z30.mp ht
 subst hr2
 obtain⟨L,hbind,hbody⟩:=hL r (z11 hr1)
 have elo:loOf X LS j f c'=LamO (X.env.qual++ "<lambda>") r.params r.body r.scope (cloFrom X.env.cells r.scope.names []) f c':=by
  unfold loOf
  rw[hr1]
 have un:=I1.base
 have hcB:∀x c,X.env.cells.lookup x=some c→H1 c=none∧∀v,s0.heap.IsCell c v→s1.heap.IsCell c v:=fun x c e=>by
  have nfp:c∉fp:=fun z=>(hfp c z).2.2.2.2.1 x c e rfl
  have n0:=I0.freeC x c e
  refine⟨?_,fun v hv=> ?_⟩
  ·obtain⟨v,o,ho,_⟩:=I0.cell x c e
   exact un.free c o ho n0 nfp
  ·obtain⟨o,ho,hd⟩:=hv
   obtain⟨sl,q⟩:=un.any ho n0 nfp
   exact⟨_,q,hd⟩
 have rc:codeAny (model X.prog X.w) X.A (.call (.ref g) ⟨[.ref f],[]⟩) (CR C8.CX0 X.stack X.prog X.w H1 s1 Q C8.E0) s1:=by
  refine run_ofS (N:=Ng) (ps:= [a]) (us:= [.ref f]) (vs:= [.ref f]) lk hcg Sg hr I1.env0 (hb s1 [.ref f] I1.kIn rfl) (.cons rfl .nil) rfl fun hr'=> ?_
  obtain⟨t',ht',hq'⟩:=hG (X.env.qual++ "<lambda>") f c' s1 H1 Q (fun E H' Q'=>H' f=some (loOf X LS j f c')∧r.t E σ0 H' Q')
   (fun W pn xe E p1 p2 tk hW=>PE.imp (pe_actS (X:=X) (i:=0) I0 L hcB (fun pm ctv=>hbind _ _ _ _ _) tk hW hr' (fun A outer s H hr2=>hbody A outer s H E f c' hr2) hNg hva hd hcd) fun σZ HZ Q' ⟨z1,z2,z3,z4⟩=>⟨z1,z2,by rw[←elo];exact z3,z4⟩) hc hTT
  exact⟨t',ht'.nox,hq'⟩
 refine wpAny_call (codeAny_mono rc fun r s2 hq=> ?_)
 cases r with
 |error e=>exact(show False from hq).elim
 |ok fl=>
  cases fl with
  |ret u=>exact I1.after hq
  |next=>exact False.elim hq
  |brk=>exact False.elim hq
  |cont=>exact False.elim hq
end
end Eb
namespace Eb
open PySem PySem.Spec PyProof.Rows L2
section
variable {X:Cx}
theorem lc_coreS {pins:List (Addr × Obj)} {s:Shared} {σ:L2.St} {H:Hp} {Q:VK} {elt tg iter:Expr} {ifs:List Expr} {scope:Scope} {own:List (Str × Nat)} {pos pos':Pos} {wi:TI} {g:TG} {tt:TT} {te:TE} {use:Option (Value→Sem Unit)} {Qf:Value→Shared→Prop}
 (hc:X.calm=true) (hN:X.N.Nodup) (I:Inv X pins σ H s) (hi:PI X tg iter wi) (ok:BlkOk X.N X.env.scope scope own)
 (hg:∀(s:Shared) (H:Hp) (C:Addr) (cl:List (Str × Addr)) (fp:List Addr),PG (X.blk s H scope (compEnvC scope cl C X.env) fp) tg g) (ht:∀(pins:List (Addr × Obj)) (s:Shared) (H:Hp) (C:Addr) (cl:List (Str × Addr)) (fp:List Addr),Inv X pins σ H s→(∀b∈fp,FpOk X pins H b)→PTs (X.blk s H scope (compEnvC scope cl C X.env) fp) ifs tt)
 (he:∀(s:Shared) (H:Hp) (C:Addr) (cl:List (Str × Addr)) (fp:List Addr),PE (X.blk s H scope (compEnvC scope cl C X.env) fp) elt te) (hs:∀x,foldedSetIterable iter X.env x=pure x)
 (h:tLc wi g tt te (own.map (·.2)) σ H Q)
 (hRR:∀D C s' m H',Inv X pins σ H' s'→Q (.ref D) H'→s'.heap.Ns C m→FpOk X pins H' C→compPost (model X.prog X.w) X.A X.xe use Qf (.ref D) C (.ok .next) s'):
 wpAny (model X.prog X.w) X.A (comprehension (.ListComp elt [⟨tg,iter,ifs,0⟩] scope pos) scope X.env pos' (newList []) false (eval iter X.env) use) Qf X.xe s:=by
 have hfree:∀y∈scope.names,y.2= .free→∃c,X.env.cells.lookup y.1=some c:=fun y hy e=>by
  rcases ok.free y hy e with k|k
  ·exact I.ok.has _ (.inl k)
  ·exact I.ok.has _ (.inr k)
 refine wpAny_comprehension_free (use:=use) rfl hs (closure_ok hfree) ok.kind (fun y hy e=>by rw[ok.uniq y hy,e])
  (thn (hi.run pins s σ H _ I h) fun xv s1 hx=>thn hx fun itv s2 h2=> ?_)
 obtain⟨it,fp,tn,J,H2,e,I2,T,st2,f2,q⟩:=h2
 subst e
 refine wpAny_newObj_type (newEnv_comp ?_) (by show 0≤sizeLine;decide)
 generalize hD:s2.heap.objs.size=D
 have hDn:H2 D=none:=I2.hok.fresh (Nat.le_of_eq hD)
 obtain⟨W,⟨m0,w0⟩,turn⟩:=q D hDn
 generalize hs3:({s2 with heap:=s2.heap.push {cls:= .type "list",data:= .seq ([]:List Value).toArray}}:Shared)=s3
 have I3:Inv X pins σ (upd H2 D (.lst [])) s3:=by
  rw[←hs3]
  refine I2.laid (t':=s2.toks) (fun b o e=>z21 _ e) (Nat.le_of_eq hD) ⟨z35 _,[],0,.nil,?_⟩
  rw[←hD]
  exact Heap.get?_push_size _ rfl
 have h3:s3.heap=s2.heap.push {cls:= .type "list",data:= .seq ([]:List Value).toArray}:=by rw[←hs3]
 have sz:∀b∈fp,b<s2.heap.objs.size:=fun b hb=>by
  obtain⟨o,e,_⟩:=T.obj _ _ st2 b hb
  exact Heap.lt_size e
 have f3:∀b∈fp,FpOk X pins (upd H2 D (.lst [])) b∧b<s3.heap.objs.size:=fun b hb=>by
  have hlt:=sz b hb
  refine⟨⟨?_,(f2 b hb).2⟩,by rw[h3,Heap.size_push];exact Nat.lt_succ_of_lt hlt⟩
  rw[upd_ne (by rw[←hD];exact Nat.ne_of_lt hlt)]
  exact(f2 b hb).1
 have st3:tn 0 s3.heap:=T.keep _ _ _ st2 fun b _ o e=>by rw[h3];exact z21 _ e
 have I4:=block_start I3 ok hN f3
 have pg:=hg s3 (upd H2 D (.lst [])) s3.heap.objs.size (cellsFrom (s3.heap.objs.size+1) scope.names (cloFrom X.env.cells scope.names [])) fp
 have pt:=ht pins s3 (upd H2 D (.lst [])) s3.heap.objs.size (cellsFrom (s3.heap.objs.size+1) scope.names (cloFrom X.env.cells scope.names [])) fp I3 fun b hb=>(f3 b hb).1
 have pe:=he s3 (upd H2 D (.lst [])) s3.heap.objs.size (cellsFrom (s3.heap.objs.size+1) scope.names (cloFrom X.env.cells scope.names [])) fp
 show codeAny _ _ (.compStart (.ListComp elt [⟨tg,iter,ifs,0⟩] scope pos) 0 (.ref it) (.ref D) (compEnvC scope (cellsFrom (s3.heap.objs.size+1) scope.names (cloFrom X.env.cells scope.names [])) s3.heap.objs.size X.env)) (compPost (model X.prog X.w) X.A X.xe use Qf (.ref D) s3.heap.objs.size) {s3 with heap:=pushCells (s3.heap.push {cls:= .type "dict",data:= .dict #[]}) scope.names}
 have nfp:∀b∈fp,(upd H2 D (.lst [])) b=none:=fun b hb=>(f3 b hb).1.1
 generalize hce:compEnvC scope (cellsFrom (s3.heap.objs.size+1) scope.names (cloFrom X.env.cells scope.names [])) s3.heap.objs.size X.env=ce at I4 pg pt pe⊢
 have cL:ce.locals=s3.heap.objs.size:=by subst hce;rfl
 generalize hH3:upd H2 D (.lst [])=H3 at I3 I4 pg pt pe w0 nfp f3
 generalize hs4:({s3 with heap:=pushCells (s3.heap.push {cls:= .type "dict",data:= .dict #[]}) scope.names}:Shared)=s4 at I4⊢
 have st4:tn 0 s4.heap:=T.keep _ _ _ st3 fun b _ o e=>by rw[←hs4];exact pushCells_keeps _ _ _ _ (z21 _ e)
 have stat:∀{σ':L2.St} {H':Hp} {s':Shared},Inv (X.blk s3 H3 scope ce fp) [] σ' H' s'→(∀b∈fp,H' b=none)→∀b∈fp,FpOk (X.blk s3 H3 scope ce fp) [] H' b:=fun{σ' H' s'} I' hn b hb=>
  ⟨hn b hb,(I'.ok.exf b hb).1,I'.ok.exfs b hb,.inl hb,fun x c e=>(I'.ok.exf b hb).2 x c e,fun p hp=>absurd (show p∈([]:List (Addr × Obj))++ [] from hp) (by simp)⟩
 have loop:codeAny (model X.prog X.w) X.A (.compLoop (.ListComp elt [⟨tg,iter,ifs,0⟩] scope pos) 0 (.ref it) (.ref D) ce) (compPost (model X.prog X.w) X.A X.xe use Qf (.ref D) s3.heap.objs.size) s4:=by
  refine compLoop_any (fun n s'=>∃i H',Inv (X.blk s3 H3 scope ce fp) [] (wipe σ (own.map (·.2))) H' s'∧tn i s'.heap∧(∀b∈fp,H' b=none)∧W i n H') ?_ m0 ⟨0,H3,I4,st4,nfp,w0⟩
  rintro n s5 ⟨i,H5,I5,st5,n5,w5⟩
  rcases turn i n H5 w5 with⟨stop,qq⟩|⟨go,Nx,hNx,step⟩
  ·have td:=T.done (X.blk s3 H3 scope ce fp) rfl rfl rfl hc i [] s5 _ H5 (fun _ _=>False) I5 (stat I5 n5) st5 stop
   refine thnF td fun r s6 ⟨hr,I6⟩=> ?_
   subst hr
   have I7:Inv X pins σ H5 s6:=I3.call' (ch:=fp) I6.os I6.base I6.hok I6.bare fun b hb=>⟨(f3 b hb).1.2.2.2.1,(f3 b hb).1.2.1,(f3 b hb).1.2.2.2.2.1,(f3 b hb).1.2.2.2.2.2⟩
   have nC:H5 s3.heap.objs.size=none:=by
        have z:H5 ce.locals=none:=I6.free
        rw[cL] at z
        exact z
   obtain⟨m,hn,_⟩:=I6.loc
   have hn:s6.heap.Ns ce.locals m:=hn
   rw[cL] at hn
   exact hRR D s3.heap.objs.size s6 m H5 I7 qq hn (I3.fpOk (z34 _) nC)
  ·have ti:=T.item (X.blk s3 H3 scope ce fp) rfl rfl rfl hc i [] s5 _ H5 (fun _ _=>False) I5 (stat I5 n5) st5 go
   refine thnF ti fun r s6 ⟨u,hr,h6⟩=> ?_
   subst hr
   refine thnF h6 fun _ s7 ⟨x,H7,I7,r7,y7,st7,n7⟩=> ?_
   have I7':=I7.pinned (stat I7 n7) (T.obj _ _ st7)
   refine thnF (pg.run _ s7 _ H7 x u _ I7' r7 (step x H7 y7)) fun _ s8 ⟨σ8,H8,I8,hw8,q8⟩=> ?_
   refine thnF (pt.run _ s8 σ8 H8 _ I8 q8) fun b s9 ⟨H9,I9,q9⟩=> ?_
   have fin:∀{s':Shared} {H':Hp},Inv (X.blk s3 H3 scope ce fp) ([]++pinsAt fp s7.heap) σ8 H' s'→Nx H'→∃m,m<n∧∃i H',Inv (X.blk s3 H3 scope ce fp) [] (wipe σ (own.map (·.2))) H' s'∧tn i s'.heap∧(∀b∈fp,H' b=none)∧W i m H':=fun{s' H'} I' nx=>by
        obtain⟨m',hm,w'⟩:=hNx H' nx
        have pin':∀b∈fp,∀o,s7.heap.get? b=some o→s'.heap.get? b=some o∧H' b=none:=fun b hb o e=>
         let z:=I'.pin (b,o) (z12 _ (z12 _ (mem_pinsAt hb e)))
         ⟨z.1,z.2.1⟩
        have hl:(wipe σ (own.map (·.2))).length=σ8.length:=by rw[←hw8,wipe_length]
        refine⟨m',hm,i+1,H',(I'.unpinned (pins:= [])).weak hl (fun j v e=> ?_),T.keep _ _ _ st7 fun b hb o e=>(pin' b hb o e).1,fun b hb=> ?_,w'⟩
        ·rw[←hw8] at e
         exact(wipe_some e).1
        ·obtain⟨o,e,_⟩:=T.obj _ _ st7 b hb
         exact(pin' b hb o e).2
   cases b with
   |false=>
    simp only[Bool.false_eq_true,if_false] at q9⊢
    exact fin I9 q9
   |true=>
    simp only[if_true] at q9⊢
    refine thnF (pe.run _ s9 σ8 H9 _ I9 q9) fun z s10 ⟨yv,H10,I10,r10,acc,hD10,hz10,nx⟩=> ?_
    exact app_ok (X:=X.blk s3 H3 scope ce fp) I10 hD10 hz10 r10 fun s11 I11=>fin I11 nx
 exact codeAny_compStart_list loop (T.self X.A 0 _ _ _ st4 loop)
theorem pe_lcS {elt tg iter:Expr} {ifs:List Expr} {scope:Scope} {own:List (Str × Nat)} {pos:Pos} {wi:TI} {g:TG} {tt:L2.St→TT} {te:TE} (hc:X.calm=true) (hN:X.N.Nodup) (hi:PI X tg iter wi) (ok:BlkOk X.N X.env.scope scope own)
 (hg:∀(s:Shared) (H:Hp) (C:Addr) (cl:List (Str × Addr)) (fp:List Addr),PG (X.blk s H scope (compEnvC scope cl C X.env) fp) tg g)
 (ht:∀(σ:L2.St) (pins:List (Addr × Obj)) (s:Shared) (H:Hp) (C:Addr) (cl:List (Str × Addr)) (fp:List Addr),Inv X pins σ H s→(∀b∈fp,FpOk X pins H b)→PTs (X.blk s H scope (compEnvC scope cl C X.env) fp) ifs (tt σ))
 (he:∀(s:Shared) (H:Hp) (C:Addr) (cl:List (Str × Addr)) (fp:List Addr),PE (X.blk s H scope (compEnvC scope cl C X.env) fp) elt te) (hs:∀x,foldedSetIterable iter X.env x=pure x:=by intro _;rfl):
 PE X (.ListComp elt [⟨tg,iter,ifs,0⟩] scope pos) (fun σ H Q=>tLc wi g (tt σ) te (own.map (·.2)) σ H Q):=by
 refine⟨fun pins s σ H Q I h=> ?_⟩
 rw[eval_ListComp]
 refine lc_coreS hc hN I hi ok hg (fun pins s H C cl fp I' f=>ht σ pins s H C cl fp I' f) he hs h fun D C s' m H' I' q hn f=>⟨m,hn,fun h'' sb=> ?_⟩
 obtain⟨f0,f1,f2,f3,f4,f5⟩:=f
 exact⟨.ref D,H',I'.turned (t':=s'.toks) (fun b o hb e=>(sb.2 b hb).trans e) f0 f1 f3 f4 f5,rfl,q⟩
def yLcS (src:Src) (g:TG) (tt:L2.St→TT) (te:TE) (vs:List Nat):TE:=fun σ H Q=>yLc src g (tt σ) te vs σ H Q
theorem ye_lcS {tg iter:Expr} {src:Src} {g:TG} {tt:L2.St→TT} {te:TE} {elt:Expr} {ifs:List Expr} {scope:Scope} {own:List (Str × Nat)} {pos:Pos} (hc:X.calm=true) (hN:X.N.Nodup) (hi:PSrc X tg iter src) (ok:BlkOk X.N X.env.scope scope own)
 (hg:∀(s:Shared) (H:Hp) (C:Addr) (cl:List (Str × Addr)) (fp:List Addr),PG (X.blk s H scope (compEnvC scope cl C X.env) fp) tg g)
 (ht:∀(σ:L2.St) (pins:List (Addr × Obj)) (s:Shared) (H:Hp) (C:Addr) (cl:List (Str × Addr)) (fp:List Addr),Inv X pins σ H s→(∀b∈fp,FpOk X pins H b)→PTs (X.blk s H scope (compEnvC scope cl C X.env) fp) ifs (tt σ))
 (he:∀(s:Shared) (H:Hp) (C:Addr) (cl:List (Str × Addr)) (fp:List Addr),PE (X.blk s H scope (compEnvC scope cl C X.env) fp) elt te) (hs:∀x,foldedSetIterable iter X.env x=pure x:=by intro _;rfl):
 PE X (.ListComp elt [⟨tg,iter,ifs,0⟩] scope pos) (yLcS src g tt te (own.map (·.2))):=by
 obtain⟨wi,h,k⟩:=hi.wi
 refine PE.imp (pe_lcS (tt:=fun σ=>upT (tt σ)) hc hN h ok (fun s H C cl fp=>PG.up (hg s H C cl fp)) (fun σ pins s H C cl fp I f=>PTs.up (ht σ pins s H C cl fp I f)) (fun s H C cl fp=>PE.up (he s H C cl fp)) hs) fun σ H Q q=>k σ H _ _ q fun n G Y H1 hh J w D hD=> ?_
 exact lc_ends w D (hh D hD)
end
def sVal:Stmt→Expr
 | .Assign _ v _=>v
 | .Expr v _=>v
 | .Return (some v) _=>v
 |_=>default
def eArg:Expr→Nat→Expr
 | .Call _ as _ _,k=>as.getD k default
 | .List es _,k=>es.getD k default
 | .Tuple es _ _,k=>es.getD k default
 |_,_=>default
def pOf:Expr→Arguments
 | .Lambda p _ _ _=>p
 |_=>default
def bOf:Expr→Expr
 | .Lambda _ b _ _=>b
 |_=>default
def scOf:Expr→Scope
 | .Lambda _ _ s _=>s
 |_=>default
def lamR (e:Expr) (t:XK→TE):LamR:=⟨pOf e,bOf e,scOf e,t⟩
theorem lc_str {i:Nat} {tl te:TE} {σ:L2.St} {H:Hp} {Q:VK} {z:Str} (fv:Nat→V) (h:∀R,tl σ H R=R (.str z) H) (hl:z.length<sizeLine)
 (hw:∀x,wipe ((wipe σ [i]).set i (some x)) [i]=wipe σ [i])
 (hf:∀D H' c Q',H D=none→Ext H H'→c∈z.cps.toList→Q' (fv c) H'→te ((wipe σ [i]).set i (some (.str ⟨#[c]⟩))) H' Q') (hq:∀D,H D=none→Q (.ref D) (upd H D (.lst (z.cps.toList.map fv)))):yLc (jStr tl) (gName i) tYes te [i] σ H Q:=by
 show tl σ H _
 rw[h]
 refine fun D hD=>⟨fun n acc H'=>acc=(z.cps.toList.take n).map fv∧H'=upd H D (.lst acc),⟨by simp,rfl⟩,fun n acc H' hn ⟨e1,e2⟩=> ?_,fun n x acc H' H2 hn ⟨e1,e2⟩ y=> ?_,fun acc H' ⟨e1,e2⟩=> ?_⟩
 ·subst e1 e2
  refine⟨trivial,upd_same,?_⟩
  have e:z.cps.toList.length=z.length:=by simp[Str.length]
  rw[z8,z22]
  omega
 ·subst e1 e2
  obtain⟨e,c,hc,rfl⟩:=y
  subst e
  have hc':z.cps.toList[n]?=some c:=by rw[Array.getElem?_toList];exact hc
  refine⟨hw _,brT rfl (hf D _ c _ hD (Ext.new hD) (z11 hc') ⟨upd_same,?_,upd_idem⟩)⟩
  have h1:n<z.cps.toList.length:=(List.getElem?_eq_some_iff.mp hc').1
  rw[z9 h1] at hc'
  rw[List.take_succ_eq_append_getElem h1,z16,z33 hc']
  rfl
 ·subst e1 e2
  rw[List.take_of_length_le (by simp)]
  exact hq D hD
def bad (t:Str):Nat:=match scan 0 [] [] (linesOf t) with
 | .inl n=>n
 | .inr _=>0
section
variable {K:Kf} {vs:List V} {H:Hp} {Q:VK} {E:XK}
def sp_p_lines_of (_:Kf):Sp:=fun vs H Q _=>∃t:Str,vs= [.str t]∧t.length+2≤16777216∧∀(r:Addr) (H':Hp),Ext H H'→H r=none→H' r=some (.lst ((linesOf t).map V.str))→Q (.ref r) H'
theorem len_p_lines_of (h:sp_p_lines_of K vs H Q E):vs.length=1:=by
 obtain⟨_,rfl,_⟩:=h
 rfl
def N_p_lines_of:List Str:= ["text"]
def t_p_lines_of (K:Kf) (E:XK):TS:=
 (tRet (yIfE (yTst (tOp zEq (yVar 0) (tC (.str "")))) (tLst tNil) (tBM K "str" zSplit (yVar 0) (tCons (tC (.str "\n")) tNil))))
theorem pure_p_lines_of (h:sp_p_lines_of K vs H Q E):t_p_lines_of K E (dEnd Q) (start N_p_lines_of vs) H:=by
 obtain⟨t,rfl,hl,q⟩:=h
 refine brD (fun e=> ?_) fun e=> ?_
 ·refine⟨z35 _,fun p hp=>q p _ (Ext.new hp) hp ?_⟩
  unfold linesOf
  rw[if_pos e]
  exact upd_same
 ·refine⟨tyS,by decide,by rw[sizeLine_eq];exact hl,fun p hp=>q p _ (Ext.new hp) hp ?_⟩
  unfold linesOf
  rw[if_neg e]
  exact upd_same
def sp_p_is_name (K:Kf):Sp:=fun vs H Q _=>∃w:Str,vs= [.str w]∧w.length<16777216∧(∀H,SqT K H (He.ga K "BARRED") (BARRED.map V.str))∧∀H',Ext H H'→Q (.bl (nameOk w)) H'
theorem len_p_is_name (h:sp_p_is_name K vs H Q E):vs.length=1:=by
 obtain⟨_,rfl,_⟩:=h
 rfl
theorem allIn_map {s w:Str}:(w.cps.toList.map fun c=>decide (c∈s.cps.toList)).all id=allIn s w:=by
 unfold allIn
 rw[List.all_map]
 rfl
def N_p_is_name:List Str:= ["word","sign"]
def t_p_is_name (K:Kf) (E:XK):TS:=
 (tRet (yAndV (yChain zLe zLe (tC (.int 1)) (tCB (zLen K) (tCons (yVar 0) tNil)) (tC (.int 12))) (yAndV (tOp (zIn K true) (yVar 0) (tC (.ref (He.ga K "BARRED")))) (tCB (zAll K) (tCons (yLc (jStr (yVar 0)) (gName 1) tYes (tOp (zIn K false) (yVar 1) (tC (.str "abcdefghijklmnopqrstuvwxyz"))) [1]) tNil)))))
theorem pure_p_is_name (h:sp_p_is_name K vs H Q E):t_p_is_name K E (dEnd Q) (start N_p_is_name vs) H:=by
 obtain⟨w,rfl,hl,hb,q⟩:=h
 have hsz:w.length≤sizeLine:=by rw[sizeLine_eq];omega
 have fin:∀b,nameOk w=b→Q (.bl b) H:=fun b e=>by rw[←e];exact q H (Ext.refl H)
 refine⟨hsz,brD (fun h1=> ?_) fun h1=> ?_⟩
 ·refine brD (fun h2=> ?_) fun h2=> ?_
  ·refine⟨_,.inr (hb H),rfl,flat_strs,?_⟩
   rw[inV_str]
   refine brN (fun h3=> ?_) fun h3=> ?_
   ·dsimp only[tCB,tCons]
    refine lc_str (z:=w) (fun c=> .bl (decide (c∈LETTERS.cps.toList))) (by intro R;rfl) (by rw[sizeLine_eq];exact hl) (by intro x;rfl) (fun D H' c Q' _ _ _ hq=>⟨c,rfl,hq⟩) fun D hD=> ?_
    refine⟨w.cps.toList.map fun c=>decide (c∈LETTERS.cps.toList),SqL.of (by rw[upd_same,List.map_map];rfl),?_⟩
    rw[allIn_map]
    have e:nameOk w=allIn LETTERS w:=by
     unfold nameOk
     have a1:1≤w.length:=by omega
     have a2:w.length≤12:=by omega
     simp[a1,a2,h3]
    rw[←e]
    exact q _ (Ext.new hD)
   ·exact fin false (by unfold nameOk;simp[h3])
  ·exact fin false (by
        unfold nameOk
        have a2: ¬w.length≤12:=by omega
        simp[a2])
 ·exact brF rfl (fin false (by
   unfold nameOk
   have a2: ¬1≤w.length:=by omega
   simp[a2]))
end
theorem join_mem_len {s:Str}:∀{xs:List Str} {x:Str},x∈xs→x.length≤(Str.join s xs).length
 |[a],x,h=>by
  have e:x=a:=by simpa using h
  rw[e]
  exact z34 _
 |a::b::r,x,h=>by
  show x.length≤(a++s++Str.join s (b::r)).length
  rw[z15,z15]
  rcases List.mem_cons.mp h with e|h
  ·rw[e]
   omega
  ·have:=join_mem_len (s:=s) h
   omega
theorem part_len {t s x:Str} (h:x∈Txt.split t s):x.length≤t.length:=by
 have:=join_mem_len (s:=s) h
 rw[StrLaws.join_split] at this
 exact this
theorem line_len {t l:Str} (h:l∈linesOf t):l.length≤t.length:=by
 unfold linesOf at h
 split at h
 ·cases h
 ·exact part_len h
theorem nameOk_lay {n:Str} (h:nameOk n=true):okV (.str n)=true:=by
 unfold nameOk allIn at h
 simp only[Bool.and_eq_true,List.all_eq_true,decide_eq_true_eq] at h
 have hl:∀c∈LETTERS.cps.toList,97≤c∧c≤122:=by decide+kernel
 show n.cps.all (· <0x110000)=true
 rw[←Array.all_toList,List.all_eq_true]
 intro c hc
 have:=hl c (h.2.2.2 c hc)
 simp only[decide_eq_true_eq]
 omega
theorem ExtB.put {a:Addr} {H:Hp} {o:HO}:ExtB a H (upd H a o):=fun b u n e=>by rw[upd_ne n];exact e
theorem Ext.extB {a:Addr} {H H':Hp} (e:Ext H H'):ExtB a H H':=fun b o _ h=>e b o h
theorem ne_ins {H:Hp} {a b C dx:Addr} {fs:List (Str × V)} {xs:List V} (ha:H a=some (.ins C dx fs)) (hb:H b=some (.tup xs)):b≠a:=fun z=>by rw[z,ha] at hb;cases hb
section
variable {K:Kf} {vs:List V} {H:Hp} {Q:VK} {E:XK}
def sp_Rows_init (K:Kf):Sp:=fun vs H Q _=>∃(a p1 p2 dx:Addr) (xs ys:List V),vs= [.ref a,.ref p1,.ref p2]∧H a=some (.ins (He.ga K "Rows") dx [])∧SeqP H p1 xs∧SeqO H p2 ys∧
 ∀(t1 t2:Addr) (H':Hp),ExtB a H H'→H' a=some (.ins (He.ga K "Rows") dx [("tracks",.ref t1),("signs",.ref t2)])→PTup H' t1 xs→H' t2=some (.tup ys)→Q .non H'
theorem len_Rows_init (h:sp_Rows_init K vs H Q E):vs.length=3:=by
 obtain⟨_,_,_,_,_,_,rfl,_⟩:=h
 rfl
def N_Rows_init:List Str:= ["self","tracks","signs"]
def t_Rows_init (K:Kf) (E:XK):TS:=
 (tSeq (yPutF (isC K ["Rows"]) (yVar 0) (tCB (zTupleP K) (tCons (yVar 1) tNil)) "tracks")
    (yPutF (isC K ["Rows"]) (yVar 0) (tCB (zTuple K) (tCons (yVar 2) tNil)) "signs"))
def t_Rows_tail (K:Kf) (E:XK):TS:=
 (yPutF (isC K ["Rows"]) (yVar 0) (tCB (zTuple K) (tCons (yVar 2) tNil)) "signs")
theorem tail_Rows {a p1 p2 t1 dx:Addr} {xs ys:List V} (ha:H a=some (.ins (He.ga K "Rows") dx [("tracks",.ref t1)])) (h2:SeqO H p2 ys) (g1:PTup H t1 xs)
 (q:∀(t2:Addr) (H':Hp),ExtB a H H'→H' a=some (.ins (He.ga K "Rows") dx [("tracks",.ref t1),("signs",.ref t2)])→PTup H' t1 xs→H' t2=some (.tup ys)→Q .non H'):
 t_Rows_tail K E (dEnd Q) [some (.ref a),some (.ref p1),some (.ref p2)] H:=by
 have n1:t1≠a:=g1.ne ha (by simp)
 rcases h2 with h2|h2
 ·refine⟨ys,.inl ⟨SqL.of h2,fun t2 nt=>⟨_,dx,[("tracks",.ref t1)],by rw[upd_ne (ne_of_none ha nt)];exact ha,rfl,(show 1<1000 by decide),q t2 _ ((ExtB.new nt).trans ExtB.put) upd_same ?_ ?_⟩⟩⟩
  ·exact(g1.ext (Ext.new nt)).upd n1
  ·have n2:t2≠a:=(ne_of_none ha nt).symm
   rw[upd_ne n2,upd_same]
 ·have n2:=ne_ins ha h2
  exact⟨ys,.inr ⟨SqT.of h2,_,dx,_,ha,rfl,(show 1<1000 by decide),q p2 _ ExtB.put upd_same (g1.upd n1) (by rw[upd_ne n2];exact h2)⟩⟩
theorem pure_Rows_init (h:sp_Rows_init K vs H Q E):t_Rows_init K E (dEnd Q) (start N_Rows_init vs) H:=by
 obtain⟨a,p1,p2,dx,xs,ys,rfl,ha,h1,h2,q⟩:=h
 have np2:p2≠a:=fun z=>by rcases h2 with h2|h2<;>rw[z,ha] at h2<;>cases h2
 have h3:∀{o:HO} {H1:Hp},Ext H H1→SeqO (upd H1 a o) p2 ys:=fun{o H1} e=>by
  rcases h2.ext e with h2|h2
  ·exact .inl (by rw[upd_ne np2];exact h2)
  ·exact .inr (by rw[upd_ne np2];exact h2)
 rcases h1 with h1|h1
 ·refine⟨xs,.inl ⟨SqL.of h1,fun t1 o od nt=>⟨_,dx,[],by rw[upd_ne (ne_of_none ha nt)];exact ha,rfl,by decide,tail_Rows (E:=E) upd_same (h3 (Ext.new nt)) (xs:=xs) ⟨o,od,?_⟩ fun t2 H' e=>q t1 t2 H' (((ExtB.new nt).trans ExtB.put).trans e)⟩⟩⟩
  have n2:t1≠a:=(ne_of_none ha nt).symm
  rw[upd_ne n2,upd_same]
 ·have n1:p1≠a:=h1.ne ha (by simp)
  exact⟨xs,.inr ⟨h1.sq,_,dx,[],ha,rfl,by decide,tail_Rows (E:=E) upd_same (h3 (Ext.refl H)) (xs:=xs) (h1.upd n1) fun t2 H' e=>q p1 t2 H' (ExtB.put.trans e)⟩⟩
def sp_p_read_rows (K:Kf):Sp:=fun vs H Q E=>∃t:Str,vs= [.str t]∧t.length+2≤16777216∧(∀H,SqT K H (He.ga K "BARRED") (BARRED.map V.str))∧
 (∀n,scan 0 [] [] (linesOf t)= .inl n→∀(d:Addr) (H':Hp),Ext H H'→H d=none→H' d=some (.xd [("line",.int (n:Int))])→E (.ref (He.ga K "BadSheet")) (some d) H')∧
 (∀ns ss,scan 0 [] [] (linesOf t)= .inr (ns,ss)→∀(a:Addr) (H':Hp),Ext H H'→H a=none→RowsAt K H' a ns ss→Q (.ref a) H')
theorem len_p_read_rows (h:sp_p_read_rows K vs H Q E):vs.length=1:=by
 obtain⟨_,rfl,_⟩:=h
 rfl
theorem two_of {l:Str}:(∃n s,Txt.split l " "= [n,s])∨(Txt.split l " ").length≠2:=by
 cases h:Txt.split l " " with
 |nil=>exact .inr (by decide)
 |cons a r=>cases r with
  |nil=>exact .inr (by simp)
  |cons b r=>cases r with
   |nil=>exact .inl ⟨a,b,rfl⟩
   |cons c r=>exact .inr (by simp)
theorem scan_bad {i:Nat} {ns ss:List Str} {l:Str} {r:List Str} (h:∀n s,Txt.split l " "= [n,s]→i=3∨nameOk n=false∨n∈ns∨rowOk s=false∨(0<i∧s.length≠(ss.getD 0 "").length)):scan i ns ss (l::r)= .inl (i+1):=by
 show(match Txt.split l " " with
  |[n,s]=>if i=3∨nameOk n=false∨n∈ns∨rowOk s=false∨(0<i∧s.length≠(ss.getD 0 "").length) then(.inl (i+1):Nat ⊕ (List Str × List Str)) else scan (i+1) (ns++ [n]) (ss++ [s]) r
  |_=> .inl (i+1))=_
 split
 ·rename_i n s e
  rw[if_pos (h n s e)]
 ·rfl
def N_p_read_rows:List Str:= ["text","tracks","signs","at","line","words","row","sign"]
def t_p_read_rows (K:Kf) (E:XK):TS:=
 (tSeq (tAsg (tLst tNil) (gName 1))
    (tSeq (tAsg (tLst tNil) (gName 2))
    (tSeq (yFor (jEnum K (yCall (sp_p_lines_of K) E0 (tCons (yVar 0) tNil))) (gTup K 2 (gCons (gName 3) (gCons (gName 4) gNil))) (tSeq (tAsg (tBM K "str" zSplit (yVar 4) (tCons (tC (.str " ")) tNil)) (gName 5))
    (tSeq (yIf (yOr (yTst (tOp zEq (yVar 3) (tC (.int 3)))) (yOr (yTst (tOp zNe (tCB (zLen K) (tCons (yVar 5) tNil)) (tC (.int 2)))) (yOr (yNot (yTst (yCall (sp_p_is_name K) E0 (tCons (tOp (zIxL K) (yVar 5) (tC (.int 0))) tNil)))) (yTst (tOp (zIn K false) (tOp (zIxL K) (yVar 5) (tC (.int 0))) (yVar 1)))))) (yRaise (yMkR (He.ga K "BadSheet") (spI1 (He.ga K "BadSheet") "line" fmtOk) (tCons (tOp zAdd (yVar 3) (tC (.int 1))) tNil)) (fun cls d _ H=>E cls d H)) tNext)
    (tSeq (tAsg (tOp (zIxL K) (yVar 5) (tC (.int 1))) (gName 6))
    (tSeq (yIf (yOr (yNot (yTst (yChain zLe zLe (tC (.int 1)) (tCB (zLen K) (tCons (yVar 6) tNil)) (tC (.int 1000))))) (yNot (yTst (tCB (zAll K) (tCons (yLc (jStr (yVar 6)) (gName 7) tYes (tOp (zIn K false) (yVar 7) (tC (.str "#."))) [7]) tNil))))) (yRaise (yMkR (He.ga K "BadSheet") (spI1 (He.ga K "BadSheet") "line" fmtOk) (tCons (tOp zAdd (yVar 3) (tC (.int 1))) tNil)) (fun cls d _ H=>E cls d H)) tNext)
    (tSeq (yIf (yAnd (yTst (tOp zGt (yVar 3) (tC (.int 0)))) (yTst (tOp zNe (tCB (zLen K) (tCons (yVar 6) tNil)) (tCB (zLen K) (tCons (tOp (zIxL K) (yVar 2) (tC (.int 0))) tNil))))) (yRaise (yMkR (He.ga K "BadSheet") (spI1 (He.ga K "BadSheet") "line" fmtOk) (tCons (tOp zAdd (yVar 3) (tC (.int 1))) tNil)) (fun cls d _ H=>E cls d H)) tNext)
    (tSeq (tDrop (tBM K "list" zApp (yVar 1) (tCons (tOp (zIxL K) (yVar 5) (tC (.int 0))) tNil)))
    (tDrop (tBM K "list" zApp (yVar 2) (tCons (yVar 6) tNil))))))))))
    (tSeq (yIf (yTst (tOp (zEqD K) (yVar 1) (tLst tNil))) (yRaise (yMkR (He.ga K "BadSheet") (spI1 (He.ga K "BadSheet") "line" fmtOk) (tCons (tC (.int 1)) tNil)) (fun cls d _ H=>E cls d H)) tNext)
    (tRet (yNew (He.ga K "Rows") (sp_Rows_init K) W0 (tCons (yVar 1) (tCons (yVar 2) tNil))))))))
theorem pure_p_read_rows (h:sp_p_read_rows K vs H Q E):t_p_read_rows K E (dEnd Q) (start N_p_read_rows vs) H:=by
 obtain⟨t,rfl,hl,hb,qE,qQ⟩:=h
 have bang:∀(G:Hp) (k:Nat),Ext H G→scan 0 [] [] (linesOf t)= .inl (k+1)→∀d,G d=none→E (.ref (He.ga K "BadSheet")) (some d) (upd G d (.xd [("line",.int ((k:Nat)+1))])):=fun G k e hs d hd=>
  qE (k+1) hs d _ (e.trans (Ext.new hd)) (e.back hd) (by rw[upd_same];rfl)
 have rz:∀(G:Hp) (k:Nat),k<1000000→Ext H G→scan 0 [] [] (linesOf t)= .inl (k+1)→1≤1000∧∀a,G a=none→spI1 (He.ga K "BadSheet") "line" fmtOk [.ref a,.int ((k:Nat)+1)] (upd G a (exo a (He.ga K "BadSheet") none)) (exW (He.ga K "BadSheet") (fun cls d H'=>E cls d H') G a) E0:=
  fun G k hk e hs=>⟨by decide,mkR1 (log_1920 (n:=k+1) (by omega)) fun d hd=>bang G k e hs d hd⟩
 refine⟨z35 _,fun a1 n1=>⟨z35 _,fun a2 n2=>⟨t,rfl,hl,fun r H3 e3 nr hr=> ?_⟩⟩⟩
 have e0:Ext H H3:=((Ext.new n1).trans (Ext.new n2)).trans e3
 have n2':H a2=none:=(Ext.new n1).back n2
 have n12:a1≠a2:=fun z=>by rw[←z,upd_same] at n2;cases n2
 have h1:H3 a1=some (.lst []):=e3 _ _ (by rw[upd_ne n12,upd_same])
 have h2:H3 a2=some (.lst []):=e3 _ _ upd_same
 have nr1:r≠a1:=fun z=>by rw[z,upd_ne n12,upd_same] at nr;cases nr
 have nr2:r≠a2:=fun z=>by rw[z,upd_same] at nr;cases nr
 refine⟨_,SqL.of hr,fun i σ G=>∃(ns ss:List Str) (x3 x4 x5 x6 x7:Option V),σ= [some (.str t),some (.ref a1),some (.ref a2),x3,x4,x5,x6,x7]∧Ext H G∧G a1=some (.lst (ns.map V.str))∧G a2=some (.lst (ss.map V.str))∧G r=some (.lst ((linesOf t).map V.str))∧
  scan 0 [] [] (linesOf t)=scan i ns ss ((linesOf t).drop i)∧ns.length=i∧ss.length=i∧i≤3∧(∀n∈ns,nameOk n=true)∧∀s∈ss,rowOk s=true,
  ⟨[],[],_,_,_,_,_,rfl,e0,h1,h2,hr,rfl,rfl,rfl,by decide,(fun n hn=>by cases hn),fun n hn=>by cases hn⟩,fun i σ G _ ⟨_,_,_,_,_,_,_,_,_,_,_,gr,_⟩=>SqL.of gr,?_,?_⟩
 ·rintro i x σ G G2 hi ⟨ns,ss,x3,x4,x5,x6,x7,rfl,eG,g1,g2,gr,hsc,l1,l2,l3,hok,hok2⟩ ⟨T,x',y',rfl,nT,rfl,ex,ey⟩
  cases ex
  have ey:((linesOf t).map V.str)[i]?=some y':=ey
  rw[z10] at ey
  obtain⟨l,hl',rfl⟩:=z30.mp ey
  have hlt:i<(linesOf t).length:=(List.getElem?_eq_some_iff.mp hl').1
  have hd:(linesOf t).drop i=l::(linesOf t).drop (i+1):=by
   rw[List.drop_eq_getElem_cons hlt]
   have:=(z9 hlt).symm.trans hl'
   rw[z33 this]
  rw[hd] at hsc
  have ll:l.length≤t.length:=line_len (z11 hl')
  refine⟨T,_,rfl,SqT.of upd_same,rfl,_,_,rfl,_,_,rfl,rfl,?_⟩
  refine⟨tyS,by decide,by rw[sizeLine_eq];omega,fun p np=> ?_⟩
  have eG3:=(Ext.new nT (o:= .tup [.int (i:Nat),.str l])).trans (Ext.new np (o:= .lst ((Txt.split l " ").map V.str)))
  have kp:(upd (upd G T (.tup [.int (i:Nat),.str l])) p (.lst ((Txt.split l " ").map V.str))) p=some (.lst ((Txt.split l " ").map V.str)):=upd_same
  have kpa1:p≠a1:=fun z=>by
   have:=Ext.new nT (o:= .tup [.int (i:Nat),.str l]) _ _ g1
   rw[←z,np] at this
   cases this
  have kpa2:p≠a2:=fun z=>by
   have:=Ext.new nT (o:= .tup [.int (i:Nat),.str l]) _ _ g2
   rw[←z,np] at this
   cases this
  generalize upd (upd G T (.tup [.int (i:Nat),.str l])) p (.lst ((Txt.split l " ").map V.str))=G3 at eG3 kp⊢
  have eH:=eG.trans eG3
  have hi6:i<1000000:=by omega
  refine brD (fun h3=> ?_) fun h3=> ?_
  ·exact brT rfl (rz G3 i hi6 eH (hsc.trans (scan_bad fun n s _=> .inl (by omega))))
  refine⟨_,.inl (SqL.of kp),brN (fun hw=> ?_) fun hw=> ?_⟩
  ·exact brT rfl (rz G3 i hi6 eH (hsc.trans (scan_bad fun n s e=>absurd (by rw[e];rfl) hw)))
  obtain⟨n,s,e⟩:∃n s,Txt.split l " "= [n,s]:=(two_of (l:=l)).resolve_right (fun z=>z (by
   have:((((Txt.split l " ").map V.str).length:Nat):Int)=2:=hw
   rw[z8] at this
   omega))
  rw[e] at kp
  have hn16:n.length<16777216:=by
   have:=part_len (t:=l) (s:= " ") (x:=n) (by rw[e];simp)
   omega
  have hs16:s.length<16777216:=by
   have:=part_len (t:=l) (s:= " ") (x:=s) (by rw[e];simp)
   omega
  have hss:s.length≤sizeLine:=by rw[sizeLine_eq];omega
  have sb:(nameOk n=false∨n∈ns∨rowOk s=false∨(0<i∧s.length≠(ss.getD 0 "").length))→scan 0 [] [] (linesOf t)= .inl (i+1):=fun z=>hsc.trans (scan_bad fun n' s' e'=>by
   rw[e] at e'
   cases e'
   exact .inr z)
  refine⟨_,.str n,.inl (SqL.of kp),rfl,n,rfl,hn16,hb,fun G4 e4=> ?_⟩
  have eH4:=eH.trans e4
  refine br (fun hn=> ?_) fun hn=> ?_
  ·exact brT rfl (rz G4 i hi6 eH4 (sb (.inl (by simpa using hn))))
  have hn:nameOk n=true:=by simpa using hn
  have k1:=e4 _ _ (eG3 _ _ g1)
  have k2:=e4 _ _ (eG3 _ _ g2)
  have kr:=e4 _ _ (eG3 _ _ gr)
  have kw:=e4 _ _ kp
  refine⟨_,.str n,.inl (SqL.of kw),rfl,_,.inl (SqL.of k1),rfl,flat_strs,?_⟩
  rw[inV_str]
  refine brD (fun hm=> ?_) fun hm=> ?_
  ·exact rz G4 i hi6 eH4 (sb (.inr (.inl hm)))
  refine⟨_,.str s,.inl (SqL.of kw),rfl,?_⟩
  refine⟨hss,brD (fun r1=> ?_) fun r1=> ?_⟩
  ·refine brN (fun r2=> ?_) fun r2=> ?_
   ·exact brT rfl (rz G4 i hi6 eH4 (sb (.inr (.inr (.inl (by
     unfold rowOk
     have a2: ¬s.length≤1000:=by omega
     simp[a2]))))))
   ·dsimp only[yNot,yTst,tCB,tCons]
    refine lc_str (z:=s) (fun c=> .bl (decide (c∈("#.":Str).cps.toList))) (by intro R;rfl) (by rw[sizeLine_eq];exact hs16) (by intro x;rfl) (fun D H' c Q' _ _ _ hq=>⟨c,rfl,hq⟩) fun D hD=> ?_
    refine⟨s.cps.toList.map fun c=>decide (c∈("#.":Str).cps.toList),SqL.of (by rw[upd_same,List.map_map];rfl),?_⟩
    rw[allIn_map]
    have e5:Ext G4 (upd G4 D (.lst (s.cps.toList.map fun c=>V.bl (decide (c∈("#.":Str).cps.toList))))):=Ext.new hD
    have nD1:D≠a1:=fun z=>by rw[z,k1] at hD;cases hD
    have nD2:D≠a2:=fun z=>by rw[z,k2] at hD;cases hD
    generalize upd G4 D (.lst (s.cps.toList.map fun c=>V.bl (decide (c∈("#.":Str).cps.toList))))=G5 at e5⊢
    have eH5:=eH4.trans e5
    have er:rowOk s=allIn "#." s:=by
     unfold rowOk
     have a1:1≤s.length:=by omega
     have a2:s.length≤1000:=by omega
     simp[a1,a2]
    refine br (fun hr=> ?_) fun hr=> ?_
    ·exact rz G5 i hi6 eH5 (sb (.inr (.inr (.inl (by rw[er];simpa using hr)))))
    have hr:rowOk s=true:=by rw[er];simpa using hr
    have k1:=e5 _ _ k1
    have k2:=e5 _ _ k2
    have kr:=e5 _ _ kr
    have kw:=e5 _ _ kw
    have next: ¬(0<i∧s.length≠(ss.getD 0 "").length)→scan 0 [] [] (linesOf t)=scan (i+1) (ns++ [n]) (ss++ [s]) ((linesOf t).drop (i+1)):=fun z=>hsc.trans (scan_good e (by
     rintro(a|a|a|a|a)
     ·omega
     ·rw[hn] at a;cases a
     ·exact hm a
     ·rw[hr] at a;cases a
     ·exact z a))
    have go:scan 0 [] [] (linesOf t)=scan (i+1) (ns++ [n]) (ss++ [s]) ((linesOf t).drop (i+1))→
     tSeq (tDrop (tBM K "list" zApp (yVar 1) (tCons (tOp (zIxL K) (yVar 5) (tC (.int 0))) tNil))) (tDrop (tBM K "list" zApp (yVar 2) (tCons (yVar 6) tNil)))
          {(dEnd Q) with nx:=(fun σ G=>∃(ns ss:List Str) (x3 x4 x5 x6 x7:Option V),σ= [some (.str t),some (.ref a1),some (.ref a2),x3,x4,x5,x6,x7]∧Ext H G∧G a1=some (.lst (ns.map V.str))∧G a2=some (.lst (ss.map V.str))∧G r=some (.lst ((linesOf t).map V.str))∧
           scan 0 [] [] (linesOf t)=scan (i+1) ns ss ((linesOf t).drop (i+1))∧ns.length=i+1∧ss.length=i+1∧i+1≤3∧(∀n∈ns,nameOk n=true)∧∀s∈ss,rowOk s=true)}
          [some (.str t),some (.ref a1),some (.ref a2),some (.int (i:Nat)),some (.str l),some (.ref p),some (.str s),x7] G5:=fun hgo=>by
     refine⟨tyL k1,_,.str n,.inl (SqL.of kw),rfl,_,k1,?_,?_⟩
     ·rw[z8,sizeLine_eq]
      omega
     refine⟨tyL (by rw[upd_ne n12.symm];exact k2),_,by rw[upd_ne n12.symm];exact k2,?_,?_⟩
     ·rw[z8,sizeLine_eq]
      omega
     refine⟨ns++ [n],ss++ [s],_,_,_,_,_,rfl,(eH5.mut n1).mut n2',?_,?_,?_,hgo,by simp[l1],by simp[l2],by omega,fun m hm2=> ?_,fun m hm2=> ?_⟩
     ·rw[upd_ne n12,upd_same,z16]
      rfl
     ·rw[upd_same,z16]
      rfl
     ·rw[upd_ne nr2,upd_ne nr1]
      exact kr
     ·rcases z36.mp hm2 with z|z
      ·exact hok m z
      ·have:m=n:=by simpa using z
       rw[this]
       exact hn
     ·rcases z36.mp hm2 with z|z
      ·exact hok2 m z
      ·have:m=s:=by simpa using z
       rw[this]
       exact hr
    refine brD (fun hpos=> ?_) fun hpos=> ?_
    ·obtain⟨s0,sr,es⟩:∃s0 sr,ss=s0::sr:=by
      cases hss2:ss with
      |nil=>rw[hss2] at l2;simp at l2;omega
      |cons a b=>exact⟨a,b,rfl⟩
     subst es
     have hs0:s0.length≤sizeLine:=by
      have q:=hok2 s0 (by simp)
      unfold rowOk at q
      simp only[Bool.and_eq_true,decide_eq_true_eq] at q
      rw[sizeLine_eq]
      omega
     have hpos:0<i:=by omega
     refine⟨hss,_,.str s0,.inl (SqL.of k2),atI_nat (j:=0) rfl,hs0,brN (fun hne=> ?_) fun heq=> ?_⟩
     ·exact rz G5 i hi6 eH5 (sb (.inr (.inr (.inr ⟨hpos,fun z=>hne (by
          have z:s.length=s0.length:=z
          rw[z])⟩))))
     ·exact go (next fun z=>z.2 (by
          show s.length=s0.length
          omega))
    ·exact brF rfl (go (next fun z=>by omega))
  ·exact brT rfl (brT rfl (rz G4 i hi6 eH4 (sb (.inr (.inr (.inl (by
    unfold rowOk
    have a2: ¬1≤s.length:=by omega
    simp[a2])))))))
 ·rintro σ G ⟨ns,ss,x3,x4,x5,x6,x7,rfl,eG,g1,g2,gr,hsc,l1,l2,l3,hok,hok2⟩
  have hdz:(linesOf t).drop ((linesOf t).map V.str).length= []:=List.drop_of_length_le (by rw[z8];exact z34 _)
  rw[hdz] at hsc
  refine⟨z35 _,fun p np=>⟨.list ((ns.map V.str).map dataV),.list [],.lst (SqL.of ((Ext.new np) _ _ g1)) (dpAll_flat flat_strs),.lst (SqL.of upd_same) .nil,shaped_flatL ?_,by decide,?_⟩⟩
  ·exact List.all_eq_true.mpr fun z hz=>by
        obtain⟨y,hy,rfl⟩:=z37.mp hz
        exact nameOk_lay (hok y hy)
  have eP:Ext G (upd G p (.lst [])):=Ext.new np
  generalize upd G p (.lst [])=G1 at eP⊢
  cases ns with
  |nil=>exact brT (by decide) (rz G1 0 (by decide) (eG.trans eP) hsc)
  |cons n nr'=>
   refine brF (by simp[PyData.eqv,PyData.eqvAll]) fun x dx nx ndx hne=> ?_
   have g1':=eP _ _ g1
   have g2':=eP _ _ g2
   have m1:a1≠x:=fun z=>by rw[←z,g1'] at nx;cases nx
   have m2:a2≠x:=fun z=>by rw[←z,g2'] at nx;cases nx
   refine⟨x,a1,a2,dx,_,_,rfl,upd_same,(.inl (by rw[upd_ne m1,upd_ne (ne_of_none g1' ndx)];exact g1')),(.inl (by rw[upd_ne m2,upd_ne (ne_of_none g2' ndx)];exact g2')),fun t1 t2 H' eb ha h1 h2=>⟨rfl,qQ _ ss hsc x H' (fun b o hb=> ?_) ((eG.trans eP).back nx) ⟨dx,t1,t2,ha,h1,h2⟩⟩⟩
   have hb':=eP _ _ (eG _ _ hb)
   have hbx:b≠x:=fun z=>by rw[z,nx] at hb';cases hb'
   exact eb b o hbx (by rw[upd_ne hbx,upd_ne (ne_of_none hb' ndx)];exact hb')
end
theorem lineOf_split {l n s:Str} (e:Txt.split l " "= [n,s]):lineOf n s=l:=by
 have q:=StrLaws.join_split l " "
 rw[e] at q
 unfold lineOf
 rw[empty_app]
 exact q
theorem zipWith_snoc {α β γ:Type} (f:α→β→γ):∀{as:List α} {bs:List β} {a:α} {b:β},as.length=bs.length→List.zipWith f (as++ [a]) (bs++ [b])=List.zipWith f as bs++ [f a b]
 |[],[],_,_,_=>rfl
 |x::as,y::bs,a,b,h=>by
  show f x y::List.zipWith f (as++ [a]) (bs++ [b])=_
  rw[zipWith_snoc f (by simpa using h)]
  rfl
theorem scan_ok:∀(r:List Str) (i:Nat) (ns ss ns' ss':List Str),scan i ns ss r= .inr (ns',ss')→(∀n∈ns,nameOk n=true)→(∀s∈ss,rowOk s=true)→ns.length=i→ss.length=i→i≤3→
 (∀n∈ns',nameOk n=true)∧(∀s∈ss',rowOk s=true)∧ns'.length=ss'.length∧ns'.length≤3∧ns'≠ []∧List.zipWith lineOf ns' ss'=List.zipWith lineOf ns ss++r
 |[],i,ns,ss,ns',ss',h,h1,h2,h3,h4,h5=>by
  have h:(if ns= [] then(.inl 1:Nat ⊕ (List Str × List Str)) else .inr (ns,ss))= .inr (ns',ss'):=h
  by_cases e:ns= []
  ·rw[if_pos e] at h
   cases h
  ·rw[if_neg e] at h
   cases h
   exact⟨h1,h2,by omega,by omega,e,by simp⟩
 |l::r,i,ns,ss,ns',ss',h,h1,h2,h3,h4,h5=>by
  by_cases hb:∀n s,Txt.split l " "= [n,s]→i=3∨nameOk n=false∨n∈ns∨rowOk s=false∨(0<i∧s.length≠(ss.getD 0 "").length)
  ·rw[scan_bad hb] at h
   cases h
  ·obtain⟨n,hb⟩:=Classical.not_forall.mp hb
   obtain⟨s,hb⟩:=Classical.not_forall.mp hb
   obtain⟨e,hb⟩:=Classical.not_imp.mp hb
   rw[scan_good e hb] at h
   have hi:i≠3:=fun z=>hb (.inl z)
   have hn:nameOk n=true:=by
        cases z:nameOk n with
        |true=>rfl
        |false=>exact absurd (.inr (.inl z)) hb
   have hs:rowOk s=true:=by
        cases z:rowOk s with
        |true=>rfl
        |false=>exact absurd (.inr (.inr (.inr (.inl z)))) hb
   obtain⟨a1,a2,a3,a4,a5,a6⟩:=scan_ok r (i+1) _ _ ns' ss' h (fun m hm=>by
        rcases z36.mp hm with z|z
        ·exact h1 m z
        ·rw[show m=n by simpa using z];exact hn) (fun m hm=>by
        rcases z36.mp hm with z|z
        ·exact h2 m z
        ·rw[show m=s by simpa using z];exact hs) (by simp[h3]) (by simp[h4]) (by omega)
   refine⟨a1,a2,a3,a4,a5,?_⟩
   rw[a6,zipWith_snoc lineOf (by omega),lineOf_split e,z19]
   rfl
section
variable {K:Kf} {vs:List V} {H:Hp} {Q:VK} {E:XK}
theorem len_Sheet_init (h:sp_Sheet_init K vs H Q E):vs.length=2:=by
 obtain⟨_,_,_,⟨_,rfl,_⟩|⟨_,_,_,rfl,_⟩⟩:=h<;>rfl
def N_Sheet_init:List Str:= ["self","text","rows","track","row"]
def t_Sheet_init (K:Kf) (E:XK):TS:=
 (tSeq (tAsg (yIfE (yTst (tCB (zIsO K) (tCons (yVar 1) (tCons (tC (.ref (He.ga K "Rows"))) tNil)))) (yVar 1) (yCallS (sp_p_read_rows K) (fun cls d _ H=>E cls d H) (tCons (yVar 1) tNil))) (gName 2))
    (tSeq (yPutF (isC K ["Sheet"]) (yVar 0) (yFld (isC K ["Rows"]) (yVar 2) "tracks") "tracks")
    (tSeq (yPutF (isC K ["Sheet"]) (yVar 0) (yFld (isC K ["Rows"]) (yVar 2) "signs") "signs")
    (tSeq (yPutF (isC K ["Sheet"]) (yVar 0) (yDictZip K (yFld (isC K ["Rows"]) (yVar 2) "tracks") (yFld (isC K ["Rows"]) (yVar 2) "signs")) "row_of")
    (yPutF (isC K ["Sheet"]) (yVar 0) (tBM K "str" (zJoin K) (tC (.str "\n")) (tCons (yLc (jZipT K (yFld (isC K ["Rows"]) (yVar 2) "tracks") (yFld (isC K ["Rows"]) (yVar 2) "signs")) (gTup K 2 (gCons (gName 3) (gCons (gName 4) gNil))) tYes (yJoin ((yFmt (yVar 3))::((tC (.str " "))::((yFmt (yVar 4))::[])))) [3,4]) tNil)) "text")))))
def t_Sheet_tail (K:Kf) (E:XK):TS:=
 (tSeq (yPutF (isC K ["Sheet"]) (yVar 0) (yFld (isC K ["Rows"]) (yVar 2) "tracks") "tracks")
    (tSeq (yPutF (isC K ["Sheet"]) (yVar 0) (yFld (isC K ["Rows"]) (yVar 2) "signs") "signs")
    (tSeq (yPutF (isC K ["Sheet"]) (yVar 0) (yDictZip K (yFld (isC K ["Rows"]) (yVar 2) "tracks") (yFld (isC K ["Rows"]) (yVar 2) "signs")) "row_of")
    (yPutF (isC K ["Sheet"]) (yVar 0) (tBM K "str" (zJoin K) (tC (.str "\n")) (tCons (yLc (jZipT K (yFld (isC K ["Rows"]) (yVar 2) "tracks") (yFld (isC K ["Rows"]) (yVar 2) "signs")) (gTup K 2 (gCons (gName 3) (gCons (gName 4) gNil))) tYes (yJoin ((yFmt (yVar 3))::((tC (.str " "))::((yFmt (yVar 4))::[])))) [3,4]) tNil)) "text"))))
theorem tail_Sheet {H1:Hp} {x1:Option V} {a dx rows:Addr} {ns ss:List Str} (ok:RowsOk ns ss) (ha1:H1 a=some (.ins (He.ga K "Sheet") dx [])) (hR:RowsAt K H1 rows ns ss) (qQ:∀H':Hp,ExtB a H1 H'→SheetAt K H' a ns ss→Q .non H'):
 t_Sheet_tail K E (dEnd Q) [some (.ref a),x1,some (.ref rows),none,none] H1:=by
 obtain⟨o4,o3,_,_⟩:=id ok
 obtain⟨rdx,t1,t2,r0,r1,r2⟩:=hR
 have nra:rows≠a:=fun z=>by rw[z,ha1] at r0;injection (z33 r0) with _ _ h;cases h
 have n1a:t1≠a:=r1.ne ha1 (by simp)
 have n2a:t2≠a:=fun z=>by rw[z,ha1] at r2;cases r2
 refine⟨_,rdx,_,_,r0,rfl,rfl,_,dx,[],ha1,rfl,by decide,?_⟩
 refine⟨_,rdx,_,_,by rw[upd_ne nra];exact r0,rfl,rfl,_,dx,[("tracks",.ref t1)],upd_same,rfl,(show 1<1000 by decide),?_⟩
 rw[upd_idem]
 refine⟨_,rdx,_,.ref t1,by rw[upd_ne nra];exact r0,rfl,rfl,_,rdx,_,.ref t2,by rw[upd_ne nra];exact r0,rfl,rfl,ns,ss.map V.str,(r1.upd n1a).sq,SqT.of (by rw[upd_ne n2a];exact r2),by omega,fun d nd=> ?_⟩
 have nda:d≠a:=fun z=>by rw[z,upd_same] at nd;cases nd
 have nd1:H1 d=none:=by rw[upd_ne nda] at nd;exact nd
 refine⟨_,dx,[("tracks",.ref t1),("signs",.ref t2)],by rw[upd_ne nda.symm,upd_same];rfl,rfl,(show 2<1000 by decide),?_⟩
 have g0:∀(fs:List (Str × V)),(upd (upd (upd H1 a (.ins (He.ga K "Sheet") dx (putF "signs" (.ref t2) [("tracks",.ref t1)]))) d (.dK (mergeK [] (zipK ns (ss.map V.str))))) a (.ins (He.ga K "Sheet") dx fs))=upd (upd H1 d (.dK (mergeK [] (zipK ns (ss.map V.str))))) a (.ins (He.ga K "Sheet") dx fs):=fun fs=>by
  funext b
  by_cases h1:b=a
  ·rw[h1,upd_same,upd_same]
  ·rw[upd_ne h1,upd_ne h1]
   by_cases h2:b=d
   ·rw[h2,upd_same,upd_same]
   ·rw[upd_ne h2,upd_ne h2,upd_ne h1]
 rw[g0]
 have G0:ExtB a H1 (upd (upd H1 d (.dK (mergeK [] (zipK ns (ss.map V.str))))) a (.ins (He.ga K "Sheet") dx (putF "row_of" (.ref d) [("tracks",.ref t1),("signs",.ref t2)]))):=fun b o hb hx=>by
  rw[upd_ne hb]
  exact(Ext.new nd1) _ _ hx
 have ga:(upd (upd H1 d (.dK (mergeK [] (zipK ns (ss.map V.str))))) a (.ins (He.ga K "Sheet") dx (putF "row_of" (.ref d) [("tracks",.ref t1),("signs",.ref t2)]))) a=some (.ins (He.ga K "Sheet") dx [("tracks",.ref t1),("signs",.ref t2),("row_of",.ref d)]):=by rw[upd_same];rfl
 have gr:(upd (upd H1 d (.dK (mergeK [] (zipK ns (ss.map V.str))))) a (.ins (He.ga K "Sheet") dx (putF "row_of" (.ref d) [("tracks",.ref t1),("signs",.ref t2)]))) rows=some (.ins (He.ga K "Rows") rdx [("tracks",.ref t1),("signs",.ref t2)]):=by rw[upd_ne nra];exact(Ext.new nd1) _ _ r0
 have g1:PTup (upd (upd H1 d (.dK (mergeK [] (zipK ns (ss.map V.str))))) a (.ins (He.ga K "Sheet") dx (putF "row_of" (.ref d) [("tracks",.ref t1),("signs",.ref t2)]))) t1 (ns.map V.str):=(r1.ext (Ext.new nd1)).upd n1a
 have g2:(upd (upd H1 d (.dK (mergeK [] (zipK ns (ss.map V.str))))) a (.ins (He.ga K "Sheet") dx (putF "row_of" (.ref d) [("tracks",.ref t1),("signs",.ref t2)]))) t2=some (.tup (ss.map V.str)):=by rw[upd_ne n2a];exact(Ext.new nd1) _ _ r2
 have gd:(upd (upd H1 d (.dK (mergeK [] (zipK ns (ss.map V.str))))) a (.ins (He.ga K "Sheet") dx (putF "row_of" (.ref d) [("tracks",.ref t1),("signs",.ref t2)]))) d=some (.dK (mergeK [] (zipK ns (ss.map V.str)))):=by rw[upd_ne nda,upd_same]
 generalize upd (upd H1 d (.dK (mergeK [] (zipK ns (ss.map V.str))))) a (.ins (He.ga K "Sheet") dx (putF "row_of" (.ref d) [("tracks",.ref t1),("signs",.ref t2)]))=G at G0 ga gr g1 g2 gd⊢
 have zl:(List.zipWith lineOf ns ss).length≤3:=by rw[List.length_zipWith];omega
 have hnl:=ok.nm
 have hsl:=ok.row
 refine⟨tyS,_,rdx,_,.ref t1,gr,rfl,rfl,_,rdx,_,.ref t2,gr,rfl,rfl,_,_,g1.sq,SqT.of g2,fun D hD=>⟨fun i acc G'=>acc=((List.zipWith lineOf ns ss).take i).map V.str∧Ext G G'∧G' D=some (.lst acc),⟨by simp,Ext.new hD,upd_same⟩,fun i acc G' hi ⟨c1,c2,c3⟩=> ?_,?_,?_⟩⟩
 ·refine⟨⟨(g1.ext c2).sq,SqT.of (c2 _ _ g2)⟩,c3,?_⟩
  rw[c1,z8,z22,sizeLine_eq]
  omega
 ·rintro i x acc G' G2 hi ⟨c1,c2,c3⟩ ⟨T,x',y',rfl,nT,rfl,ex,ey⟩
  have ex:(ns.map V.str)[i]?=some x':=ex
  have ey:(ss.map V.str)[i]?=some y':=ey
  rw[z10] at ex ey
  obtain⟨n,hn,rfl⟩:=z30.mp ex
  obtain⟨s,hs',rfl⟩:=z30.mp ey
  have ln:=hnl n (z11 hn)
  have ls:=hsl s (z11 hs')
  have q1:(Str.empty++n).length≤12:=by rw[empty_app];exact ln
  have q2:(Str.empty++n++ " ").length≤13:=by
   rw[z15]
   have:((" ":Str)).length=1:=rfl
   omega
  have q3:(Str.empty++n++ " " ++s).length≤1000013:=by
   rw[z15]
   omega
  refine⟨T,_,rfl,SqT.of upd_same,rfl,_,_,rfl,_,_,rfl,rfl,rfl,brT rfl ⟨by omega,by omega,by omega,by omega,by omega,?_⟩⟩
  have nDT:D≠T:=fun z=>by rw[z,nT] at c3;cases c3
  have hz:(List.zipWith lineOf ns ss)[i]?=some (lineOf n s):=by
   rw[List.getElem?_zipWith,hn,hs']
  refine⟨by rw[upd_ne nDT];exact c3,?_,(c2.trans (Ext.new nT)).mut hD,upd_same⟩
  have hlt:i<(List.zipWith lineOf ns ss).length:=(List.getElem?_eq_some_iff.mp hz).1
  have hz2:(List.zipWith lineOf ns ss)[i]=lineOf n s:=z33 ((z9 hlt).symm.trans hz)
  rw[List.take_succ_eq_append_getElem hlt,z16,c1,hz2]
  rfl
 ·rintro acc G' ⟨c1,c2,c3⟩
  have hmn:min (ns.map V.str).length (ss.map V.str).length=(List.zipWith lineOf ns ss).length:=by
   rw[List.length_zipWith,z8,z8]
  rw[hmn,List.take_length] at c1
  subst c1
  refine⟨List.zipWith lineOf ns ss,.inl (SqL.of c3),?_,_,dx,_,c2 _ _ ga,rfl,(show 3<1000 by decide),?_⟩
  ·have hb:∀x∈List.zipWith lineOf ns ss,x.length≤1000013:=fun x hx=>by
        obtain⟨i,hi,rfl⟩:=List.mem_iff_getElem.mp hx
        rw[List.getElem_zipWith]
        rw[List.length_zipWith] at hi
        have ln:=hnl _ (List.getElem_mem (l:=ns) (n:=i) (by omega))
        have ls:=hsl _ (List.getElem_mem (l:=ss) (n:=i) (by omega))
        unfold lineOf
        rw[z15,z15,empty_app]
        have:((" ":Str)).length=1:=rfl
        omega
   have h1:=sum_len_le hb
   have h2:(List.zipWith lineOf ns ss).length*1000013≤3*1000013:=Nat.mul_le_mul_right _ zl
   have h3:(("\n":Str)).length=1:=rfl
   rw[h3]
   omega
  ·refine qQ _ (fun b o hb hx=>by rw[upd_ne hb];exact c2 _ _ (G0 b o hb hx)) ⟨dx,t1,t2,d,by rw[upd_same];rfl,?_,?_,?_⟩
   ·exact(g1.ext c2).upd n1a
   ·rw[upd_ne n2a];exact c2 _ _ g2
   ·rw[upd_ne nda];exact c2 _ _ gd
theorem pure_Sheet_init (h:sp_Sheet_init K vs H Q E):t_Sheet_init K E (dEnd Q) (start N_Sheet_init vs) H:=by
 obtain⟨a,dx,ha,⟨t,rfl,hl,hb,hk,qE,qQ⟩|⟨r,ns,ss,rfl,hR,ok,pc,hk,qQ⟩⟩:=h
 ·refine⟨false,hk,brF rfl ⟨t,rfl,hl,hb,qE,fun ns ss hs rows H1 e1 nr hR=> ?_⟩⟩
  obtain⟨o1,o2,o3,o4,o5,o6⟩:=scan_ok _ 0 [] [] ns ss hs (fun n z=>by cases z) (fun n z=>by cases z) rfl rfl (by decide)
  refine tail_Sheet (E:=E) ⟨by omega,by omega,fun n hn=> ?_,fun s hs=> ?_⟩ (e1 _ _ ha) hR fun H' eb hS=>qQ ns ss hs H' (fun b o hb hx=>eb b o hb (e1 _ _ hx)) hS
  ·have:=o1 n hn
   unfold nameOk at this
   simp only[Bool.and_eq_true,decide_eq_true_eq] at this
   exact this.2.1
  ·have:=o2 s hs
   unfold rowOk at this
   simp only[Bool.and_eq_true,decide_eq_true_eq] at this
   omega
 ·obtain⟨rdx,t1,t2,r0,r1,r2⟩:=id hR
  exact⟨_,true,pc.ty r0,hk,brT rfl (tail_Sheet (E:=E) ok ha hR qQ)⟩
end
section
variable {P:Program} {w:World} {K:Kf} {mg:Str→Option Value} {base:Heap}
abbrev s_p_lines_of:Stmt:=top 13
theorem sc_p_lines_of:FnScope N_p_lines_of ["text"] (defScope s_p_lines_of):=⟨rfl,rfl,rfl,by decide+kernel,rfl,by decide+kernel,by decide+kernel⟩
theorem ok_p_lines_of {f:Addr} {fd:FuncData} (B:Blt mg) (F:FunD K "lines_of" "lines_of" (defArgs s_p_lines_of) (defBody s_p_lines_of) (defScope s_p_lines_of) [] [] f fd):FnOk P w K mg base (L2.CX P w) (1) f fd ["text"] (sp_p_lines_of K):=by
 refine F.ok sc_p_lines_of (fun vs H Q E h=>len_p_lines_of h) (fun cdv A outer s H vs Q E hr h=>⟨t_p_lines_of K E,?_,pure_p_lines_of h⟩)
 exact(pss_one (ps_ret (ye_if (yt_cmp op_zEq (yv 0) pe_str (by rfl)) (pe_lst pa_nil) (pe_bm PySem.F.plainAttrs_str PySem.F.slot_str_split PySem.F.type_str_split mt_zSplit (yv 0) (pa_cons pe_str pa_nil)))))
abbrev s_p_is_name:Stmt:=top 14
theorem sc_p_is_name:FnScope N_p_is_name ["word"] (defScope s_p_is_name):=⟨rfl,rfl,rfl,by decide+kernel,rfl,by decide+kernel,by decide+kernel⟩
theorem ok_p_is_name {f:Addr} {fd:FuncData} (B:Blt mg) (k_LETTERS:∃u,mg "LETTERS"=some u∧RelV (.str "abcdefghijklmnopqrstuvwxyz") u) (k_BARRED:∃u,mg "BARRED"=some u∧RelV (.ref (He.ga K "BARRED")) u) (k_LONGEST:∃u,mg "LONGEST"=some u∧RelV (.int 12) u) (F:FunD K "is_name" "is_name" (defArgs s_p_is_name) (defBody s_p_is_name) (defScope s_p_is_name) [] [] f fd):FnOk P w K mg base (L2.CX P w) (1) f fd ["word"] (sp_p_is_name K):=by
 refine F.ok sc_p_is_name (fun vs H Q E h=>len_p_is_name h) (fun cdv A outer s H vs Q E hr h=>⟨t_p_is_name K E,?_,pure_p_is_name h⟩)
 exact(pss_one (ps_ret (ye_and (ye_chain op_zLe op_zLe pe_int (pe_callB cr_len rfl B.len boot_len (pa_cons (yv 0) pa_nil)) (pe_globE rfl k_LONGEST)) (ye_and (pe_cmpR op_zNotIn (yv 0) (pe_globE rfl k_BARRED) (by rfl)) (pe_one (pe_callB cr_all rfl B.all (by decide+kernel) (pa_cons (ye_lc (own:= [("sign",1)]) (g:=(gName 1)) (tt:=tYes) rfl sc_p_is_name.nd (j_str (yv 0)) (blkOk_by (N:=N_p_is_name) (sc:=defScope s_p_is_name) (by decide+kernel)) (fun _ _ _ _ _=>(pg_name (i:=1) sc_p_is_name.nd rfl (by first|exact Or.inl rfl|exact Or.inr rfl))) (fun _ _ _ _ _=>pts_nil) (fun _ _ _ _ _=>(pe_cmpR op_zIn (yv 1) (pe_globE rfl k_LETTERS) (by rfl)))) pa_nil)))))))
abbrev s_Rows_init:Stmt:=inClass (top 20) 0
theorem sc_Rows_init:FnScope N_Rows_init ["self","tracks","signs"] (defScope s_Rows_init):=⟨rfl,rfl,rfl,by decide+kernel,rfl,by decide+kernel,by decide+kernel⟩
theorem ok_Rows_init {f:Addr} {fd:FuncData} (B:Blt mg) (CF:∀x f,(x,f)∈fldN→Cls K (He.ga K x)∧NoAttr K (He.ga K x) f) (F:FunD K "__init__" "Rows.__init__" (defArgs s_Rows_init) (defBody s_Rows_init) (defScope s_Rows_init) [] [] f fd):FnOk P w K mg base (L2.CX P w) (1) f fd ["self","tracks","signs"] (sp_Rows_init K):=by
 refine F.ok sc_Rows_init (fun vs H Q E h=>len_Rows_init h) (fun cdv A outer s H vs Q E hr h=>⟨t_Rows_init K E,?_,pure_Rows_init h⟩)
 exact(pss_cons (ys_fld (cf1 (CF "Rows" "tracks" (by decide))) (yv 0) (pe_callTy cr_tupleP rfl B.tuple (by decide+kernel) (pa_cons (yv 1) pa_nil)) rfl)
  (pss_one (ys_fld (cf1 (CF "Rows" "signs" (by decide))) (yv 0) (pe_callTy cr_tuple rfl B.tuple (by decide+kernel) (pa_cons (yv 2) pa_nil)) rfl)))
abbrev s_p_read_rows:Stmt:=top 21
theorem sc_p_read_rows:FnScope N_p_read_rows ["text"] (defScope s_p_read_rows):=⟨rfl,rfl,rfl,by decide+kernel,rfl,by decide+kernel,by decide+kernel⟩
theorem ok_p_read_rows {f:Addr} {fd:FuncData} (B:Blt mg) (j2:Cal P w K mg base "lines_of" (1) ["text"] (sp_p_lines_of K)) (j3:Cal P w K mg base "is_name" (1) ["word"] (sp_p_is_name K)) (j4:OM P w K mg base "Rows" (1) ["self","tracks","signs"] (sp_Rows_init K)) (j1:Mk P w K mg base "BadSheet" (He.ga K "BadSheet") ["self","line"] (spI1 (He.ga K "BadSheet") "line" fmtOk)) (k_LINE_WORDS:∃u,mg "LINE_WORDS"=some u∧RelV (.int 2) u) (k_MOST_TRACKS:∃u,mg "MOST_TRACKS"=some u∧RelV (.int 3) u) (k_MOST_COLUMNS:∃u,mg "MOST_COLUMNS"=some u∧RelV (.int 1000) u) (F:FunD K "read_rows" "read_rows" (defArgs s_p_read_rows) (defBody s_p_read_rows) (defScope s_p_read_rows) [] [] f fd):FnOk P w K mg base (L2.CX P w) (3) f fd ["text"] (sp_p_read_rows K):=by
 refine F.ok sc_p_read_rows (fun vs H Q E h=>len_p_read_rows h) (fun cdv A outer s H vs Q E hr h=>⟨t_p_read_rows K E,?_,pure_p_read_rows h⟩)
 have po:=passes_of (X:=cxOf (L2.CX P w) P w K mg base N_p_read_rows "read_rows" (defScope s_p_read_rows) f cdv A outer s H E) rfl
 have tk:Takes (cxOf (L2.CX P w) P w K mg base N_p_read_rows "read_rows" (defScope s_p_read_rows) f cdv A outer s H E) (fun cls d _ H=>E cls d H):=takes_of rfl rfl rfl rfl
 exact(pss_cons (ps_set (i:=1) sc_p_read_rows.nd rfl (by first|exact Or.inl rfl|exact Or.inr rfl) (pe_lst pa_nil))
  (pss_cons (ps_set (i:=2) sc_p_read_rows.nd rfl (by first|exact Or.inl rfl|exact Or.inr rfl) (pe_lst pa_nil))
  (pss_cons (ys_for po rfl (j_enum rfl B.enumerate (ye_call j2 (hr.mono (by decide)) rfl (pa_cons (yv 0) pa_nil))) (pg_tup rfl (pgs_cons (pg_name (i:=3) sc_p_read_rows.nd rfl (by first|exact Or.inl rfl|exact Or.inr rfl)) (pgs_cons (pg_name (i:=4) sc_p_read_rows.nd rfl (by first|exact Or.inl rfl|exact Or.inr rfl)) pgs_nil))) (pss_cons (ps_set (i:=5) sc_p_read_rows.nd rfl (by first|exact Or.inl rfl|exact Or.inr rfl) (pe_bm PySem.F.plainAttrs_str PySem.F.slot_str_split PySem.F.type_str_split mt_zSplit (yv 4) (pa_cons pe_str pa_nil)))
  (pss_cons (ys_if (PW.pt (yt_or (yt_cmp op_zEq (yv 3) (pe_globE rfl k_MOST_TRACKS) (by rfl)) (yt_or (yt_cmp op_zNe (pe_callB cr_len rfl B.len boot_len (pa_cons (yv 5) pa_nil)) (pe_globE rfl k_LINE_WORDS) (by rfl)) (yt_or (yt_not (yt_val (ye_call j3 (hr.mono (by decide)) rfl (pa_cons (pe_ix ix_zIxL (yv 5) pe_int (fun _ _=>rfl)) pa_nil)))) (pw_or1 (yt_cmp op_zIn (pe_ix ix_zIxL (yv 5) pe_int (fun _ _=>rfl)) (yv 1) (by rfl))))))) (pss_one (ys_raise rfl tk (pm_mk j1 (hr.mono (by decide)) rfl (pa_cons (pe_op op_zAdd (yv 3) pe_int) pa_nil)))) pss_nil)
  (pss_cons (ps_set (i:=6) sc_p_read_rows.nd rfl (by first|exact Or.inl rfl|exact Or.inr rfl) (pe_ix ix_zIxL (yv 5) pe_int (fun _ _=>rfl)))
  (pss_cons (ys_if (PW.pt (yt_or (yt_not (yt_chain op_zLe op_zLe pe_int (pe_callB cr_len rfl B.len boot_len (pa_cons (yv 6) pa_nil)) (pe_globE rfl k_MOST_COLUMNS))) (pw_or1 (yt_not (yt_val (pe_callB cr_all rfl B.all (by decide+kernel) (pa_cons (ye_lc (own:= [("sign",7)]) (g:=(gName 7)) (tt:=tYes) rfl sc_p_read_rows.nd (j_str (yv 6)) (blkOk_by (N:=N_p_read_rows) (sc:=defScope s_p_read_rows) (by decide+kernel)) (fun _ _ _ _ _=>(pg_name (i:=7) sc_p_read_rows.nd rfl (by first|exact Or.inl rfl|exact Or.inr rfl))) (fun _ _ _ _ _=>pts_nil) (fun _ _ _ _ _=>(pe_cmpR op_zIn (yv 7) pe_str (by rfl)))) pa_nil))))))) (pss_one (ys_raise rfl tk (pm_mk j1 (hr.mono (by decide)) rfl (pa_cons (pe_op op_zAdd (yv 3) pe_int) pa_nil)))) pss_nil)
  (pss_cons (ys_if (PW.pt (yt_and (yt_cmp op_zGt (yv 3) pe_int (by rfl)) (pw_and1 (yt_cmp op_zNe (pe_callB cr_len rfl B.len boot_len (pa_cons (yv 6) pa_nil)) (pe_callB cr_len rfl B.len boot_len (pa_cons (pe_ix ix_zIxL (yv 2) pe_int (fun _ _=>rfl)) pa_nil)) (by rfl))))) (pss_one (ys_raise rfl tk (pm_mk j1 (hr.mono (by decide)) rfl (pa_cons (pe_op op_zAdd (yv 3) pe_int) pa_nil)))) pss_nil)
  (pss_cons (ps_expr (pe_bm PySem.F.plainAttrs_list PySem.F.slot_list_append PySem.F.type_list_append mt_zApp (yv 1) (pa_cons (pe_ix ix_zIxL (yv 5) pe_int (fun _ _=>rfl)) pa_nil)))
  (pss_one (ps_expr (pe_bm PySem.F.plainAttrs_list PySem.F.slot_list_append PySem.F.type_list_append mt_zApp (yv 2) (pa_cons (yv 6) pa_nil)))))))))))
  (pss_cons (ys_if (yt_cmp (op_zEqD hr.units) (yv 1) (pe_lst pa_nil) (by rfl)) (pss_one (ys_raise rfl tk (pm_mk j1 (hr.mono (by decide)) rfl (pa_cons pe_int pa_nil)))) pss_nil)
  (pss_one (ps_ret (ye_new j4 tk0 (hr.mono (by decide)) rfl (pa_cons (yv 1) (pa_cons (yv 2) pa_nil)))))))))
abbrev s_Sheet_init:Stmt:=inClass (top 22) 0
theorem sc_Sheet_init:FnScope N_Sheet_init ["self","text"] (defScope s_Sheet_init):=⟨rfl,rfl,rfl,by decide+kernel,rfl,by decide+kernel,by decide+kernel⟩
theorem ok_Sheet_init {f:Addr} {fd:FuncData} (B:Blt mg) (c_p_read_rows:Cal P w K mg base "read_rows" (3) ["text"] (sp_p_read_rows K)) (CF:∀x f,(x,f)∈fldN→Cls K (He.ga K x)∧NoAttr K (He.ga K x) f) (GC:∀x∈clsN,mg x=some (.ref (He.ga K x))) (F:FunD K "__init__" "Sheet.__init__" (defArgs s_Sheet_init) (defBody s_Sheet_init) (defScope s_Sheet_init) [] [] f fd):FnOk P w K mg base (L2.CX P w) (4) f fd ["self","text"] (sp_Sheet_init K):=by
 refine F.ok sc_Sheet_init (fun vs H Q E h=>len_Sheet_init h) (fun cdv A outer s H vs Q E hr h=>⟨t_Sheet_init K E,?_,pure_Sheet_init h⟩)
 have tk:Takes (cxOf (L2.CX P w) P w K mg base N_Sheet_init "Sheet.__init__" (defScope s_Sheet_init) f cdv A outer s H E) (fun cls d _ H=>E cls d H):=takes_of rfl rfl rfl rfl
 exact(pss_cons (ps_set (i:=2) sc_Sheet_init.nd rfl (by first|exact Or.inl rfl|exact Or.inr rfl) (ye_if (yt_val (pe_callB cr_isO rfl B.isinstance (by decide+kernel) (pa_cons (yv 1) (pa_cons (pe_glob rfl (GC "Rows" (by decide)) rfl) pa_nil)))) (yv 1) (ye_callS c_p_read_rows tk (hr.mono (by decide)) rfl (pa_cons (yv 1) pa_nil))))
  (pss_cons (ys_fld (cf1 (CF "Sheet" "tracks" (by decide))) (yv 0) (ye_fld (cf1 (CF "Rows" "tracks" (by decide))) (yv 2) rfl) rfl)
  (pss_cons (ys_fld (cf1 (CF "Sheet" "signs" (by decide))) (yv 0) (ye_fld (cf1 (CF "Rows" "signs" (by decide))) (yv 2) rfl) rfl)
  (pss_cons (ys_fld (cf1 (CF "Sheet" "row_of" (by decide))) (yv 0) (ye_dictZip rfl B.dict rfl B.zip (ye_fld (cf1 (CF "Rows" "tracks" (by decide))) (yv 2) rfl) (ye_fld (cf1 (CF "Rows" "signs" (by decide))) (yv 2) rfl)) rfl)
  (pss_one (ys_fld (cf1 (CF "Sheet" "text" (by decide))) (yv 0) (pe_bm PySem.F.plainAttrs_str PySem.F.slot_str_join PySem.F.type_str_join mt_zJoin pe_str (pa_cons (ye_lc (own:= [("track",3),("row",4)]) (g:=(gTup K 2 (gCons (gName 3) (gCons (gName 4) gNil)))) (tt:=tYes) rfl sc_Sheet_init.nd (j_zipT rfl B.zip (ye_fld (cf1 (CF "Rows" "tracks" (by decide))) (yv 2) rfl) (ye_fld (cf1 (CF "Rows" "signs" (by decide))) (yv 2) rfl)) (blkOk_by (N:=N_Sheet_init) (sc:=defScope s_Sheet_init) (by decide+kernel)) (fun _ _ _ _ _=>(pg_tup rfl (pgs_cons (pg_name (i:=3) sc_Sheet_init.nd rfl (by first|exact Or.inl rfl|exact Or.inr rfl)) (pgs_cons (pg_name (i:=4) sc_Sheet_init.nd rfl (by first|exact Or.inl rfl|exact Or.inr rfl)) pgs_nil)))) (fun _ _ _ _ _=>pts_nil) (fun _ _ _ _ _=>(ye_joined (PJ.cons (ye_fmt (yv 3)) (PJ.cons pe_str (PJ.cons (ye_fmt (yv 4)) PJ.nil)))))) pa_nil)) rfl))))))
end
section
variable {K:Kf} {vs:List V} {H:Hp} {Q:VK} {E:XK}
def sp_begun_pen (K:Kf):Sp:=fun vs H Q _=>∃(s:Addr) (ns:List Int),vs= [.ref s]∧SqL K H s (ns.map V.int)∧∀p c H',Ext H H'→PenAt H' p c 0→Q (.ref p) H'
theorem len_begun_pen (h:sp_begun_pen K vs H Q E):vs.length=1:=by
 obtain⟨_,_,rfl,_⟩:=h
 rfl
theorem merge_pen {c:Addr}:mergeK [] (penKvs c 0 0)=penKvs c 0 0:=by simp[mergeK,putK,penKvs,kc1,kc2,kc3]
def N_begun_pen:List Str:= ["_law_script"]
def t_begun_pen (K:Kf) (E:XK):TS:=
 (tRet (tDisp (((tC (.str "cells")),(tCB (zList K) (tCons (tSl (zSlL K) (yVar 0) tNoPart (tPart (tC (.int 63)))) tNil)))::(((tC (.str "turn")),(tC (.int 0)))::(((tC (.str "left")),(tC (.int 0)))::[])))))
theorem pure_begun_pen (h:sp_begun_pen K vs H Q E):t_begun_pen K E (dEnd Q) (start N_begun_pen vs) H:=by
 obtain⟨s,ns,rfl,hs,q⟩:=h
 intro p hp
 have e1:Ext H (upd H p (.dK [])):=Ext.new hp
 refine⟨_,rfl,_,e1.kp.sqL hs,fun r hr=>⟨_,.inl (SqL.of upd_same),fun l hl=> ?_⟩⟩
 have ec:cutV (ns.map V.int) none (some 63)=(ns.take 63).map V.int:=by
  unfold cutV
  rw[HT.sIx_none,show(63:Int)=((63:Nat):Int) from rfl,HT.sIx_nat,List.drop_zero,Nat.sub_zero,List.map_take,z8]
  by_cases hm:63≤ns.length
  ·rw[Nat.min_eq_left hm]
  ·rw[Nat.min_eq_right (by omega),List.take_of_length_le (by simp),List.take_of_length_le (by simp;omega)]
 have np:p≠r:=fun z=>by rw[←z,upd_same] at hr;cases hr
 have np2:p≠l:=fun z=>by rw[←z,upd_ne np,upd_same] at hl;cases hl
 refine⟨by rw[upd_ne np2,upd_ne np,upd_same],penKvs l 0 0,rfl,(show 3≤15 by decide),?_⟩
 rw[merge_pen]
 refine q p l _ (((e1.trans (Ext.new hr)).trans (Ext.new hl)).mut hp) ⟨0,0,ns.take 63,upd_same,?_,by decide,by decide⟩
 rw[upd_ne np2.symm,upd_same,ec]
def sp_pick (_:Kf):Sp:=fun vs H Q _=>∃(p c l:Addr) (n:Nat) (xs:List V),vs= [.ref p,.ref l]∧PenAt H p c n∧n<1152921504606846976∧H l=some (.lst xs)∧0<xs.length∧xs.length<1000000000∧
 ∀(v:V) (H':Hp),v∈xs→Kp H H'→PenAt H' p c (n+1)→Q v H'
theorem len_pick (h:sp_pick K vs H Q E):vs.length=2:=by
 obtain⟨_,_,_,_,_,rfl,_⟩:=h
 rfl
def N_pick:List Str:= ["_law_pen","_law_options"]
def t_pick (K:Kf) (E:XK):TS:=
 (tRet (tOp (zIxL K) (yVar 1) (yCall (sp_draw K) E0 (tCons (yVar 0) (tCons (tCB (zLen K) (tCons (yVar 1) tNil)) tNil)))))
theorem pure_pick (h:sp_pick K vs H Q E):t_pick K E (dEnd Q) (start N_pick vs) H:=by
 obtain⟨p,c,l,n,xs,rfl,hP,hn,hl,h0,h1,q⟩:=h
 refine⟨_,.inl (SqL.of hl),p,c,n,(xs.length:Nat),rfl,hP,hn,by omega,log_small (by omega),fun r H' r0 r1 k P'=> ?_⟩
 obtain⟨j,rfl⟩:=Int.eq_ofNat_of_zero_le r0
 have hj:j<xs.length:=by omega
 exact⟨xs,xs[j],.inl (SqL.of (k.lst hl)),atI_nat (z9 hj),q _ H' (List.getElem_mem hj) k P'⟩
theorem len_new_tracks (h:sp_new_tracks K vs H Q E):vs.length=2:=by
 obtain⟨_,_,_,_,rfl,_⟩:=h
 rfl
def N_new_tracks:List Str:= ["_law_pen","_law_most"]
def t_new_tracks (K:Kf) (E:XK):TS:=
 (tRet (yCall (sp_new_names K) E0 (tCons (yVar 0) (tCons (tOp zAdd (tC (.int 1)) (yCall (sp_draw K) E0 (tCons (yVar 0) (tCons (yVar 1) tNil)))) tNil))))
theorem pure_new_tracks (h:sp_new_tracks K vs H Q E):t_new_tracks K E (dEnd Q) (start N_new_tracks vs) H:=by
 obtain⟨p,c,n,m,rfl,m0,m1,hP,hn,q⟩:=h
 refine⟨p,c,n,m,rfl,hP,by omega,by omega,log_small (by omega),fun r H1 r0 r1 k1 P1=> ?_⟩
 obtain⟨j,rfl⟩:=Int.eq_ofNat_of_zero_le r0
 refine⟨p,c,n+1,1+j,by simp,P1,by omega,fun ys l H2 nd hm hlen k2 _ h2 P2=> ?_⟩
 exact q ys l H2 nd hm (by rw[hlen];omega) (by rw[hlen];omega) (k1.trans k2) h2 P2
end
section
variable {P:Program} {w:World} {K:Kf} {mg:Str→Option Value} {base:Heap}
abbrev s_begun_pen:Stmt:=top 36
theorem sc_begun_pen:FnScope N_begun_pen ["_law_script"] (defScope s_begun_pen):=⟨rfl,rfl,rfl,by decide+kernel,rfl,by decide+kernel,by decide+kernel⟩
theorem ok_begun_pen {f:Addr} {fd:FuncData} (B:Blt mg) (F:FunD K "_law_begun_pen" "_law_begun_pen" (defArgs s_begun_pen) (defBody s_begun_pen) (defScope s_begun_pen) [] [] f fd):FnOk P w K mg base (L2.CX P w) (1) f fd ["_law_script"] (sp_begun_pen K):=by
 refine F.ok sc_begun_pen (fun vs H Q E h=>len_begun_pen h) (fun cdv A outer s H vs Q E hr h=>⟨t_begun_pen K E,?_,pure_begun_pen h⟩)
 exact(pss_one (ps_ret (pe_disp (pps_cons pe_str (pe_callTy cr_list rfl B.list (by decide+kernel) (pa_cons (pe_slice sl_zL (yv 0) po_none (po_some pe_int)) pa_nil)) (pps_cons pe_str pe_int (pps_cons pe_str pe_int pps_nil))) (by rfl) (by rfl) (by simp) (by decide))))
abbrev s_draw:Stmt:=top 37
theorem sc_draw:FnScope N_draw ["_law_pen","_law_span"] (defScope s_draw):=⟨rfl,rfl,rfl,by decide+kernel,rfl,by decide+kernel,by decide+kernel⟩
theorem ok_draw {f:Addr} {fd:FuncData} (B:Blt mg) (F:FunD K "_law_draw" "_law_draw" (defArgs s_draw) (defBody s_draw) (defScope s_draw) [] [] f fd):FnOk P w K mg base (L2.CX P w) (1) f fd ["_law_pen","_law_span"] (sp_draw K):=by
 refine F.ok sc_draw (fun vs H Q E h=>len_draw h) (fun cdv A outer s H vs Q E hr h=>⟨t_draw K E,?_,pure_draw h⟩)
 have hu:=hu_of hr
 exact(pss_cons (ys_if (yt_cmp op_zGt (ye_dget hu (yv 0) pe_str (fun _ _=>rfl)) pe_int (by rfl)) (pss_cons (ps_set (i:=2) sc_draw.nd rfl (by first|exact Or.inl rfl|exact Or.inr rfl) (pe_op op_zMod (pe_callTy cr_int rfl B.int boot_int (pa_cons (ye_dget hu (yv 0) pe_str (fun _ _=>rfl)) pa_nil)) (yv 1)))
  (pss_cons (ys_dput hu (yv 0) pe_str (pe_op op_zDiv (ye_dget hu (yv 0) pe_str (fun _ _=>rfl)) (yv 1)) rfl)
  (pss_one (ps_ret (yv 2))))) pss_nil)
  (pss_cons (ps_set (i:=3) sc_draw.nd rfl (by first|exact Or.inl rfl|exact Or.inr rfl) (ye_dget hu (yv 0) pe_str (fun _ _=>rfl)))
  (pss_cons (ys_dput hu (yv 0) pe_str (pe_op op_zAdd (yv 3) pe_int) rfl)
  (pss_cons (ps_set (i:=4) sc_draw.nd rfl (by first|exact Or.inl rfl|exact Or.inr rfl) (pe_op op_zAdd (pe_op op_zMul pe_int (yv 3)) pe_int))
  (ys_cut (ys_if (yt_cmp (op_zNeD hr.units) (ye_dget hu (yv 0) pe_str (fun _ _=>rfl)) (pe_lst pa_nil) (by rfl)) (pss_one (ps_set (i:=4) sc_draw.nd rfl (by first|exact Or.inl rfl|exact Or.inr rfl) (pe_ix ix_zIxL (ye_dget hu (yv 0) pe_str (fun _ _=>rfl)) (pe_op op_zMod (pe_callTy cr_int rfl B.int boot_int (pa_cons (yv 3) pa_nil)) (pe_callB cr_len rfl B.len boot_len (pa_cons (ye_dget hu (yv 0) pe_str (fun _ _=>rfl)) pa_nil))) (fun _ _=>rfl)))) pss_nil)
  (pss_cons (ys_if (PW.pt (yt_and (yt_cmp op_zLt (yv 3) (pe_callB cr_len rfl B.len boot_len (pa_cons (ye_dget hu (yv 0) pe_str (fun _ _=>rfl)) pa_nil)) (by rfl)) (pw_and1 (yt_cmp op_zGe (pe_callB cr_abs rfl B.abs (by decide+kernel) (pa_cons (yv 4) pa_nil)) (pe_op op_zPow pe_int pe_int) (by rfl))))) (pss_cons (ys_dput hu (yv 0) pe_str (pe_op op_zDiv (pe_op op_zSub (pe_callB cr_abs rfl B.abs (by decide+kernel) (pa_cons (yv 4) pa_nil)) (pe_op op_zPow pe_int pe_int)) (yv 1)) rfl)
  (pss_one (ps_ret (pe_op op_zMod (pe_callTy cr_int rfl B.int boot_int (pa_cons (pe_op op_zSub (pe_callB cr_abs rfl B.abs (by decide+kernel) (pa_cons (yv 4) pa_nil)) (pe_op op_zPow pe_int pe_int)) pa_nil)) (yv 1))))) pss_nil)
  (pss_cons (ps_set (i:=5) sc_draw.nd rfl (by first|exact Or.inl rfl|exact Or.inr rfl) (pe_op op_zMul (pe_op op_zMod (pe_callTy cr_int rfl B.int boot_int (pa_cons (yv 4) pa_nil)) pe_int) pe_int))
  (pss_cons (ps_set (i:=5) sc_draw.nd rfl (by first|exact Or.inl rfl|exact Or.inr rfl) (pe_op op_zMod (pe_callTy cr_int rfl B.int boot_int (pa_cons (pe_op op_zAdd (pe_op op_zAdd (yv 5) (pe_op op_zMul (yv 3) (pe_op op_zAdd (pe_op op_zMul (yv 3) pe_int) pe_int))) pe_int) pa_nil)) pe_int))
  (pss_cons (ps_set (i:=5) sc_draw.nd rfl (by first|exact Or.inl rfl|exact Or.inr rfl) (pe_op op_zMod (pe_callTy cr_int rfl B.int boot_int (pa_cons (pe_op op_zMul (yv 5) (pe_op op_zAdd (yv 5) pe_int)) pa_nil)) pe_int))
  (pss_cons (ps_set (i:=5) sc_draw.nd rfl (by first|exact Or.inl rfl|exact Or.inr rfl) (pe_op op_zMod (pe_callTy cr_int rfl B.int boot_int (pa_cons (pe_op op_zAdd (pe_op op_zAdd (pe_op op_zMul (yv 5) (yv 5)) (pe_op op_zMul pe_int (yv 5))) (pe_op op_zMul pe_int (yv 3))) pa_nil)) pe_int))
  (pss_one (ps_ret (pe_op op_zMod (pe_callTy cr_int rfl B.int boot_int (pa_cons (pe_op op_zDiv (pe_op op_zMod (pe_callTy cr_int rfl B.int boot_int (pa_cons (pe_op op_zMul (yv 5) (pe_op op_zAdd (yv 5) pe_int)) pa_nil)) pe_int) pe_int) pa_nil)) (yv 1))))))))))))))
abbrev s_pick:Stmt:=top 38
theorem sc_pick:FnScope N_pick ["_law_pen","_law_options"] (defScope s_pick):=⟨rfl,rfl,rfl,by decide+kernel,rfl,by decide+kernel,by decide+kernel⟩
theorem ok_pick {f:Addr} {fd:FuncData} (B:Blt mg) (c_draw:Cal P w K mg base "_law_draw" (1) ["_law_pen","_law_span"] (sp_draw K)) (F:FunD K "_law_pick" "_law_pick" (defArgs s_pick) (defBody s_pick) (defScope s_pick) [] [] f fd):FnOk P w K mg base (L2.CX P w) (2) f fd ["_law_pen","_law_options"] (sp_pick K):=by
 refine F.ok sc_pick (fun vs H Q E h=>len_pick h) (fun cdv A outer s H vs Q E hr h=>⟨t_pick K E,?_,pure_pick h⟩)
 exact(pss_one (ps_ret (pe_ix ix_zIxL (yv 1) (ye_call c_draw (hr.mono (by decide)) rfl (pa_cons (yv 0) (pa_cons (pe_callB cr_len rfl B.len boot_len (pa_cons (yv 1) pa_nil)) pa_nil))) (fun _ _=>rfl))))
abbrev s_shuffled:Stmt:=top 39
theorem sc_shuffled:FnScope N_shuffled ["_law_pen","_law_items"] (defScope s_shuffled):=⟨rfl,rfl,rfl,by decide+kernel,rfl,by decide+kernel,by decide+kernel⟩
theorem ok_shuffled {f:Addr} {fd:FuncData} (B:Blt mg) (c_draw:Cal P w K mg base "_law_draw" (1) ["_law_pen","_law_span"] (sp_draw K)) (F:FunD K "_law_shuffled" "_law_shuffled" (defArgs s_shuffled) (defBody s_shuffled) (defScope s_shuffled) [] [] f fd):FnOk P w K mg base (L2.CX P w) (2) f fd ["_law_pen","_law_items"] (sp_shuffled K):=by
 refine F.ok sc_shuffled (fun vs H Q E h=>len_shuffled h) (fun cdv A outer s H vs Q E hr h=>⟨t_shuffled K E,?_,pure_shuffled h⟩)
 have po:=passes_of (X:=cxOf (L2.CX P w) P w K mg base N_shuffled "_law_shuffled" (defScope s_shuffled) f cdv A outer s H E) rfl
 exact(pss_cons (ys_par (ps_par (i:=2) (j:=3) (by rfl) sc_shuffled.nd rfl rfl (by decide) rfl rfl (PA.up (pa_cons (pe_callTy cr_list rfl B.list (by decide+kernel) (pa_cons (yv 1) pa_nil)) (pa_cons (pe_lst pa_nil) pa_nil))) (by rfl)))
  (pss_cons (ys_while po (yt_cmp (op_zNeD hr.units) (yv 2) (pe_lst pa_nil) (by rfl)) (pss_one (ps_expr (pe_bm PySem.F.plainAttrs_list PySem.F.slot_list_append PySem.F.type_list_append mt_zApp (yv 3) (pa_cons (pe_bm PySem.F.plainAttrs_list PySem.F.slot_list_pop PySem.F.type_list_pop mt_zPopAt (yv 2) (pa_cons (ye_call c_draw (hr.mono (by decide)) rfl (pa_cons (yv 0) (pa_cons (pe_callB cr_len rfl B.len boot_len (pa_cons (yv 2) pa_nil)) pa_nil))) pa_nil)) pa_nil)))))
  (pss_one (ps_ret (yv 3)))))
abbrev s_new_names:Stmt:=top 41
theorem sc_new_names:FnScope N_new_names ["_law_pen","_law_many"] (defScope s_new_names):=⟨rfl,rfl,rfl,by decide+kernel,rfl,by decide+kernel,by decide+kernel⟩
theorem ok_new_names {f:Addr} {fd:FuncData} (B:Blt mg) (c_shuffled:Cal P w K mg base "_law_shuffled" (2) ["_law_pen","_law_items"] (sp_shuffled K)) (F:FunD K "_law_new_names" "_law_new_names" (defArgs s_new_names) (defBody s_new_names) (defScope s_new_names) [] [] f fd):FnOk P w K mg base (L2.CX P w) (3) f fd ["_law_pen","_law_many"] (sp_new_names K):=by
 refine F.ok sc_new_names (fun vs H Q E h=>len_new_names h) (fun cdv A outer s H vs Q E hr h=>⟨t_new_names K E,?_,pure_new_names h⟩)
 exact(pss_cons (ps_set (i:=2) sc_new_names.nd rfl (by first|exact Or.inl rfl|exact Or.inr rfl) (pe_lst (pa_cons pe_str (pa_cons pe_str (pa_cons pe_str (pa_cons pe_str (pa_cons pe_str (pa_cons pe_str (pa_cons pe_str (pa_cons pe_str (pa_cons pe_str (pa_cons pe_str (pa_cons pe_str (pa_cons pe_str pa_nil))))))))))))))
  (pss_one (ps_ret (pe_slice sl_zL (ye_call c_shuffled (hr.mono (by decide)) rfl (pa_cons (yv 0) (pa_cons (yv 2) pa_nil))) po_none (po_some (yv 1))))))
abbrev s_new_tracks:Stmt:=top 42
theorem sc_new_tracks:FnScope N_new_tracks ["_law_pen","_law_most"] (defScope s_new_tracks):=⟨rfl,rfl,rfl,by decide+kernel,rfl,by decide+kernel,by decide+kernel⟩
theorem ok_new_tracks {f:Addr} {fd:FuncData} (B:Blt mg) (j2:Cal P w K mg base "_law_draw" (1) ["_law_pen","_law_span"] (sp_draw K)) (j1:Cal P w K mg base "_law_new_names" (3) ["_law_pen","_law_many"] (sp_new_names K)) (F:FunD K "_law_new_tracks" "_law_new_tracks" (defArgs s_new_tracks) (defBody s_new_tracks) (defScope s_new_tracks) [] [] f fd):FnOk P w K mg base (L2.CX P w) (4) f fd ["_law_pen","_law_most"] (sp_new_tracks K):=by
 refine F.ok sc_new_tracks (fun vs H Q E h=>len_new_tracks h) (fun cdv A outer s H vs Q E hr h=>⟨t_new_tracks K E,?_,pure_new_tracks h⟩)
 exact(pss_one (ps_ret (ye_call j1 (hr.mono (by decide)) rfl (pa_cons (yv 0) (pa_cons (pe_op op_zAdd pe_int (ye_call j2 (hr.mono (by decide)) rfl (pa_cons (yv 0) (pa_cons (yv 1) pa_nil)))) pa_nil)))))
end
theorem merge_sh {t c:Addr}:mergeK [] (shKvs t c)=shKvs t c:=by simp[mergeK,putK,shKvs,kt1]
section
variable {K:Kf} {vs:List V} {H:Hp} {Q:VK} {E:XK}
theorem bit_of {r:Int} (h0:0≤r) (h1:r<2):r=0∨r=1:=by omega
theorem len_new_sheet (h:sp_new_sheet K vs H Q E):vs.length=3:=by
 obtain⟨_,_,_,_,_,_,rfl,_⟩:=h
 rfl
def N_new_sheet:List Str:= ["_law_pen","_law_tracks","_law_many","_law_rows","_law_track","_law_bit","_law_row","_law_span","_law_k"]
def t_new_sheet (K:Kf) (E:XK):TS:=
 (tSeq (tAsg (tLst tNil) (gName 3))
    (tSeq (yFor (jLst K (yVar 1)) (gName 4) (tSeq (yPar3 5 6 7 (tCons (yCall (sp_draw K) E0 (tCons (yVar 0) (tCons (tC (.int 2)) tNil))) (tCons (tLst tNil) (tCons (tOp zAdd (tC (.int 2)) (yCall (sp_draw K) E0 (tCons (yVar 0) (tCons (tC (.int 3)) tNil)))) tNil))))
    (tSeq (yFor (jRng (yVar 2)) (gName 8) (tSeq (tAsg (yIfE (yTst (tOp zEq (yCall (sp_draw K) E0 (tCons (yVar 0) (tCons (yVar 7) tNil))) (tC (.int 0)))) (tOp zSub (tC (.int 1)) (yVar 5)) (yVar 5)) (gName 5))
    (tDrop (tBM K "list" zApp (yVar 6) (tCons (yVar 5) tNil)))))
    (tDrop (tBM K "list" zApp (yVar 3) (tCons (yVar 6) tNil))))))
    (tRet (tDisp (((tC (.str "tracks")),(tCB (zList K) (tCons (yVar 1) tNil)))::(((tC (.str "cols")),(yLc (jRng (yVar 2)) (gName 8) tYes (yLc (jLst K (yVar 3)) (gName 6) tYes (tOp (zIxL K) (yVar 6) (yVar 8)) [6]) [8]))::[]))))))
theorem pure_new_sheet (h:sp_new_sheet K vs H Q E):t_new_sheet K E (dEnd Q) (start N_new_sheet vs) H:=by
 obtain⟨p,c,l,n,m,ys,rfl,hP,hn,hl,hy,hm,q⟩:=h
 refine⟨z35 _,fun R nR=> ?_⟩
 have k0:Kp H (upd H R (.lst [])):=Kp.new nR
 refine⟨_,SqL.of (k0.lst hl),fun i σ G=>∃(rows:List Addr) (x4 x5 x6 x7 x8:Option V),σ= [some (.ref p),some (.ref l),some (.int (m:Int)),some (.ref R),x4,x5,x6,x7,x8]∧Kp H G∧G R=some (.lst (rows.map V.ref))∧rows.length=i∧
  (∀r∈rows,r≠R∧∃bs:List Int,G r=some (.lst (bs.map V.int))∧bs.length=m∧bit01 bs)∧PenAt G p c (n+i*(2+m)),
  ⟨[],_,_,_,_,_,rfl,k0,upd_same,rfl,(fun r hr=>by cases hr),by simpa using hP.new nR⟩,fun i σ G _ ⟨_,_,_,_,_,_,_,k,_⟩=>SqL.of (k.lst hl),?_,?_⟩
 ·rintro i x σ Gx G hi ⟨rows,x4,x5,x6,x7,x8,rfl,kG,gR,hlr,hrows,PG⟩ ⟨rfl,hx⟩
  rw[z8] at hi
  have hb:n+i*(2+m)+2+m+1<1152921504606846976:=by
   have:i*(2+m)≤3*1002:=Nat.mul_le_mul (by omega) (by omega)
   omega
  refine⟨p,c,_,2,rfl,PG,by omega,by decide,by decide,fun b0 G1 b00 b01 kb P1=> ?_⟩
  refine⟨z35 _,fun q0 nq=> ?_⟩
  refine⟨p,c,_,3,rfl,P1.new nq,by omega,by decide,by decide,fun s0 G2 s00 s01 ks P2=> ?_⟩
  have nq1:G q0=none:=kb.back nq
  have kq:Kp G G2:=(kb.trans (Kp.new nq)).trans ks
  have gq:G2 q0=some (.lst (([]:List Int).map V.int)):=ks.lst upd_same
  have nqR:q0≠R:=fun z=>by rw[z,gR] at nq1;cases nq1
  have kR:G2 R=some (.lst (rows.map V.ref)):=kq.lst gR
  refine⟨by omega,by omega,fun j σ G3=>∃(b:Int) (bs:List Int) (x8:Option V),σ= [some (.ref p),some (.ref l),some (.int (m:Int)),some (.ref R),some x,some (.int b),some (.ref q0),some (.int (2+s0)),x8]∧(b=0∨b=1)∧Kp G G3∧G3 q0=some (.lst (bs.map V.int))∧bs.length=j∧bit01 bs∧PenAt G3 p c (n+i*(2+m)+2+j),
   ⟨b0,[],_,rfl,bit_of b00 b01,kq,gq,rfl,(fun b hb=>by cases hb),P2⟩,fun _ _ _ _ _=>trivial,?_,?_⟩
  ·rintro j y σ G3 G4 hj ⟨b,bs,x8,rfl,hb01,k3,g3,hbl,hbs,P3⟩ ⟨rfl,rfl⟩
   have hj:j<m:=by
        have z:j<((m:Int)).toNat:=hj
        omega
   refine⟨p,c,_,2+s0,rfl,P3,by omega,by omega,by
        have e1:(2+s0).natAbs=(2+s0).toNat:=by omega
        have e2:((2+s0).toNat:Int)=2+s0:=by omega
        have:=log_small (n:=(2+s0).toNat) (by omega)
        rw[e2] at this
        exact this,fun r G5 r0 r1 k5 P5=> ?_⟩
   have go:∀b':Int,(b'=0∨b'=1)→(tDrop (tBM K "list" zApp (yVar 6) (tCons (yVar 5) tNil)))
    {(dEnd Q) with nx:=(fun σ G3=>∃(b:Int) (bs:List Int) (x8:Option V),σ= [some (.ref p),some (.ref l),some (.int (m:Int)),some (.ref R),some x,some (.int b),some (.ref q0),some (.int (2+s0)),x8]∧(b=0∨b=1)∧Kp G G3∧G3 q0=some (.lst (bs.map V.int))∧bs.length=j+1∧bit01 bs∧PenAt G3 p c (n+i*(2+m)+2+(j+1)))}
    [some (.ref p),some (.ref l),some (.int (m:Int)),some (.ref R),some x,some (.int b'),some (.ref q0),some (.int (2+s0)),some (.int (0+(j:Nat)))] G5:=fun b' hb'=>by
        have g5:=k5.lst g3
        refine⟨tyL g5,_,g5,?_,b',bs++ [b'],_,rfl,hb',(k3.trans k5).mut nq1,?_,by simp[hbl],fun z hz=> ?_,?_⟩
        ·rw[z8,sizeLine_eq]
         omega
        ·rw[upd_same,z16]
         rfl
        ·rcases z36.mp hz with zz|zz
         ·exact hbs _ zz
         ·have:z=b':=by simpa using zz
          rw[this]
          exact hb'
        ·obtain⟨ne1,ne2⟩:=PG.ne nq1
         exact P5.mut ne1 ne2
   refine brD (fun _=> ?_) fun _=> ?_
   ·exact go (1-b) (by omega)
   ·exact go b hb01
  ·rintro σ G3 ⟨b,bs,x8,rfl,hb01,k3,g3,hbl,hbs,P3⟩
   have hbl:bs.length=m:=by
        have z:bs.length=((m:Int)).toNat:=hbl
        omega
   have g3R:G3 R=some (.lst (rows.map V.ref)):=k3.lst gR
   refine⟨tyL g3R,_,g3R,?_,rows++ [q0],_,_,_,_,_,rfl,(kG.trans k3).mut nR,?_,by simp[hlr],fun r hr=> ?_,?_⟩
   ·rw[z8,sizeLine_eq]
    omega
   ·rw[upd_same,z16]
    rfl
   ·rcases z36.mp hr with z|z
    ·obtain⟨a1,bs',a2,a3,a4⟩:=hrows r z
     exact⟨a1,bs',by rw[upd_ne a1];exact k3.lst a2,a3,a4⟩
    ·have:r=q0:=by simpa using z
     subst this
     exact⟨nqR,bs,by rw[upd_ne nqR];exact g3,hbl,hbs⟩
   ·obtain⟨ne1,ne2⟩:=hP.ne nR
    refine(P3.mut ne1 ne2).mono ?_
    have z:((m:Int)).toNat=m:=by omega
    rw[z,Nat.succ_mul]
    omega
 ·rintro σ G ⟨rows,x4,x5,x6,x7,x8,rfl,kG,gR,hlr,hrows,PG⟩
  rw[z8] at hlr PG
  intro d nd
  have e1:Ext G (upd G d (.dK [])):=Ext.new nd
  refine⟨_,.inl (SqL.of (e1 _ _ (kG.lst hl))),fun t nt=> ?_⟩
  have e2:Ext G (upd (upd G d (.dK [])) t (.lst (ys.map V.str))):=e1.trans (Ext.new nt)
  have gt:(upd (upd G d (.dK [])) t (.lst (ys.map V.str))) t=some (.lst (ys.map V.str)):=upd_same
  have gd:(upd (upd G d (.dK [])) t (.lst (ys.map V.str))) d=some (.dK []):=(Ext.new nt) _ _ upd_same
  generalize upd (upd G d (.dK [])) t (.lst (ys.map V.str))=G1 at e2 gt gd⊢
  refine⟨by omega,by omega,fun D nD=>⟨fun i acc G'=>∃cols:List Addr,acc=cols.map V.ref∧cols.length=i∧Ext G1 G'∧G' D=some (.lst acc)∧∀q∈cols,q≠D∧∃bs:List Int,G' q=some (.lst (bs.map V.int))∧bs.length=ys.length∧bit01 bs,
   ⟨[],rfl,rfl,Ext.new nD,upd_same,fun q hq=>by cases hq⟩,fun i acc G' hi ⟨cols,c1,c2,c3,c4,c5⟩=> ?_,?_,?_⟩⟩
  ·refine⟨trivial,c4,?_⟩
   rw[c1,z8,sizeLine_eq]
   have z:i≤((m:Int)).toNat:=hi
   omega
  ·rintro i x acc Gx G' hi ⟨cols,c1,c2,c3,c4,c5⟩ ⟨rfl,rfl⟩
   have him:i<m:=by
        have z:i<((m:Int)).toNat:=hi
        omega
   refine⟨rfl,brT rfl ?_⟩
   have gR':G' R=some (.lst (rows.map V.ref)):=c3 _ _ (e2 _ _ gR)
   refine⟨_,SqL.of gR',fun D2 nD2=>⟨fun j acc2 G2=>∃bs:List Int,acc2=bs.map V.int∧bs.length=j∧bit01 bs∧Ext G' G2∧G2 D2=some (.lst acc2),⟨[],rfl,rfl,(fun b hb=>by cases hb),Ext.new nD2,upd_same⟩,fun j acc2 G2 hj ⟨bs,b1,b2,b3,b4,b5⟩=> ?_,?_,?_⟩⟩
   ·refine⟨SqL.of (b4 _ _ gR'),b5,?_⟩
    rw[b1,z8,sizeLine_eq]
    rw[z8] at hj
    omega
   ·rintro j y acc2 Gx G2 hj ⟨bs,b1,b2,b3,b4,b5⟩ ⟨rfl,hy'⟩
    rw[z10] at hy'
    obtain⟨r,hr,rfl⟩:=z30.mp hy'
    obtain⟨_,rb,r1,r2,r3⟩:=hrows r (z11 hr)
    have hlt:i<rb.length:=by omega
    have gr2:G2 r=some (.lst (rb.map V.int)):=b4 _ _ (c3 _ _ (e2 _ _ r1))
    have hix:atI (rb.map V.int) (0+((i:Nat):Int))=some (.int rb[i]):=by
     rw[Int.zero_add]
     exact atI_nat (by rw[z10,z9 hlt];rfl)
    refine⟨rfl,brT rfl ⟨_,.int rb[i],.inl (SqL.of gr2),hix,b5,bs++ [rb[i]],by rw[b1,z16];rfl,by simp[b2],fun z hz=> ?_,b4.mut nD2,upd_same⟩⟩
    rcases z36.mp hz with zz|zz
    ·exact b3 _ zz
    ·rw[show z=rb[i] by simpa using zz]
     exact r3 _ (List.getElem_mem hlt)
   ·rintro acc2 G2 ⟨bs,b1,b2,b3,b4,b5⟩
    rw[z8] at b2
    have nDD:D≠D2:=fun z=>by rw[←z,c4] at nD2;cases nD2
    refine⟨b4 _ _ c4,cols++ [D2],by rw[c1,z16];rfl,by simp[c2],(c3.trans b4).mut nD,upd_same,fun r hr=> ?_⟩
    rcases z36.mp hr with z|z
    ·obtain⟨a1,bs',a2,a3,a4⟩:=c5 r z
     exact⟨a1,bs',by rw[upd_ne a1];exact b4 _ _ a2,a3,a4⟩
    ·have:r=D2:=by simpa using z
     subst this
     exact⟨nDD.symm,bs,by rw[upd_ne nDD.symm,b5,b1],by omega,b3⟩
  ·rintro acc G' ⟨cols,c1,c2,c3,c4,c5⟩
   have c2:cols.length=m:=by
        have z:cols.length=((m:Int)).toNat:=c2
        omega
   refine⟨c3 _ _ gd,shKvs t D,rfl,(show 2≤15 by decide),?_⟩
   rw[merge_sh]
   have eGd:∀b o,b≠d→G' b=some o→(upd G' d (.dK (shKvs t D))) b=some o:=fun b o hb hx=>by rw[upd_ne hb];exact hx
   have nHd:H d=none:=kG.back nd
   have ntd:t≠d:=fun z=>by rw[z,gd] at gt;cases gt
   have nDd:D≠d:=fun z=>by rw[z] at nD;rw[gd] at nD;cases nD
   have kpF:Kp H (upd G' d (.dK (shKvs t D))):=(kG.trans ((e2.trans c3).kp)).mut nHd
   refine q d _ kpF nHd ⟨t,D,cols,upd_same,eGd _ _ ntd (c3 _ _ gt),eGd _ _ nDd (by rw[c4,c1]),c2,fun r hr=> ?_⟩ ?_
   ·obtain⟨_,bs,a2,a3,a4⟩:=c5 r hr
    refine⟨bs,eGd _ _ (fun z=> ?_) a2,a3,a4⟩
    have:=c3 _ _ gd
    rw[←z,a2] at this
    cases this
   ·obtain⟨ne1,ne2⟩:=PG.ne nd
    refine((PG.ext (e2.trans c3)).mut ne1 ne2).mono ?_
    have:ys.length*(2+m)≤3*(2+m):=Nat.mul_le_mul_right _ hy
    omega
end
theorem join_ones (cs:List Nat):Txt.join "" (cs.map fun c=>(⟨#[c]⟩:Str))=⟨cs.toArray⟩:=by
 rw[show Txt.join "" (cs.map fun c=>(⟨#[c]⟩:Str))=Str.join "" _ from StrLaws.glued_eq_join _ _]
 have key:∀l:List Nat,(Str.join "" (l.map fun c=>(⟨#[c]⟩:Str))).cps.toList=l:=by
  intro l
  induction l with
  |nil=>rfl
  |cons a r ih=>
   cases r with
   |nil=>rfl
   |cons b r=>
    show(((⟨#[a]⟩:Str).cps++("":Str).cps)++(Str.join "" ((b::r).map fun c=>(⟨#[c]⟩:Str))).cps).toList=_
    rw[Array.toList_append,Array.toList_append,ih]
    rfl
 have e:=key cs
 generalize Str.join "" (cs.map fun c=>(⟨#[c]⟩:Str))=z at e⊢
 obtain⟨za⟩:=z
 rw[←e]
section
variable {K:Kf} {vs:List V} {H:Hp} {Q:VK} {E:XK}
def sp_cells_text (_:Kf):Sp:=fun vs H Q _=>∃(d:Addr) (k:Nat) (ys:List Str) (cols:List (List Int)),vs= [.ref d,.int (k:Int)]∧SheetV H d ys cols∧ColOk ys.length cols∧k<ys.length∧cols.length≤1000000∧∀H':Hp,Ext H H'→Q (.str (rowTxt cols k)) H'
theorem len_cells_text (h:sp_cells_text K vs H Q E):vs.length=2:=by
 obtain⟨_,_,_,_,rfl,_⟩:=h
 rfl
def N_cells_text:List Str:= ["_law_sheet","_law_number","_law_col"]
def t_cells_text (K:Kf) (E:XK):TS:=
 (tRet (tBM K "str" (zJoin K) (tC (.str "")) (tCons (yLc (jLst K (yDGet (yVar 0) (tC (.str "cols")))) (gName 2) tYes (tOp (zIxL K) (tC (.str ".#")) (tOp (zIxL K) (yVar 2) (yVar 1))) [2]) tNil)))
theorem pure_cells_text (h:sp_cells_text K vs H Q E):t_cells_text K E (dEnd Q) (start N_cells_text vs) H:=by
 obtain⟨d,k,ys,cols,rfl,⟨kvs,t,c,cas,h1,vt,vc,h2,h3,h4,h5⟩,hc,hk,hm,q⟩:=h
 refine⟨tyS,_,.ref c,.inl h1,vc,_,SqL.of h3,fun D nD=>⟨fun i acc G=>acc=((cols.take i).map fun bs=>V.str ⟨#[cellC (bs.getD k 0)]⟩)∧Ext H G∧G D=some (.lst acc),
  ⟨by simp,Ext.new nD,upd_same⟩,fun i acc G hi ⟨c1,c3,c4⟩=> ?_,?_,?_⟩⟩
 ·refine⟨SqL.of (c3 _ _ h3),c4,?_⟩
  rw[c1,z8,z22,sizeLine_eq]
  omega
 ·rintro i x acc Gx G hi ⟨c1,c3,c4⟩ ⟨rfl,hx⟩
  rw[z10] at hx
  obtain⟨col,hcol,rfl⟩:=z30.mp hx
  obtain⟨bs,b0,b1⟩:=h5 i col hcol
  obtain⟨b2,b3⟩:=hc bs (z11 b0)
  have hlt:k<bs.length:=by omega
  have hi2:i<cols.length:=(List.getElem?_eq_some_iff.mp b0).1
  have eb:cols[i]=bs:=z33 ((z9 hi2).symm.trans b0)
  have ek:bs.getD k 0=bs[k]:=by simp[z14,hlt]
  refine⟨rfl,brT rfl ⟨_,.int bs[k],.inl (SqL.of (c3 _ _ b1)),atI_nat (by rw[z10,z9 hlt];rfl),by decide,?_⟩⟩
  have go:G D=some (.lst acc)∧acc++ [V.str ⟨#[cellC bs[k]]⟩]=((cols.take (i+1)).map fun bs=>V.str ⟨#[cellC (bs.getD k 0)]⟩)∧Ext H (upd G D (.lst (acc++ [V.str ⟨#[cellC bs[k]]⟩])))∧(upd G D (.lst (acc++ [V.str ⟨#[cellC bs[k]]⟩]))) D=some (.lst (acc++ [V.str ⟨#[cellC bs[k]]⟩])):=
   ⟨c4,by rw[List.take_succ_eq_append_getElem hi2,z16,c1,eb,List.map_cons,List.map_nil,ek],c3.mut nD,upd_same⟩
  rcases b3 _ (List.getElem_mem hlt) with e|e
  ·exact⟨46,by rw[e];rfl,by rw[e] at go;exact go⟩
  ·exact⟨35,by rw[e];rfl,by rw[e] at go;exact go⟩
 ·rintro acc G ⟨c1,c3,c4⟩
  rw[z8,h4,List.take_length] at c1
  have hb:=sum_len_le (b:=1) (xs:=(cols.map fun bs=>cellC (bs.getD k 0)).map fun c=>(⟨#[c]⟩:Str)) fun x hx=>by
   obtain⟨z,_,rfl⟩:=z37.mp hx
   exact z34 1
  have he:(("":Str)).length=0:=rfl
  refine⟨(cols.map fun bs=>cellC (bs.getD k 0)).map fun c=>(⟨#[c]⟩:Str),.inl (SqL.of (by rw[c4,c1,List.map_map,List.map_map];rfl)),?_,?_⟩
  ·rw[he]
   rw[z8,z8] at hb⊢
   omega
  ·rw[join_ones]
   exact q G c3
theorem len_sheet_text (h:sp_sheet_text K vs H Q E):vs.length=1:=by
 obtain⟨_,_,_,rfl,_⟩:=h
 rfl
theorem zip_rows {ys:List Str} {cols:List (List Int)}:List.zipWith lineOf ys (rowsOf cols ys.length)=(List.range ys.length).map fun k=>lineOf (ys.getD k "") (rowTxt cols k):=by
 apply List.ext_getElem
 ·simp[rowsOf]
 ·intro i h1 h2
  have hi:i<ys.length:=by simp at h2;exact h2
  simp[rowsOf,hi]
def N_sheet_text:List Str:= ["_law_sheet","_law_lines","_law_k"]
def t_sheet_text (K:Kf) (E:XK):TS:=
 (tSeq (tAsg (yLc (jRng (tCB (zLen K) (tCons (yDGet (yVar 0) (tC (.str "tracks"))) tNil))) (gName 2) tYes (tOp zAdd (tOp zAdd (tOp (zIxL K) (yDGet (yVar 0) (tC (.str "tracks"))) (yVar 2)) (tC (.str " "))) (yCall (sp_cells_text K) E0 (tCons (yVar 0) (tCons (yVar 2) tNil)))) [2]) (gName 1))
    (tRet (tBM K "str" (zJoin K) (tC (.str "\n")) (tCons (yVar 1) tNil))))
theorem pure_sheet_text (h:sp_sheet_text K vs H Q E):t_sheet_text K E (dEnd Q) (start N_sheet_text vs) H:=by
 obtain⟨d,ys,cols,rfl,hS,hc,hn,y3,hm,q⟩:=h
 obtain⟨kvs,t,c,cas,h1,vt,vc,h2,h3,h4⟩:=id hS
 refine⟨_,.ref t,.inl h1,vt,_,.inl (SqL.of h2),by rw[z8];omega,by rw[z8];omega,fun D nD=>⟨fun i acc G=>acc=((List.range i).map fun k=>V.str (lineOf (ys.getD k "") (rowTxt cols k)))∧Ext H G∧G D=some (.lst acc),
  ⟨by simp,Ext.new nD,upd_same⟩,fun i acc G hi ⟨c1,c3,c4⟩=> ?_,?_,?_⟩⟩
 ·refine⟨trivial,c4,?_⟩
  have hi:i≤(((ys.map V.str).length:Nat):Int).toNat:=hi
  rw[z8] at hi
  rw[c1,z8,List.length_range,sizeLine_eq]
  omega
 ·rintro i x acc Gx G hi ⟨c1,c3,c4⟩ ⟨rfl,rfl⟩
  have hi:i<(((ys.map V.str).length:Nat):Int).toNat:=hi
  rw[z8] at hi
  have hlt:i<ys.length:=by omega
  have ei:(0+((i:Nat):Int))=((i:Nat):Int):=Int.zero_add _
  have hyl:=hn _ (List.getElem_mem hlt)
  have e1:((" ":Str)).length=1:=rfl
  have el:lineOf (ys.getD i "") (rowTxt cols i)=ys[i]++ " " ++rowTxt cols i:=by
   rw[lineOf_eq]
   simp[z14,hlt]
  refine⟨rfl,brT rfl ⟨_,.ref t,.inl (c3 _ _ h1),vt,_,.str ys[i],.inl (SqL.of (c3 _ _ h2)),by rw[ei];exact atI_nat (by rw[z10,z9 hlt];rfl),by rw[sizeLine_eq];omega,d,i,ys,cols,by show [V.ref d,V.int (0+((i:Nat):Int))]=_;rw[ei],hS.ext c3,hc,hlt,hm,fun G' eG=> ?_⟩⟩
  refine⟨by rw[sizeLine_eq,z15,rowTxt_len];omega,eG _ _ c4,by rw[List.range_succ,z16,List.map_cons,List.map_nil,c1,el],(c3.trans eG).mut nD,upd_same⟩
 ·rintro acc G ⟨c1,c3,c4⟩
  have en:(((ys.map V.str).length:Nat):Int).toNat=ys.length:=by rw[z8];omega
  rw[en] at c1
  have hb:=sum_len_le (b:=1000013) (xs:=(List.range ys.length).map fun k=>lineOf (ys.getD k "") (rowTxt cols k)) fun x hx=>by
   obtain⟨k,hk,rfl⟩:=z37.mp hx
   have hk:=List.mem_range.mp hk
   have e1:((" ":Str)).length=1:=rfl
   have:=hn _ (List.getElem_mem hk)
   rw[lineOf_eq,z15,z15,rowTxt_len]
   simp[z14,hk]
   omega
  rw[z8,List.length_range] at hb
  have z:ys.length*1000013≤3*1000013:=Nat.mul_le_mul (by omega) (by omega)
  have e:(("\n":Str)).length=1:=rfl
  refine⟨tyS,(List.range ys.length).map fun k=>lineOf (ys.getD k "") (rowTxt cols k),.inl (SqL.of (by rw[c4,c1,List.map_map];rfl)),?_,?_⟩
  ·rw[e,z8,List.length_range]
   omega
  ·have z:=q G c3
   unfold txtOf at z
   rw[zip_rows] at z
   exact z
end
section
variable {P:Program} {w:World} {K:Kf} {mg:Str→Option Value} {base:Heap}
abbrev s_new_sheet:Stmt:=top 43
theorem sc_new_sheet:FnScope N_new_sheet ["_law_pen","_law_tracks","_law_many"] (defScope s_new_sheet):=⟨rfl,rfl,rfl,by decide+kernel,rfl,by decide+kernel,by decide+kernel⟩
theorem ok_new_sheet {f:Addr} {fd:FuncData} (B:Blt mg) (c_draw:Cal P w K mg base "_law_draw" (1) ["_law_pen","_law_span"] (sp_draw K)) (F:FunD K "_law_new_sheet" "_law_new_sheet" (defArgs s_new_sheet) (defBody s_new_sheet) (defScope s_new_sheet) [] [] f fd):FnOk P w K mg base (L2.CX P w) (2) f fd ["_law_pen","_law_tracks","_law_many"] (sp_new_sheet K):=by
 refine F.ok sc_new_sheet (fun vs H Q E h=>len_new_sheet h) (fun cdv A outer s H vs Q E hr h=>⟨t_new_sheet K E,?_,pure_new_sheet h⟩)
 have po:=passes_of (X:=cxOf (L2.CX P w) P w K mg base N_new_sheet "_law_new_sheet" (defScope s_new_sheet) f cdv A outer s H E) rfl
 exact(pss_cons (ps_set (i:=3) sc_new_sheet.nd rfl (by first|exact Or.inl rfl|exact Or.inr rfl) (pe_lst pa_nil))
  (pss_cons (ys_for po rfl (j_lst (yv 1)) (pg_name (i:=4) sc_new_sheet.nd rfl (by first|exact Or.inl rfl|exact Or.inr rfl)) (pss_cons (ys_par3 (ps_par3 (i:=5) (j:=6) (l:=7) (by rfl) sc_new_sheet.nd rfl rfl rfl (by decide) (by decide) (by decide) rfl rfl rfl (PA.up (pa_cons (ye_call c_draw (hr.mono (by decide)) rfl (pa_cons (yv 0) (pa_cons pe_int pa_nil))) (pa_cons (pe_lst pa_nil) (pa_cons (pe_op op_zAdd pe_int (ye_call c_draw (hr.mono (by decide)) rfl (pa_cons (yv 0) (pa_cons pe_int pa_nil)))) pa_nil)))) (by rfl)))
  (pss_cons (ys_for po rfl (j_rng rfl B.range (yv 2)) (pg_name (i:=8) sc_new_sheet.nd rfl (by first|exact Or.inl rfl|exact Or.inr rfl)) (pss_cons (ps_set (i:=5) sc_new_sheet.nd rfl (by first|exact Or.inl rfl|exact Or.inr rfl) (ye_if (yt_cmp op_zEq (ye_call c_draw (hr.mono (by decide)) rfl (pa_cons (yv 0) (pa_cons (yv 7) pa_nil))) pe_int (by rfl)) (pe_op op_zSub pe_int (yv 5)) (yv 5)))
  (pss_one (ps_expr (pe_bm PySem.F.plainAttrs_list PySem.F.slot_list_append PySem.F.type_list_append mt_zApp (yv 6) (pa_cons (yv 5) pa_nil))))))
  (pss_one (ps_expr (pe_bm PySem.F.plainAttrs_list PySem.F.slot_list_append PySem.F.type_list_append mt_zApp (yv 3) (pa_cons (yv 6) pa_nil)))))))
  (pss_one (ps_ret (pe_disp (pps_cons pe_str (pe_callTy cr_list rfl B.list (by decide+kernel) (pa_cons (yv 1) pa_nil)) (pps_cons pe_str (ye_lc (own:= [("_law_k",8)]) (g:=(gName 8)) (tt:=tYes) rfl sc_new_sheet.nd (j_rng rfl B.range (yv 2)) (blkOk_by (N:=N_new_sheet) (sc:=defScope s_new_sheet) (by decide+kernel)) (fun _ _ _ _ _=>(pg_name (i:=8) sc_new_sheet.nd rfl (by first|exact Or.inl rfl|exact Or.inr rfl))) (fun _ _ _ _ _=>pts_nil) (fun _ _ _ _ _=>(ye_lc (own:= [("_law_row",6)]) (g:=(gName 6)) (tt:=tYes) rfl sc_new_sheet.nd (j_lst (yv 3)) (blkOk_in (N:=N_new_sheet) (sc:=defScope s_new_sheet) rfl rfl (by decide+kernel)) (fun _ _ _ _ _=>(pg_name (i:=6) sc_new_sheet.nd rfl (by first|exact Or.inl rfl|exact Or.inr rfl))) (fun _ _ _ _ _=>pts_nil) (fun _ _ _ _ _=>(pe_ix ix_zIxL (yv 6) (yv 8) (fun _ _=>rfl)))))) pps_nil)) (by rfl) (by rfl) (by simp) (by decide))))))
abbrev s_cells_text:Stmt:=top 44
theorem sc_cells_text:FnScope N_cells_text ["_law_sheet","_law_number"] (defScope s_cells_text):=⟨rfl,rfl,rfl,by decide+kernel,rfl,by decide+kernel,by decide+kernel⟩
theorem ok_cells_text {f:Addr} {fd:FuncData} (B:Blt mg) (F:FunD K "_law_cells_text" "_law_cells_text" (defArgs s_cells_text) (defBody s_cells_text) (defScope s_cells_text) [] [] f fd):FnOk P w K mg base (L2.CX P w) (1) f fd ["_law_sheet","_law_number"] (sp_cells_text K):=by
 refine F.ok sc_cells_text (fun vs H Q E h=>len_cells_text h) (fun cdv A outer s H vs Q E hr h=>⟨t_cells_text K E,?_,pure_cells_text h⟩)
 have hu:=hu_of hr
 exact(pss_one (ps_ret (pe_bm PySem.F.plainAttrs_str PySem.F.slot_str_join PySem.F.type_str_join mt_zJoin pe_str (pa_cons (ye_lc (own:= [("_law_col",2)]) (g:=(gName 2)) (tt:=tYes) rfl sc_cells_text.nd (j_lst (ye_dget hu (yv 0) pe_str (fun _ _=>rfl))) (blkOk_by (N:=N_cells_text) (sc:=defScope s_cells_text) (by decide+kernel)) (fun _ _ _ _ _=>(pg_name (i:=2) sc_cells_text.nd rfl (by first|exact Or.inl rfl|exact Or.inr rfl))) (fun _ _ _ _ _=>pts_nil) (fun _ _ _ _ _=>(pe_ix ix_zIxL pe_str (pe_ix ix_zIxL (yv 2) (yv 1) (fun _ _=>rfl)) (fun _ _=>rfl)))) pa_nil))))
abbrev s_sheet_text:Stmt:=top 45
theorem sc_sheet_text:FnScope N_sheet_text ["_law_sheet"] (defScope s_sheet_text):=⟨rfl,rfl,rfl,by decide+kernel,rfl,by decide+kernel,by decide+kernel⟩
theorem ok_sheet_text {f:Addr} {fd:FuncData} (B:Blt mg) (c_cells_text:Cal P w K mg base "_law_cells_text" (1) ["_law_sheet","_law_number"] (sp_cells_text K)) (F:FunD K "_law_sheet_text" "_law_sheet_text" (defArgs s_sheet_text) (defBody s_sheet_text) (defScope s_sheet_text) [] [] f fd):FnOk P w K mg base (L2.CX P w) (2) f fd ["_law_sheet"] (sp_sheet_text K):=by
 refine F.ok sc_sheet_text (fun vs H Q E h=>len_sheet_text h) (fun cdv A outer s H vs Q E hr h=>⟨t_sheet_text K E,?_,pure_sheet_text h⟩)
 have hu:=hu_of hr
 exact(pss_cons (ys_setLc (i:=1) (own:= [("_law_k",2)]) (g:=(gName 2)) (tt:=tYes) rfl sc_sheet_text.nd rfl rfl (sw_true rfl rfl rfl (by decide+kernel)) (j_rng rfl B.range (pe_callB cr_len rfl B.len boot_len (pa_cons (ye_dget hu (yv 0) pe_str (fun _ _=>rfl)) pa_nil))) (blkOk_by (N:=N_sheet_text) (sc:=defScope s_sheet_text) (by decide+kernel)) (fun _ _ _ _ _=>(pg_name (i:=2) sc_sheet_text.nd rfl (by first|exact Or.inl rfl|exact Or.inr rfl))) (fun _ _ _ _ _=>pts_nil) (fun _ _ _ _ _=>(pe_op op_zAdd (pe_op op_zAdd (pe_ix ix_zIxL (ye_dget hu (yv 0) pe_str (fun _ _=>rfl)) (yv 2) (fun _ _=>rfl)) pe_str) (ye_call c_cells_text (hr.mono (by decide)) rfl (pa_cons (yv 0) (pa_cons (yv 2) pa_nil))))))
  (pss_one (ps_ret (pe_bm PySem.F.plainAttrs_str PySem.F.slot_str_join PySem.F.type_str_join mt_zJoin pe_str (pa_cons (yv 1) pa_nil)))))
end
theorem val_zip:∀{ns:List Str} {xs:List V} {i:Nat} {n:Str} {v:V},ns.Nodup→ns[i]?=some n→xs[i]?=some v→valV (zipK ns xs) (Sum.inr n)=some v
 |[],_,_,_,_,_,h,_=>by simp at h
 |_::_,[],_,_,_,_,_,h=>by simp at h
 |a::ns,x::xs,0,n,v,nd,h1,h2=>by
  have e1:a=n:=by simpa using h1
  have e2:x=v:=by simpa using h2
  subst e1 e2
  exact valV_pos rfl
 |a::ns,x::xs,i+1,n,v,nd,h1,h2=>by
  have h1:ns[i]?=some n:=by simpa using h1
  have h2:xs[i]?=some v:=by simpa using h2
  have hne:a≠n:=fun z=>(List.nodup_cons.mp nd).1 (z▸z11 h1)
  show valV ((Sum.inr a,x)::zipK ns xs) _=_
  rw[valV_neg (fun z=>hne (Sum.inr.inj z))]
  exact val_zip (List.nodup_cons.mp nd).2 h1 h2
section
variable {K:Kf} {vs:List V} {H:Hp} {Q:VK} {E:XK}
def sp_Sheet_len (K:Kf):Sp:=fun vs H Q _=>∃(a:Addr) (ns ss:List Str) (s:Str),vs= [.ref a]∧SheetAt K H a ns ss∧ss[0]?=some s∧s.length≤1000000∧Q (.int s.length) H
theorem len_Sheet_len (h:sp_Sheet_len K vs H Q E):vs.length=1:=by
 obtain⟨_,_,_,_,rfl,_⟩:=h
 rfl
def N_Sheet_len:List Str:= ["self"]
def t_Sheet_len (K:Kf) (E:XK):TS:=
 (tRet (tCB (zLen K) (tCons (tOp (zIxL K) (yFld (isC K ["Sheet"]) (yVar 0) "signs") (tC (.int 0))) tNil)))
theorem pure_Sheet_len (h:sp_Sheet_len K vs H Q E):t_Sheet_len K E (dEnd Q) (start N_Sheet_len vs) H:=by
 obtain⟨a,ns,ss,s,rfl,⟨dx,t1,t2,d,h1,h2,h3,h4⟩,hs,hl,q⟩:=h
 refine⟨_,dx,_,.ref t2,h1,rfl,rfl,_,.str s,.inr (SqT.of h3),atI_nat (by rw[z10,hs];rfl),by rw[sizeLine_eq];omega,q⟩
theorem sign_eq {c:Nat}:decide ((⟨#[c]⟩:Str)= "#")=decide (c=35):=by
 have:((⟨#[c]⟩:Str)= "#")↔c=35:=by
  constructor
  ·intro z
   have z:(⟨#[c]⟩:Str)=⟨#[35]⟩:=z
   injection z with z
   simpa using z
  ·rintro rfl
   rfl
 exact decide_eq_decide.mpr this
end
section
variable {P:Program} {w:World} {K:Kf} {mg:Str→Option Value} {base:Heap}
abbrev s_Sheet_len:Stmt:=inClass (top 22) 2
theorem sc_Sheet_len:FnScope N_Sheet_len ["self"] (defScope s_Sheet_len):=⟨rfl,rfl,rfl,by decide+kernel,rfl,by decide+kernel,by decide+kernel⟩
theorem ok_Sheet_len {f:Addr} {fd:FuncData} (B:Blt mg) (CF:∀x f,(x,f)∈fldN→Cls K (He.ga K x)∧NoAttr K (He.ga K x) f) (F:FunD K "__len__" "Sheet.__len__" (defArgs s_Sheet_len) (defBody s_Sheet_len) (defScope s_Sheet_len) [] [] f fd):FnOk P w K mg base (L2.CX P w) (1) f fd ["self"] (sp_Sheet_len K):=by
 refine F.ok sc_Sheet_len (fun vs H Q E h=>len_Sheet_len h) (fun cdv A outer s H vs Q E hr h=>⟨t_Sheet_len K E,?_,pure_Sheet_len h⟩)
 exact(pss_one (ps_ret (pe_callB cr_len rfl B.len boot_len (pa_cons (pe_ix ix_zIxL (ye_fld (cf1 (CF "Sheet" "signs" (by decide))) (yv 0) rfl) pe_int (fun _ _=>rfl)) pa_nil))))
end
theorem lc_core {i:Nat} {te:TE} {σ:L2.St} {H:Hp} {Q:VK} {G:Hp→Prop} {xs ys:List V} (hG:∀H',Ext H H'→G H') (hl:xs.length<sizeLine) (hw:∀x,wipe ((wipe σ [i]).set i (some x)) [i]=wipe σ [i]) (hy:ys.length=xs.length)
 (hf:∀(H':Hp) (j:Nat) (x y:V) (Q':VK),Ext H H'→xs[j]?=some x→ys[j]?=some y→(∀H'',Ext H' H''→Q' y H'')→te ((wipe σ [i]).set i (some x)) H' Q')
 (hq:∀D H',H D=none→Ext H H'→H' D=some (.lst ys)→Q (.ref D) H'):∀D,H D=none→∃Pv:Nat→List V→Hp→Prop,Pv 0 [] (upd H D (.lst []))∧(∀k acc H,k≤xs.length→Pv k acc H→G H∧H D=some (.lst acc)∧acc.length<sizeLine)∧
 (∀k x acc H H',k<xs.length→Pv k acc H→YAt xs k H x H'→gName i x (wipe σ [i]) H' fun σ2 H2=>wipe σ2 [i]=wipe σ [i]∧tYes σ2 H2 fun b H3=>
  yBr b (te σ2 H3 fun y H4=>H4 D=some (.lst acc)∧Pv (k+1) (acc++ [y]) (upd H4 D (.lst (acc++ [y])))) (Pv (k+1) acc H3))∧∀acc H,Pv xs.length acc H→Q (.ref D) H:=by
 intro D nD
 refine⟨fun k acc H'=>acc=ys.take k∧Ext H H'∧H' D=some (.lst acc),⟨by simp,Ext.new nD,upd_same⟩,fun k acc H' hk ⟨c1,c2,c3⟩=>⟨hG H' c2,c3,?_⟩,fun k x acc H1 H2 hk ⟨c1,c2,c3⟩ y=> ?_,fun acc H' ⟨c1,c2,c3⟩=> ?_⟩
 ·rw[c1,z22]
  omega
 ·obtain⟨rfl,hx⟩:=y
  have hy1:k<ys.length:=by omega
  have ey:ys[k]?=some ys[k]:=z9 hy1
  refine⟨hw _,brT rfl (hf H2 k x ys[k] _ c2 hx ey fun H3 e3=>⟨e3 _ _ c3,?_,(c2.trans e3).mut nD,upd_same⟩)⟩
  rw[c1,List.take_succ_eq_append_getElem hy1]
 ·refine hq D H' nD c2 ?_
  rw[c3,c1,←hy,List.take_length]
theorem cutV_to {xs:List V} {k:Nat} (h:k≤xs.length):cutV xs none (some ((k:Nat):Int))=xs.take k:=by
 unfold cutV
 rw[HT.sIx_nat,HT.sIx_none,List.drop_zero,Nat.sub_zero,Nat.min_eq_left h]
section
variable {K:Kf} {vs:List V} {H:Hp} {Q:VK} {E:XK}
def sp_p_check_tracks (K:Kf):Sp:=fun vs H Q E=>∃(p:Addr) (xs:List Str),vs= [.ref p]∧SeqO H p (xs.map V.str)∧(∀x∈xs,x.length<16777216)∧(∀H,SqT K H (He.ga K "BARRED") (BARRED.map V.str))∧
 (∀i,wrongAt 0 [] xs=some i→∀(d:Addr) (H':Hp),Ext H H'→H d=none→H' d=some (.xd [("index",.int (i:Nat))])→E (.ref (He.ga K "BadTracks")) (some d) H')∧
 (wrongAt 0 [] xs=none→∀H',Ext H H'→Q .non H')
theorem len_p_check_tracks (h:sp_p_check_tracks K vs H Q E):vs.length=1:=by
 obtain⟨_,_,rfl,_⟩:=h
 rfl
def N_p_check_tracks:List Str:= ["tracks","at","name"]
def t_p_check_tracks (K:Kf) (E:XK):TS:=
 (tSeq (yFor (jOr (jEnum K (yVar 0)) (jEnumT K (yVar 0))) (gTup K 2 (gCons (gName 1) (gCons (gName 2) gNil))) (yIf (yOr (yTst (tOp zEq (yVar 1) (tC (.int 3)))) (yOr (yNot (yTst (yCall (sp_p_is_name K) E0 (tCons (yVar 2) tNil)))) (yTst (tOp (zIn K false) (yVar 2) (yOr2 (tSl (zSlL K) (yVar 0) tNoPart (tPart (yVar 1))) (tSl (zSlT K) (yVar 0) tNoPart (tPart (yVar 1)))))))) (yRaise (yMkR (He.ga K "BadTracks") (spI1 (He.ga K "BadTracks") "index" fmtOk) (tCons (yVar 1) tNil)) (fun cls d _ H=>E cls d H)) tNext))
    (yIf (yTst (tOp zEq (tCB (zLen K) (tCons (yVar 0) tNil)) (tC (.int 0)))) (yRaise (yMkR (He.ga K "BadTracks") (spI1 (He.ga K "BadTracks") "index" fmtOk) (tCons (tC (.int 0)) tNil)) (fun cls d _ H=>E cls d H)) tNext))
theorem small_fmt {i:Nat} (h:i≤3):fmtOk (.int (i:Nat)):=by
 have:∀i<4,fmtOk (.int ((i:Nat):Int)):=by
  intro i hi
  show(((i:Nat):Int)).natAbs.log2<1920
  have h2:((i:Nat):Int).natAbs=i:=rfl
  rw[h2]
  have h3:i.log2≤i:=by
   rcases Nat.eq_zero_or_pos i with z|z
   ·rw[z]
    decide
   ·exact Nat.le_of_lt (z24 (Nat.log2_lt (by omega)|>.mpr (Nat.lt_two_pow_self)) (z34 _))
  omega
 exact this i (by omega)
theorem pure_p_check_tracks (h:sp_p_check_tracks K vs H Q E):t_p_check_tracks K E (dEnd Q) (start N_p_check_tracks vs) H:=by
 obtain⟨p,xs,rfl,hp,hl,hB,qE,qQ⟩:=h
 have key:∃Pv:Nat→L2.St→Hp→Prop,Pv 0 [some (.ref p),none,none] H∧(∀i σ H',i≤xs.length→Pv i σ H'→SeqO H' p (xs.map V.str)∧(Ext H H'∧∃x1 x2,σ= [some (.ref p),x1,x2])∧i≤3∧wrongAt i (xs.take i) (xs.drop i)=wrongAt 0 [] xs)∧
  (∀i H' x1 x2,SeqO H' p (xs.map V.str)→Ext H H'→i≤3→wrongAt i (xs.take i) (xs.drop i)=wrongAt 0 [] xs→Pv i [some (.ref p),x1,x2] H'):=by
  refine⟨fun i σ H'=>SeqO H' p (xs.map V.str)∧(Ext H H'∧∃x1 x2,σ= [some (.ref p),x1,x2])∧i≤3∧wrongAt i (xs.take i) (xs.drop i)=wrongAt 0 [] xs,⟨hp,⟨Ext.refl H,_,_,rfl⟩,by omega,rfl⟩,fun i σ H' _ h=>h,fun i H' x1 x2 a b c d=>⟨a,⟨b,_,_,rfl⟩,c,d⟩⟩
 obtain⟨Pv,p0,pG,pI⟩:=key
 have turn:∀(i:Nat) (x:V) (T:Addr) (σ:L2.St) (H1 H2:Hp),i<xs.length→Pv i σ H1→H1 T=none→H2=upd H1 T (.tup [.int (i:Nat),x])→(xs.map V.str)[i]?=some x→∀(D:Ends),D.rt=Q→D.nx=Pv (i+1)→D.ct=Pv (i+1)→
  gTup K 2 (gCons (gName 1) (gCons (gName 2) gNil)) (.ref T) σ H2 fun σ2 H2=>(yIf (yOr (yTst (tOp zEq (yVar 1) (tC (.int 3)))) (yOr (yNot (yTst (yCall (sp_p_is_name K) E0 (tCons (yVar 2) tNil)))) (yTst (tOp (zIn K false) (yVar 2) (yOr2 (tSl (zSlL K) (yVar 0) tNoPart (tPart (yVar 1))) (tSl (zSlT K) (yVar 0) tNoPart (tPart (yVar 1)))))))) (yRaise (yMkR (He.ga K "BadTracks") (spI1 (He.ga K "BadTracks") "index" fmtOk) (tCons (yVar 1) tNil)) (fun cls d _ H=>E cls d H)) tNext) D σ2 H2:=by
  rintro i x T σ H1 H2 hi pv nT rfl hx D rfl dn dc
  obtain⟨hp1,⟨e1,x1,x2,rfl⟩,i3,hw⟩:=pG i σ H1 (Nat.le_of_lt hi) pv
  rw[z10] at hx
  obtain⟨n,hn,rfl⟩:=z30.mp hx
  have hn':xs[i]=n:=z33 ((z9 hi).symm.trans hn)
  have hd:xs.drop i=n::xs.drop (i+1):=by rw[List.drop_eq_getElem_cons hi,hn']
  have ht:xs.take (i+1)=xs.take i++ [n]:=by rw[List.take_succ_eq_append_getElem hi,hn']
  rw[hd] at hw
  have e2:Ext H1 (upd H1 T (.tup [.int (i:Nat),.str n])):=Ext.new nT
  have bad:(i=3∨nameOk n=false∨n∈xs.take i)→∀H3,Ext H1 H3→yRaise (yMkR (He.ga K "BadTracks") (spI1 (He.ga K "BadTracks") "index" fmtOk) (tCons (yVar 1) tNil)) (fun cls d _ H=>E cls d H) D [some (.ref p),some (.int (i:Nat)),some (.str n)] H3:=fun hb H3 e3=>by
   have hw2:wrongAt 0 [] xs=some i:=by rw[←hw];exact if_pos hb
   exact⟨(show 1≤1000 by decide),mkR1 (small_fmt i3) fun d hd=>qE i hw2 d _ ((e1.trans e3).trans (Ext.new hd)) ((e1.trans e3).back hd) upd_same⟩
  refine⟨T,_,rfl,SqT.of upd_same,rfl,_,_,rfl,_,_,rfl,rfl,?_⟩
  refine brD (fun h3=> ?_) fun h3=> ?_
  ·have z:((i:Nat):Int)=3:=by simpa using h3
   exact brT rfl (bad (.inl (by omega)) _ e2)
  ·have h3:i≠3:=fun z=>h3 (by rw[z];rfl)
   refine⟨n,rfl,hl n (z11 hn),hB,fun H3 e3=> ?_⟩
   have e13:=e2.trans e3
   refine br (fun h4=> ?_) fun h4=> ?_
   ·exact brT rfl (bad (.inr (.inl (by simpa using h4))) _ e13)
   ·have h4:nameOk n=true:=by simpa using h4
    have hs:=hp1.ext e13
    have go:∀(r:Addr) (H4:Hp),Ext H3 H4→SeqO H4 r ((xs.take i).map V.str)→yBr (inV (.str n) ((xs.take i).map V.str)) (yRaise (yMkR (He.ga K "BadTracks") (spI1 (He.ga K "BadTracks") "index" fmtOk) (tCons (yVar 1) tNil)) (fun cls d _ H=>E cls d H) D [some (.ref p),some (.int (i:Nat)),some (.str n)] H4) (D.nx [some (.ref p),some (.int (i:Nat)),some (.str n)] H4):=fun r H4 e4 hr=>by
     rw[inV_str]
     refine brD (fun h5=>bad (.inr (.inr h5)) _ (e13.trans e4)) fun h5=> ?_
     rw[dn]
     refine pI (i+1) H4 _ _ (hs.ext e4) ((e1.trans e13).trans e4) (by omega) ?_
     rw[←hw,ht]
     exact(if_neg (by rintro(z|z|z)
                      ·exact h3 z
                      ·rw[h4] at z;cases z
                      ·exact h5 z)).symm
    have ec:=cutV_to (xs:=xs.map V.str) (k:=i) (by rw[z8];omega)
    rw[←List.map_take] at ec
    rcases hs with hs|hs
    ·refine .inl ⟨_,rfl,_,SqL.of hs,fun r nr=>⟨_,.inl (SqL.of upd_same),rfl,by rw[ec];exact flat_strs,?_⟩⟩
     rw[ec]
     exact go r _ (Ext.new nr) (.inl upd_same)
    ·refine .inr ⟨_,rfl,_,SqT.of hs,fun hz=> ?_,fun _ r nr=>⟨_,.inr (SqT.of upd_same),rfl,by rw[ec];exact flat_strs,?_⟩⟩
     ·obtain⟨_,hz⟩:=hz
      rw[HT.sIx_nat,z8] at hz
      omega
     ·rw[ec]
      exact go r _ (Ext.new nr) (.inr upd_same)
 have fin:∀σ H',Pv (xs.map V.str).length σ H'→(yIf (yTst (tOp zEq (tCB (zLen K) (tCons (yVar 0) tNil)) (tC (.int 0)))) (yRaise (yMkR (He.ga K "BadTracks") (spI1 (He.ga K "BadTracks") "index" fmtOk) (tCons (tC (.int 0)) tNil)) (fun cls d _ H=>E cls d H)) tNext) (dEnd Q) σ H':=by
  intro σ H' pv
  rw[z8] at pv
  obtain⟨hp1,⟨e1,x1,x2,rfl⟩,i3,hw⟩:=pG _ σ H' (z34 _) pv
  rw[List.drop_length,List.take_length] at hw
  have hw:(if xs.length=0 then some 0 else none)=wrongAt 0 [] xs:=hw
  refine⟨_,hp1.len,brD (fun h0=> ?_) fun h0=> ?_⟩
  ·have h0:xs.length=0:=by simpa using h0
   rw[if_pos h0] at hw
   exact⟨(show 1≤1000 by decide),mkR1 (small_fmt (z35 3)) fun d hd=>qE 0 hw.symm d _ (e1.trans (Ext.new hd)) (e1.back hd) upd_same⟩
  ·have h0:xs.length≠0:=fun z=>h0 (by rw[z8,z];rfl)
   rw[if_neg h0] at hw
   exact qQ hw.symm H' e1
 have gS:∀i σ H',i≤(xs.map V.str).length→Pv i σ H'→SeqO H' p (xs.map V.str):=fun i σ H' hi pv=>(pG i σ H' (by rw[z8] at hi;exact hi) pv).1
 rcases hp with hp|hp
 ·refine .inl ⟨_,SqL.of hp,Pv,p0,fun i σ H' hi pv=> ?_,fun i x σ H1 H2 hi pv y=> ?_,fin⟩
  ·rcases gS i σ H' hi pv with z|z
   ·exact SqL.of z
   ·exact absurd ((pG i σ H' (by rw[z8] at hi;exact hi) pv).2.1.1 _ _ hp) (by rw[z];intro z;cases z)
  ·obtain⟨T,u,v,rfl,nT,rfl,eu,ev⟩:=y
   cases eu
   exact turn i v T σ H1 _ (by rw[z8] at hi;exact hi) pv nT rfl ev _ rfl rfl rfl
 ·refine .inr ⟨_,SqT.of hp,Pv,p0,fun i σ H' hi pv=> ?_,fun i x σ H1 H2 hi pv y=> ?_,fin⟩
  ·rcases gS i σ H' hi pv with z|z
   ·exact absurd ((pG i σ H' (by rw[z8] at hi;exact hi) pv).2.1.1 _ _ hp) (by rw[z];intro z;cases z)
   ·exact SqT.of z
  ·obtain⟨T,u,v,rfl,nT,rfl,eu,ev⟩:=y
   cases eu
   exact turn i v T σ H1 _ (by rw[z8] at hi;exact hi) pv nT rfl ev _ rfl rfl rfl
end
theorem splt_ne (x y:Str):Txt.split x y≠ []:=by
 unfold Txt.split
 split
 ·simp
 ·split
  ·simp
  ·rw[StrLaws.partsBetween_eq]
   cases Builtin.Str.occurrences x y 0 x.length (x.length+1) with
   |nil=>simp[StrLaws.partsFrom]
   |cons a r=>simp[StrLaws.partsFrom]
theorem at0 {x:V} {r:List V}:atI (x::r) 0=some x:=atI_nat (j:=0) rfl
theorem at2 {x y z:V} {r:List V}:atI (x::y::z::r) 2=some z:=atI_nat (j:=2) rfl
section
variable {K:Kf} {H H1 H':Hp} {a t w:Addr} {trs ws:List Str} {ex:RX} {s:PSt}
theorem RdAt.neL {b:Addr} {xs:List V} (r:RdAt K H a t w trs ws ex s) (h:H b=some (.lst xs)):b≠a:=fun z=>by
 obtain⟨dx,h1,_⟩:=r
 rw[z,h1] at h
 cases h
theorem TreeAt.extB {v:V} {u:Tree} (h:TreeAt H v u) (r:RdAt K H a t w trs ws ex s) (e:ExtB a H H'):TreeAt H' v u:=h.keep fun p xs q=>e p _ (r.ne q) q
theorem err_raise {E:XK} {i:Nat} (h:ErrW K a H E i) (hi:i≤16777216):(1≤1000∧∀x,H x=none→spI1 (He.ga K "BadSaying") "index" fmtOk [.ref x,.int (i:Nat)] (upd H x (exo x (He.ga K "BadSaying") none)) (exW (He.ga K "BadSaying") (fun cls d H'=>E cls d H') H x) E0):=
 ⟨by decide,mkR1 (log_1920 (n:=i) (by omega)) fun d hd=>h d _ (ExtB.new hd) hd upd_same⟩
end
section
variable {K:Kf} {vs:List V} {H:Hp} {Q:VK} {E:XK} {N:Nat}
theorem wd_some {ws:List Str} {i:Nat} (h:i<ws.length):(ws.map V.str)[i]?=some (.str (wd ws i)):=by
 unfold wd
 rw[z14,z10,z9 h]
 rfl
theorem wd_none {ws:List Str} {i:Nat} (h: ¬i<ws.length):wd ws i= "":=by
 unfold wd
 rw[z14,z25 (by omega)]
 rfl
end
theorem splt_len {t:Str}:(Txt.split t " ").length≤t.length+1:=by
 have key:∀{xs:List Str},xs≠ []→xs.length≤(Str.join " " xs).length+1:=by
  intro xs
  induction xs with
  |nil=>intro h;exact absurd rfl h
  |cons a r ih=>
   intro _
   cases r with
   |nil=>simp
   |cons b r=>
    have:=ih (by simp)
    show(b::r).length+1≤(a++ " " ++Str.join " " (b::r)).length+1
    rw[z15,z15]
    have h1:(" ":Str).length=1:=by decide
    omega
 have q:=key (splt_ne t " ")
 rw[StrLaws.join_split] at q
 exact q
theorem zTuple_seq {K:Kf} {H:Hp} {p:Addr} {xs:List V} {Q:VK} (h:SeqO H p xs) (q:∀t H',Ext H H'→H' t=some (.tup xs)→Q (.ref t) H'):zTuple K [.ref p] H Q:=by
 rcases h with h|h
 ·exact⟨_,.inl ⟨SqL.of h,fun l nl=>q l _ (Ext.new nl) upd_same⟩⟩
 ·exact⟨_,.inr ⟨SqT.of h,q p H (Ext.refl H) h⟩⟩
theorem yVarAt {i:Nat} {σ:L2.St} {H:Hp} {v:V} {Q:VK} (h:σ[i]?=some (some v)) (q:Q v H):yVar i σ H Q:=by
 show(match σ[i]? with|some (some v)=>Q v H|_=>False)
 rw[h]
 exact q
section
variable {K:Kf} {vs:List V} {H:Hp} {Q:VK} {E:XK} {N:Nat}
theorem pick_str {xs:List Str} {v:V} (h:v∈xs.map V.str):∃x∈xs,v= .str x:=by
 obtain⟨x,hx,rfl⟩:=z37.mp h
 exact⟨x,hx,rfl⟩
end
section
variable {K:Kf} {vs:List V} {H:Hp} {Q:VK} {E:XK}
theorem cutV_1 {x:V} {r:List V}:cutV (x::r) (some 1) none=r:=by
 unfold cutV
 rw[show(1:Int)=((1:Nat):Int) from rfl,HT.sIx_nat,HT.sIx_none]
 simp
end
section
variable {K:Kf} {vs:List V} {H:Hp} {Q:VK} {E:XK} {N:Nat}
theorem sumlen2 (a b:Str):(([a,b]:List Str).map (·.length)).sum=a.length+b.length:=by simp
end
def wrapT (x:Str):Str:= "( " ++x++ " )"
theorem wrapT_len (x:Str):(wrapT x).length=x.length+4:=by
 unfold wrapT
 rw[z15,z15]
 have h1:("( ":Str).length=2:=by decide+kernel
 have h2:(" )":Str).length=2:=by decide+kernel
 omega
theorem cutV_1f {x:V} {r:List V}:cutV (x::r) (some 1) none=r:=by
 unfold cutV
 rw[HT.sIx_none,show(1:Int)=((1:Nat):Int) from rfl,HT.sIx_nat]
 have:min 1 (x::r).length=1:=by simp
 rw[this]
 show(List.take ((x::r).length-1) r)=r
 exact List.take_of_length_le (by simp)
theorem sl_not {x:V} {r:List V}: ¬(HT.sIx (x::r).length 0 (some 1)=0∧HT.sIx (x::r).length (x::r).length none=(x::r).length):=fun z=>by
 have z:=z.1
 rw[show(1:Int)=((1:Nat):Int) from rfl,HT.sIx_nat] at z
 simp at z
theorem eqvL {xs ys:List Str}:PyData.eqv (.list ((xs.map V.str).map dataV)) (.list ((ys.map V.str).map dataV))=decide (xs=ys):=by
 rw[List.map_map,List.map_map]
 exact eqvAllS
theorem idx_str {l:List Str} {x:Str} (h:x∈l):l[l.idxOf x]?=some x∧∀m,m<l.idxOf x→l[m]?≠some x:=by
 have hl:=z20 h
 refine⟨by rw[z9 hl,List.getElem_idxOf hl],fun m hm z=> ?_⟩
 have h2:=List.not_of_lt_findIdx (p:=(· ==x)) (xs:=l) (i:=m) hm
 have e:l[m]'(by omega)=x:=(List.getElem?_eq_some_iff.mp z).2
 rw[e,beq_self_eq_true] at h2
 cases h2
theorem lc_sl {i j:Nat} {te:TE} {σ:L2.St} {H:Hp} {Q:VK} {K:Kf} {a:Addr} {x:V} {xs ys:List V} (hv:σ[j]?=some (some (.ref a))) (ha:SqT K H a (x::xs)) (hl:xs.length<sizeLine) (hw:∀x,wipe ((wipe σ [i]).set i (some x)) [i]=wipe σ [i]) (hy:ys.length=xs.length)
 (hf:∀(H':Hp) (k:Nat) (x y:V) (Q':VK),Ext H H'→xs[k]?=some x→ys[k]?=some y→(∀H'',Ext H' H''→Q' y H'')→te ((wipe σ [i]).set i (some x)) H' Q')
 (hq:∀D H',Ext H H'→H D=none→H' D=some (.lst ys)→Q (.ref D) H'):yLc (jTup K (tSl (zSlT K) (yVar j) (tPart (tC (.int 1))) tNoPart)) (gName i) tYes te [i] σ H Q:=by
 dsimp only[yLc,jTup,tSl]
 refine yVarAt hv ?_
 refine⟨_,rfl,_,ha,fun z=>absurd z sl_not,fun _ p3 n3=> ?_⟩
 rw[cutV_1f]
 have e2:Ext H (upd H p3 (.tup xs)):=Ext.new n3
 have h3:(upd H p3 (.tup xs)) p3=some (.tup xs):=upd_same
 generalize upd H p3 (.tup xs)=H2 at e2 h3⊢
 exact⟨xs,SqT.of h3,lc_core (G:=fun H=>SqT K H p3 xs) (fun G e=>SqT.of (e _ _ h3)) hl hw hy (fun H' k x y Q' e hx hy' hq'=>hf H' k x y Q' (e2.trans e) hx hy' hq') fun D H' nD eD hD=>hq D H' (e2.trans eD) (e2.back nD) hD⟩
section
variable {K:Kf} {vs:List V} {H:Hp} {Q:VK} {E:XK}
def sp_p_check_place (K:Kf):Sp:=fun vs H Q E=>∃(a p:Addr) (ns ss:List Str) (s0 tr:Str) (k:Int),vs= [.ref a,.ref p]∧SheetAt K H a ns ss∧SqT K H p [.str tr,.int k]∧ss[0]?=some s0∧s0.length≤1000000∧tr.length≤1000000∧
 (tr∉ns→∀(d:Addr) (H':Hp),Ext H H'→H d=none→H' d=some (.xd [("name",.str tr)])→E (.ref (He.ga K "NoTrack")) (some d) H')∧
 (tr∈ns→¬(0≤k∧k<(s0.length:Nat))→∀(d:Addr) (H':Hp),Ext H H'→H d=none→H' d=some (.xd [("column",.int k)])→E (.ref (He.ga K "NoColumn")) (some d) H')∧
 (tr∈ns→0≤k→k<(s0.length:Nat)→Q .non H)
theorem len_p_check_place (h:sp_p_check_place K vs H Q E):vs.length=2:=by
 obtain⟨_,_,_,_,_,_,_,rfl,_⟩:=h
 rfl
def N_p_check_place:List Str:= ["sheet","place","track","column"]
def t_p_check_place (K:Kf) (E:XK):TS:=
 (tSeq (tAsg (yVar 1) (gTup K 2 (gCons (gName 2) (gCons (gName 3) gNil))))
    (tSeq (yIf (yTst (tOp (zIn K true) (yVar 2) (yFld (isC K ["Sheet"]) (yVar 0) "tracks"))) (yRaise (yMkR (He.ga K "NoTrack") (spI1 (He.ga K "NoTrack") "name" fmtOk) (tCons (yVar 2) tNil)) (fun cls d _ H=>E cls d H)) tNext)
    (yIf (yNot (yTst (yChain zLe zLt (tC (.int 0)) (yVar 3) (tCB (zLen K) (tCons (tOp (zIxL K) (yFld (isC K ["Sheet"]) (yVar 0) "signs") (tC (.int 0))) tNil))))) (yRaise (yMkR (He.ga K "NoColumn") (spI1 (He.ga K "NoColumn") "column" anyOk) (tCons (yVar 3) tNil)) (fun cls d _ H=>E cls d H)) tNext)))
theorem pure_p_check_place (h:sp_p_check_place K vs H Q E):t_p_check_place K E (dEnd Q) (start N_p_check_place vs) H:=by
 obtain⟨a,p,ns,ss,s0,tr,k,rfl,⟨dx,t1,t2,d,h1,h2,h3,h4⟩,hp,hs0,hl,htr,qT,qC,q⟩:=h
 refine⟨p,_,rfl,hp,rfl,_,_,rfl,_,_,rfl,rfl,?_⟩
 refine⟨_,dx,_,.ref t1,h1,rfl,rfl,_,.inr (h2.sq),rfl,flat_strs,?_⟩
 rw[inV_str]
 refine brN (fun h5=> ?_) fun h5=> ?_
 ·exact⟨(show 1≤1000 by decide),mkR1 (by exact htr) fun d' hd=>qT h5 d' _ (Ext.new hd) hd upd_same⟩
 have noC: ¬(0≤k∧k<(s0.length:Nat))→yRaise (yMkR (He.ga K "NoColumn") (spI1 (He.ga K "NoColumn") "column" anyOk) (tCons (yVar 3) tNil)) (fun cls d _ H=>E cls d H) (dEnd Q) [some (.ref a),some (.ref p),some (.str tr),some (.int k)] H:=fun hk=>
  ⟨(show 1≤1000 by decide),mkR1 trivial fun d' hd=>qC h5 hk d' _ (Ext.new hd) hd upd_same⟩
 refine brD (fun h6=> ?_) fun h6=> ?_
 ·refine⟨_,dx,_,.ref t2,h1,rfl,rfl,_,.str s0,.inr (SqT.of h3),atI_nat (by rw[z10,hs0];rfl),by rw[sizeLine_eq];omega,?_⟩
  refine brN (fun h7=>noC fun z=>h7 (by omega)) fun h7=> ?_
  exact q h5 h6 h7
 ·exact brT rfl (noC fun z=>h6 z.1)
end
theorem fuel_none {op:Nat}:fuelS op none=11-op+1:=rfl
theorem fuel_some {op:Nat} {ns:List Str}:fuelS op (some ns)=11-op:=rfl
theorem BdAt.extB {H H':Hp} {a:Addr}:∀{ex:SRX},BdAt H ex→(∀b xs,H b=some (.lst xs)→b≠a)→ExtB a H H'→BdAt H' ex
 |(_,none),h,_,_=>h
 |(_,some _),⟨b,e,h⟩,n,x=>⟨b,e,x _ _ (n _ _ h) h⟩
section
variable {K:Kf} {H H1 H':Hp} {a t w:Addr} {trs ws:List Str} {ex:SRX} {s:SSt}
theorem SRdAt.neL {b:Addr} {xs:List V} (r:SRdAt K H a t w trs ws ex s) (h:H b=some (.lst xs)):b≠a:=fun z=>by
 obtain⟨dx,h1,_⟩:=r
 rw[z,h1] at h
 cases h
theorem STreeAt.extB {v:V} {u:STree} (h:STreeAt H v u) (r:SRdAt K H a t w trs ws ex s) (e:ExtB a H H'):STreeAt H' v u:=h.keep fun p xs q=>e p _ (r.ne q) q
end
section
variable {K:Kf} {vs:List V} {H:Hp} {Q:VK} {E:XK} {N:Nat}
def sp_SayingReader_word (K:Kf):Sp:=fun vs H Q _=>∃(a t w:Addr) (trs ws:List Str) (ex:SRX) (s:SSt),vs= [.ref a]∧SRdAt K H a t w trs ws ex s∧WsOk ws∧Q (.str (wd ws s.sp)) H
theorem len_SayingReader_word (h:sp_SayingReader_word K vs H Q E):vs.length=1:=by
 obtain⟨_,_,_,_,_,_,_,rfl,_⟩:=h
 rfl
def N_SayingReader_word:List Str:= ["self"]
def t_SayingReader_word (K:Kf) (E:XK):TS:=
 (tRet (yIfE (yTst (tOp zLt (yFld (isC K ["SayingReader"]) (yVar 0) "spot") (tCB (zLen K) (tCons (yFld (isC K ["SayingReader"]) (yVar 0) "words") tNil)))) (tOp (zIxL K) (yFld (isC K ["SayingReader"]) (yVar 0) "words") (yFld (isC K ["SayingReader"]) (yVar 0) "spot")) (tC (.str ""))))
theorem pure_SayingReader_word (h:sp_SayingReader_word K vs H Q E):t_SayingReader_word K E (dEnd Q) (start N_SayingReader_word vs) H:=by
 obtain⟨a,t,w,trs,ws,ex,s,rfl,⟨dx,h1,h2,h3,h4⟩,ok,q⟩:=h
 refine⟨_,dx,_,_,h1,rfl,rfl,_,dx,_,_,h1,rfl,rfl,_,.inl (SqL.of h3),brD (fun hlt=> ?_) fun hlt=> ?_⟩
 ·have hlt:s.sp<ws.length:=by
   have hlt:((s.sp:Nat):Int)<((ws.map V.str).length:Nat):=hlt
   rw[z8] at hlt
   omega
  exact⟨_,dx,_,_,h1,rfl,rfl,_,dx,_,_,h1,rfl,rfl,_,_,.inl (SqL.of h3),atI_nat (wd_some hlt),q⟩
 ·have hlt: ¬s.sp<ws.length:=fun z=>hlt (by
   show((s.sp:Nat):Int)<((ws.map V.str).length:Nat)
   rw[z8]
   omega)
  rw[wd_none hlt] at q
  exact q
def sp_SayingReader_take (K:Kf):Sp:=fun vs H Q E=>∃(a t w:Addr) (trs ws:List Str) (ex:SRX) (s:SSt) (b:Bool),vs= [.ref a,.bl b]∧SRdAt K H a t w trs ws ex s∧WsOk ws∧s.sp≤ws.length∧
 SRW K a t w trs ws ex H Q E (fun _ v x=>v= .str x) (stakeIf ws b s)
theorem len_SayingReader_take (h:sp_SayingReader_take K vs H Q E):vs.length=2:=by
 obtain⟨_,_,_,_,_,_,_,_,rfl,_⟩:=h
 rfl
def N_SayingReader_take:List Str:= ["self","is_right"]
def t_SayingReader_take (K:Kf) (E:XK):TS:=
 (tSeq (yIf (yOr (yNot (yTst (yVar 1))) (yTst (tOp zGe (yFld (isC K ["SayingReader"]) (yVar 0) "spot") (tCB (zLen K) (tCons (yFld (isC K ["SayingReader"]) (yVar 0) "words") tNil))))) (yRaise (yMkR (He.ga K "BadSaying") (spI1 (He.ga K "BadSaying") "index" fmtOk) (tCons (yFld (isC K ["SayingReader"]) (yVar 0) "spot") tNil)) (fun cls d _ H=>E cls d H)) tNext)
    (tSeq (yAugF (isC K ["SayingReader"]) (yVar 0) (tC (.int 1)) zAdd "spot")
    (tRet (tOp (zIxL K) (yFld (isC K ["SayingReader"]) (yVar 0) "words") (tOp zSub (yFld (isC K ["SayingReader"]) (yVar 0) "spot") (tC (.int 1)))))))
theorem pure_SayingReader_take (h:sp_SayingReader_take K vs H Q E):t_SayingReader_take K E (dEnd Q) (start N_SayingReader_take vs) H:=by
 obtain⟨a,t,w,trs,ws,ex,s,b,rfl,r,ok,hs,q⟩:=h
 obtain⟨dx,h1,h2,h3,h4⟩:=id r
 have bad: ¬(b=true∧s.sp<ws.length)→ErrW K a H E s.sp:=fun z=>by
  unfold stakeIf at q
  rw[if_neg z] at q
  exact q
 have ol:=ok.len
 have rz: ¬(b=true∧s.sp<ws.length)→yRaise (yMkR (He.ga K "BadSaying") (spI1 (He.ga K "BadSaying") "index" fmtOk) (tCons (yFld (isC K ["SayingReader"]) (yVar 0) "spot") tNil)) (fun cls d _ H=>E cls d H) (dEnd Q) [some (.ref a),some (.bl b)] H:=fun z=>
  ⟨_,dx,_,_,h1,rfl,rfl,err_raise (bad z) (by omega)⟩
 refine br (fun hb=> ?_) fun hb=> ?_
 ·exact brT rfl (rz fun z=>by
   rw[z.1] at hb
   cases hb)
 ·have hb:b=true:=by simpa using hb
  subst hb
  refine⟨_,dx,_,_,h1,rfl,rfl,_,dx,_,_,h1,rfl,rfl,_,.inl (SqL.of h3),brD (fun hlt=> ?_) fun hlt=> ?_⟩
  ·exact rz fun z=>by
        have hlt:(((ws.map V.str).length:Nat):Int)≤((s.sp:Nat):Int):=hlt
        rw[z8] at hlt
        omega
  ·have hlt:s.sp<ws.length:=by
        refine Nat.lt_of_not_le fun z=>hlt ?_
        show(((ws.map V.str).length:Nat):Int)≤((s.sp:Nat):Int)
        rw[z8]
        omega
   have q:∀(H':Hp) (v:V),ExtB a H H'→SRdAt K H' a t w trs ws ex {s with sp:=s.sp+1}→v= .str (wd ws s.sp)→Q v H':=by
        unfold stakeIf at q
        rw[if_pos ⟨rfl,hlt⟩] at q
        exact q
   have nt:=r.ne h2
   have nw:=r.neL h3
   refine⟨_,dx,_,_,h1,rfl,rfl,dx,_,h1,(show 7<1000 by decide),?_⟩
   have g1:(upd H a (.ins (He.ga K "SayingReader") dx (("tracks",.ref t)::("words",.ref w)::("spot",.int ((s.sp:Nat)+1))::("parts_left",.int (s.pl:Nat))::("open_ones",.int (s.op:Nat))::srd s ex))) a=some _:=upd_same
   refine⟨_,dx,_,_,g1,rfl,rfl,_,dx,_,_,g1,rfl,rfl,_,_,.inl (SqL.of (by rw[upd_ne nw];exact h3)),?_,q _ _ ExtB.put ⟨dx,upd_same,by rw[upd_ne nt];exact h2,by rw[upd_ne nw];exact h3,h4.extB (fun b xs q=>r.neL q) ExtB.put⟩ rfl⟩
   have e:(((s.sp:Nat):Int)+1-1)=((s.sp:Nat):Int):=by omega
   rw[e]
   exact atI_nat (wd_some hlt)
def sbeginOf (s:SSt):SPR Unit:=if s.pl=0 then .inl s.sp else .inr ((),{s with pl:=s.pl-1})
def sp_SayingReader_begin_part (K:Kf):Sp:=fun vs H Q E=>∃(a t w:Addr) (trs ws:List Str) (ex:SRX) (s:SSt),vs= [.ref a]∧SRdAt K H a t w trs ws ex s∧WsOk ws∧s.sp≤ws.length∧
 SRW K a t w trs ws ex H Q E (fun _ v _=>v= .non) (sbeginOf s)
theorem len_SayingReader_begin_part (h:sp_SayingReader_begin_part K vs H Q E):vs.length=1:=by
 obtain⟨_,_,_,_,_,_,_,rfl,_⟩:=h
 rfl
def N_SayingReader_begin_part:List Str:= ["self"]
def t_SayingReader_begin_part (K:Kf) (E:XK):TS:=
 (tSeq (yIf (yTst (tOp zEq (yFld (isC K ["SayingReader"]) (yVar 0) "parts_left") (tC (.int 0)))) (yRaise (yMkR (He.ga K "BadSaying") (spI1 (He.ga K "BadSaying") "index" fmtOk) (tCons (yFld (isC K ["SayingReader"]) (yVar 0) "spot") tNil)) (fun cls d _ H=>E cls d H)) tNext)
    (yAugF (isC K ["SayingReader"]) (yVar 0) (tC (.int 1)) zSub "parts_left"))
theorem pure_SayingReader_begin_part (h:sp_SayingReader_begin_part K vs H Q E):t_SayingReader_begin_part K E (dEnd Q) (start N_SayingReader_begin_part vs) H:=by
 obtain⟨a,t,w,trs,ws,ex,s,rfl,r,ok,hs,q⟩:=h
 obtain⟨dx,h1,h2,h3,h4⟩:=id r
 have ol:=ok.len
 unfold sbeginOf at q
 refine⟨_,dx,_,_,h1,rfl,rfl,brD (fun hz=> ?_) fun hz=> ?_⟩
 ·have hz:s.pl=0:=by
   have hz:((s.pl:Nat):Int)=0:=hz
   omega
  rw[if_pos hz] at q
  exact⟨_,dx,_,_,h1,rfl,rfl,err_raise q (by omega)⟩
 ·have hz:s.pl≠0:=fun z=>hz (by
   show((s.pl:Nat):Int)=0
   omega)
  rw[if_neg hz] at q
  refine⟨_,dx,_,_,h1,rfl,rfl,dx,_,h1,(show 7<1000 by decide),q _ _ ExtB.put ⟨dx,?_,by rw[upd_ne (r.ne h2)];exact h2,by rw[upd_ne (r.neL h3)];exact h3,h4.extB (fun b xs q=>r.neL q) ExtB.put⟩ rfl⟩
  rw[upd_same]
  have e:(((s.pl:Nat):Int)-1)=((s.pl-1:Nat):Int):=by omega
  show some (HO.ins _ _ (("tracks",_)::("words",_)::("spot",_)::("parts_left",V.int (((s.pl:Nat):Int)-1))::_))=_
  rw[e]
def sp_SayingReader_column_word (K:Kf):Sp:=fun vs H Q E=>∃(a t w:Addr) (trs ws:List Str) (ex:SRX) (s:SSt),vs= [.ref a]∧SRdAt K H a t w trs ws ex s∧WsOk ws∧s.sp≤ws.length∧(boundL ex.2).length≤3∧
 SRW K a t w trs ws ex H Q E (fun _ v x=>v= .str x) (colOf ws ex.2 s)
theorem len_SayingReader_column_word (h:sp_SayingReader_column_word K vs H Q E):vs.length=1:=by
 obtain⟨_,_,_,_,_,_,_,rfl,_⟩:=h
 rfl
def N_SayingReader_column_word:List Str:= ["self","names"]
def t_SayingReader_column_word (K:Kf) (E:XK):TS:=
 (tSeq (tAsg (yIfE (yTst (tOp zIs (yFld (isC K ["SayingReader"]) (yVar 0) "bound") (tC .non))) (tLst tNil) (yFld (isC K ["SayingReader"]) (yVar 0) "bound")) (gName 1))
    (tRet (yMeth (He.ga K "SayingReader") "take" (sp_SayingReader_take K) (fun cls d _ H=>E cls d H) (yVar 0) (tCons (tOp (zIn K false) (yMeth (He.ga K "SayingReader") "word" (sp_SayingReader_word K) W0 (yVar 0) tNil) (tLst (tCons (tC (.str "here")) (yStar K (yVar 1) tNil)))) tNil))))
def t_cword (K:Kf) (E:XK):TS:=
 (tRet (yMeth (He.ga K "SayingReader") "take" (sp_SayingReader_take K) (fun cls d _ H=>E cls d H) (yVar 0) (tCons (tOp (zIn K false) (yMeth (He.ga K "SayingReader") "word" (sp_SayingReader_word K) W0 (yVar 0) tNil) (tLst (tCons (tC (.str "here")) (yStar K (yVar 1) tNil)))) tNil)))
theorem pure_SayingReader_column_word (h:sp_SayingReader_column_word K vs H Q E):t_SayingReader_column_word K E (dEnd Q) (start N_SayingReader_column_word vs) H:=by
 obtain⟨a,t,w,trs,ws,ex,s,rfl,r,ok,hs,hb3,q⟩:=h
 obtain⟨dx,h1,h2,h3,h4⟩:=id r
 have rest:∀(L:Addr) (H1:Hp),Ext H H1→H1 L=some (.lst ((boundL ex.2).map V.str))→t_cword K E (dEnd Q) [some (.ref a),some (.ref L)] H1:=by
  intro L H1 e1 gL
  have r1:=r.ext e1
  obtain⟨dx1,g1,_⟩:=id r1
  refine⟨dx1,_,g1,rfl,dx1,_,g1,rfl,a,t,w,trs,ws,ex,s,rfl,r1,ok,?_⟩
  refine⟨_,.inr (SqL.of gL),?_⟩
  refine⟨?_,fun p np=> ?_⟩
  ·show([V.str "here"]++((boundL ex.2).map V.str++ [])).length≤_
   rw[z26,z17,z8,sizeLine_eq]
   show 1+_≤_
   omega
  rw[show((V.str "here")::((boundL ex.2).map V.str++ []))=(("here":Str)::boundL ex.2).map V.str by simp]
  refine⟨_,.inl (SqL.of upd_same),rfl,flat_strs,?_⟩
  rw[inV_str]
  have e2:Ext H1 (upd H1 p (.lst ((("here":Str)::boundL ex.2).map V.str))):=Ext.new np
  generalize upd H1 p (.lst ((("here":Str)::boundL ex.2).map V.str))=H2 at e2⊢
  have r2:=r1.ext e2
  exact⟨a,t,w,trs,ws,ex,s,_,rfl,r2,ok,hs,SRW.mono q (e1.extB.trans e2.extB) r2⟩
 obtain⟨bv,bd⟩:=ex
 cases bd with
 |none=>
  have h4:bv= .non:=h4
  subst h4
  refine⟨_,dx,_,_,h1,rfl,rfl,?_⟩
  exact brT rfl ⟨(show 0≤sizeLine by exact z35 _),fun L nL=>rest L _ (Ext.new nL) upd_same⟩
 |some ns=>
  obtain⟨b,rfl,h5⟩:∃b,bv= .ref b∧H b=some (.lst (ns.map V.str)):=h4
  refine⟨_,dx,_,_,h1,rfl,rfl,?_⟩
  exact brF rfl ⟨_,dx,_,_,h1,rfl,rfl,rest b H (Ext.refl H) h5⟩
def sp_SayingReader_block (N:Nat) (K:Kf):Sp:=fun vs H Q E=>∃(a t w:Addr) (trs ws:List Str) (ex:SRX) (s:SSt),vs= [.ref a]∧SRdAt K H a t w trs ws ex s∧WsOk ws∧s.sp≤ws.length∧MC K∧s.op≤10∧(boundL ex.2).length≤3∧fuelS s.op ex.2≤N+1∧
 SRW K a t w trs ws ex H Q E STreeAt (sblockOf (fun ns=>sanyOf (ssingle trs ws (fuelS s.op ex.2-1) (some ns)) ws) ws ex.2 s)
theorem len_SayingReader_block (h:sp_SayingReader_block N K vs H Q E):vs.length=1:=by
 obtain⟨_,_,_,_,_,_,_,rfl,_⟩:=h
 rfl
def sp_SayingReader_part_or_block (N:Nat) (K:Kf):Sp:=fun vs H Q E=>∃(a t w:Addr) (trs ws:List Str) (ex:SRX) (s:SSt),vs= [.ref a]∧SRdAt K H a t w trs ws ex s∧WsOk ws∧s.sp≤ws.length∧MC K∧s.op≤10∧(boundL ex.2).length≤3∧fuelS s.op ex.2≤N+1∧
 SRW K a t w trs ws ex H Q E STreeAt (spob (ssingle trs ws (fuelS s.op ex.2-1)) trs ws ex.2 s)
theorem len_SayingReader_part_or_block (h:sp_SayingReader_part_or_block N K vs H Q E):vs.length=1:=by
 obtain⟨_,_,_,_,_,_,_,rfl,_⟩:=h
 rfl
def N_SayingReader_part_or_block:List Str:= ["self","one","kind"]
def t_SayingReader_part_or_block (N:Nat) (K:Kf) (E:XK):TS:=
 (tSeq (yIf (yTst (tOp (zIn K false) (yMeth (He.ga K "SayingReader") "word" (sp_SayingReader_word K) W0 (yVar 0) tNil) (tTup (tCons (tC (.str "all")) (tCons (tC (.str "some")) tNil))))) (tRet (yMeth (He.ga K "SayingReader") "block" (sp_SayingReader_block N K) (fun cls d _ H=>E cls d H) (yVar 0) tNil)) tNext)
    (tSeq (tDrop (yMeth (He.ga K "SayingReader") "begin_part" (sp_SayingReader_begin_part K) (fun cls d _ H=>E cls d H) (yVar 0) tNil))
    (tSeq (tAsg (yMeth (He.ga K "SayingReader") "column_word" (sp_SayingReader_column_word K) (fun cls d _ H=>E cls d H) (yVar 0) tNil) (gName 1))
    (tSeq (tAsg (yMeth (He.ga K "SayingReader") "take" (sp_SayingReader_take K) (fun cls d _ H=>E cls d H) (yVar 0) (tCons (tOp (zIn K false) (yMeth (He.ga K "SayingReader") "word" (sp_SayingReader_word K) W0 (yVar 0) tNil) (tTup (tCons (tC (.str "filled")) (tCons (tC (.str "ahead")) (tCons (tC (.str "is")) tNil))))) tNil)) (gName 2))
    (tSeq (yIf (yTst (tOp zEq (yVar 2) (tC (.str "filled")))) (tRet (tTup (tCons (yVar 2) (tCons (yVar 1) (tCons (yMeth (He.ga K "SayingReader") "take" (sp_SayingReader_take K) (fun cls d _ H=>E cls d H) (yVar 0) (tCons (tOp (zIn K false) (yMeth (He.ga K "SayingReader") "word" (sp_SayingReader_word K) W0 (yVar 0) tNil) (yFld (isC K ["SayingReader"]) (yVar 0) "tracks")) tNil)) tNil))))) tNext)
    (tRet (tTup (tCons (yVar 2) (tCons (yVar 1) (tCons (yMeth (He.ga K "SayingReader") "column_word" (sp_SayingReader_column_word K) (fun cls d _ H=>E cls d H) (yVar 0) tNil) tNil))))))))))
theorem pure_SayingReader_part_or_block (h:sp_SayingReader_part_or_block N K vs H Q E):t_SayingReader_part_or_block N K E (dEnd Q) (start N_SayingReader_part_or_block vs) H:=by
 obtain⟨a,t,w,trs,ws,ex,s,rfl,r,ok,hs,mc,o1,b3,o2,q⟩:=h
 obtain⟨dx,h1,h2,h3,h4⟩:=id r
 unfold spob at q
 refine⟨dx,_,h1,rfl,a,t,w,trs,ws,ex,s,rfl,r,ok,by decide,fun p0 np0=>⟨_,.inr (SqT.of upd_same),rfl,rfl,?_⟩⟩
 rw[show([.str "all",.str "some"]:List V)=BLOCKS.map V.str from rfl,inV_str]
 have e0:Ext H (upd H p0 (.tup (BLOCKS.map V.str))):=Ext.new np0
 have r0:=r.ext e0
 generalize upd H p0 (.tup (BLOCKS.map V.str))=H0 at e0 r0⊢
 obtain⟨dx0,k1,k2,k3,_⟩:=id r0
 refine brD (fun hw=> ?_) fun hw=> ?_
 ·rw[if_pos hw] at q
  exact⟨dx0,_,k1,rfl,a,t,w,trs,ws,ex,s,rfl,r0,ok,hs,mc,o1,b3,o2,SRW.mono q e0.extB r0⟩
 rw[if_neg hw] at q
 have q:=SRW.mono q e0.extB r0
 unfold spartOf at q
 refine⟨dx0,_,k1,rfl,a,t,w,trs,ws,ex,s,rfl,r0,ok,hs,?_⟩
 unfold sbeginOf
 by_cases hz:s.pl=0
 ·rw[if_pos hz] at q⊢
  exact q
 rw[if_neg hz] at q⊢
 intro H1 v1 e1 r1 _
 obtain⟨dx1,g1,g2,g3,_⟩:=id r1
 refine⟨dx1,_,g1,rfl,a,t,w,trs,ws,ex,{s with pl:=s.pl-1},rfl,r1,ok,hs,b3,?_⟩
 cases hx:colOf ws ex.2 {s with pl:=s.pl-1} with
 |inl i=>
  rw[hx] at q
  exact SErrW_mono q e1 r1
 |inr z=>
  obtain⟨x,s1⟩:=z
  rw[hx] at q
  obtain⟨_,t3,_⟩:=colOf_good {s with pl:=s.pl-1} _ _ hs hx
  rintro H2 v2 e2 r2 rfl
  have e02:=e1.trans e2
  obtain⟨dx2,i1,i2,i3,_⟩:=id r2
  dsimp only at q
  refine⟨dx2,_,i1,rfl,dx2,_,i1,rfl,a,t,w,trs,ws,ex,_,rfl,r2,ok,?_⟩
  refine⟨by decide,fun p np=>⟨_,.inr (SqT.of upd_same),rfl,rfl,?_⟩⟩
  rw[show([.str "filled",.str "ahead",.str "is"]:List V)=KINDS3.map V.str from rfl,inV_str]
  have e3:Ext H2 (upd H2 p (.tup (KINDS3.map V.str))):=Ext.new np
  generalize upd H2 p (.tup (KINDS3.map V.str))=H3 at e3⊢
  have e03:=e02.trans e3.extB
  have r3:=r2.ext e3
  refine⟨a,t,w,trs,ws,ex,s1,_,rfl,r3,ok,t3,?_⟩
  show SRW K a t w trs ws ex H3 _ _ _ (stakeIf ws (decide (wd ws s1.sp∈KINDS3)) s1)
  cases hk:stakeIf ws (decide (wd ws s1.sp∈KINDS3)) s1 with
  |inl i=>
   rw[hk] at q
   exact SErrW_mono q e03 r3
  |inr z=>
   obtain⟨k,s2⟩:=z
   rw[hk] at q
   obtain⟨_,_,t4,_⟩:=stakeIf_good hk
   rintro H4 v4 e4 r4 rfl
   have e04:=e03.trans e4
   obtain⟨dx4,j1,j2,j3,_⟩:=id r4
   dsimp only at q
   refine brD (fun hf=> ?_) fun hf=> ?_
   ·rw[if_pos hf] at q
    refine⟨dx4,_,j1,rfl,dx4,_,j1,rfl,a,t,w,trs,ws,ex,s2,rfl,r4,ok,_,dx4,_,_,j1,rfl,rfl,_,.inr (SqT.of j2),rfl,flat_strs,?_⟩
    rw[inV_str]
    refine⟨a,t,w,trs,ws,ex,s2,_,rfl,r4,ok,t4,?_⟩
    show SRW K a t w trs ws ex H4 _ _ _ (stakeIf ws (decide (wd ws s2.sp∈trs)) s2)
    cases hk2:stakeIf ws (decide (wd ws s2.sp∈trs)) s2 with
    |inl i=>
     rw[hk2] at q
     exact SErrW_mono q e04 r4
    |inr z=>
     obtain⟨y,s3⟩:=z
     rw[hk2] at q
     rintro H5 v5 e5 r5 rfl
     refine⟨(show 3≤sizeLine by decide),fun p np=>q _ _ ((e04.trans e5).trans (ExtB.new np)) (r5.ext (Ext.new np)) ?_⟩
     rw[hf]
     exact .fil upd_same
   ·rw[if_neg hf] at q
    refine⟨dx4,_,j1,rfl,a,t,w,trs,ws,ex,s2,rfl,r4,ok,t4,b3,?_⟩
    cases hk2:colOf ws ex.2 s2 with
    |inl i=>
     rw[hk2] at q
     exact SErrW_mono q e04 r4
    |inr z=>
     obtain⟨y,s3⟩:=z
     rw[hk2] at q
     rintro H5 v5 e5 r5 rfl
     exact⟨(show 3≤sizeLine by decide),fun p np=>q _ _ ((e04.trans e5).trans (ExtB.new np)) (r5.ext (Ext.new np)) (.cmp upd_same)⟩
def sp_SayingReader_single (N:Nat) (K:Kf):Sp:=fun vs H Q E=>∃(a t w:Addr) (trs ws:List Str) (ex:SRX) (s:SSt),vs= [.ref a]∧SRdAt K H a t w trs ws ex s∧WsOk ws∧s.sp≤ws.length∧MC K∧s.op≤10∧(boundL ex.2).length≤3∧fuelS s.op ex.2≤N∧
 SRW K a t w trs ws ex H Q E STreeAt (ssingle trs ws (fuelS s.op ex.2) ex.2 s)
theorem len_SayingReader_single (h:sp_SayingReader_single N K vs H Q E):vs.length=1:=by
 obtain⟨_,_,_,_,_,_,_,rfl,_⟩:=h
 rfl
theorem nil_SayingReader_single (h:sp_SayingReader_single 0 K vs H Q E):False:=by
 obtain⟨_,_,_,_,_,ex,_,_,_,_,_,_,h1,_,h2,_⟩:=h
 unfold fuelS at h2
 omega
def sp_SayingReader_all_of (N:Nat) (K:Kf):Sp:=fun vs H Q E=>∃(a t w:Addr) (trs ws:List Str) (ex:SRX) (s:SSt),vs= [.ref a]∧SRdAt K H a t w trs ws ex s∧WsOk ws∧s.sp≤ws.length∧MC K∧s.op≤10∧(boundL ex.2).length≤3∧fuelS s.op ex.2≤N∧
 SRW K a t w trs ws ex H Q E STreeAt (sallOf (ssingle trs ws (fuelS s.op ex.2) ex.2) ws s)
theorem len_SayingReader_all_of (h:sp_SayingReader_all_of N K vs H Q E):vs.length=1:=by
 obtain⟨_,_,_,_,_,_,_,rfl,_⟩:=h
 rfl
def sp_SayingReader_any_of (N:Nat) (K:Kf):Sp:=fun vs H Q E=>∃(a t w:Addr) (trs ws:List Str) (ex:SRX) (s:SSt),vs= [.ref a]∧SRdAt K H a t w trs ws ex s∧WsOk ws∧s.sp≤ws.length∧MC K∧s.op≤10∧(boundL ex.2).length≤3∧fuelS s.op ex.2≤N∧
 SRW K a t w trs ws ex H Q E STreeAt (sanyOf (ssingle trs ws (fuelS s.op ex.2) ex.2) ws s)
theorem len_SayingReader_any_of (h:sp_SayingReader_any_of N K vs H Q E):vs.length=1:=by
 obtain⟨_,_,_,_,_,_,_,rfl,_⟩:=h
 rfl
def N_SayingReader_all_of:List Str:= ["self","tree"]
def t_SayingReader_all_of (N:Nat) (K:Kf) (E:XK):TS:=
 (tSeq (tAsg (yMeth (He.ga K "SayingReader") "single" (sp_SayingReader_single N K) (fun cls d _ H=>E cls d H) (yVar 0) tNil) (gName 1))
    (tSeq (yWhile (yTst (tOp zEq (yMeth (He.ga K "SayingReader") "word" (sp_SayingReader_word K) W0 (yVar 0) tNil) (tC (.str "and")))) (tSeq (yAugF (isC K ["SayingReader"]) (yVar 0) (tC (.int 1)) zAdd "spot")
    (tAsg (tTup (tCons (tC (.str "and")) (tCons (yVar 1) (tCons (yMeth (He.ga K "SayingReader") "single" (sp_SayingReader_single N K) (fun cls d _ H=>E cls d H) (yVar 0) tNil) tNil)))) (gName 1))))
    (tRet (yVar 1))))
theorem pure_SayingReader_all_of (h:sp_SayingReader_all_of N K vs H Q E):t_SayingReader_all_of N K E (dEnd Q) (start N_SayingReader_all_of vs) H:=by
 obtain⟨a,t,w,trs,ws,ex,s,rfl,r,ok,hs,mc,o1,b3,o2,q⟩:=h
 obtain⟨dx,h1,h2,h3,h4⟩:=id r
 unfold sallOf at q
 have gS:SGood ws (ssingle trs ws (fuelS s.op ex.2) ex.2):=ssingle_good trs ws _ _
 refine⟨dx,_,h1,rfl,a,t,w,trs,ws,ex,s,rfl,r,ok,hs,mc,o1,b3,o2,?_⟩
 cases hk:ssingle trs ws (fuelS s.op ex.2) ex.2 s with
 |inl i=>
  rw[hk] at q
  exact q
 |inr x=>
  obtain⟨u1,s1⟩:=x
  rw[hk] at q
  obtain⟨c1,c2,c3⟩:=gS _ _ _ hs hk
  intro H1 v1 e1 r1 u1'
  refine⟨fun m σ G=>∃(v:V) (u:STree) (s':SSt) (n:Nat),σ= [some (.ref a),some v]∧ExtB a H G∧SRdAt K G a t w trs ws ex s'∧STreeAt G v u∧s'.sp≤ws.length∧s'.op=s.op∧ws.length≤s'.sp+n∧m=ws.length-s'.sp∧
   SRW K a t w trs ws ex H Q E STreeAt (sloopW (ssingle trs ws (fuelS s.op ex.2) ex.2) ws "and" n u s'),⟨_,v1,u1,s1,ws.length,rfl,e1,r1,u1',c2,c3,by omega,rfl,q⟩,?_⟩
  rintro m σ G ⟨v,u,s',n,rfl,eG,rG,hu,d1,d2,d3,rfl,qL⟩
  obtain⟨dx',g1,g2,g3,g4⟩:=id rG
  refine⟨dx',_,g1,rfl,a,t,w,trs,ws,ex,s',rfl,rG,ok,brD (fun hw=> ?_) fun hw=> ?_⟩
  ·have hlt:=wd_lt hw (by decide)
   obtain⟨n,rfl⟩:∃n',n=n'+1:=⟨n-1,by omega⟩
   unfold sloopW at qL
   rw[if_pos hw] at qL
   refine⟨_,dx',_,_,g1,rfl,rfl,dx',_,g1,(show 7<1000 by decide),?_⟩
   have e2:ExtB a G (upd G a (.ins (He.ga K "SayingReader") dx' (("tracks",.ref t)::("words",.ref w)::("spot",.int ((s'.sp:Nat)+1))::("parts_left",.int (s'.pl:Nat))::("open_ones",.int (s'.op:Nat))::srd s' ex))):=ExtB.put
   have r2:SRdAt K (upd G a (.ins (He.ga K "SayingReader") dx' (("tracks",.ref t)::("words",.ref w)::("spot",.int ((s'.sp:Nat)+1))::("parts_left",.int (s'.pl:Nat))::("open_ones",.int (s'.op:Nat))::srd s' ex))) a t w trs ws ex {s' with sp:=s'.sp+1}:=
      ⟨dx',upd_same,by rw[upd_ne (rG.ne g2)];exact g2,by rw[upd_ne (rG.neL g3)];exact g3,g4.extB (fun b xs q=>rG.neL q) ExtB.put⟩
   have hu2:=hu.extB rG e2
   have e02:=eG.trans e2
   obtain⟨dx2,i1,_⟩:=id r2
   refine⟨dx2,_,i1,rfl,a,t,w,trs,ws,ex,{s' with sp:=s'.sp+1},rfl,r2,ok,hlt,mc,(show s'.op≤10 by omega),b3,(show fuelS s'.op ex.2≤N by rw[d2];exact o2),?_⟩
   show SRW K a t w trs ws ex _ _ _ _ (ssingle trs ws (fuelS s'.op ex.2) ex.2 {s' with sp:=s'.sp+1})
   rw[show fuelS s'.op ex.2=fuelS s.op ex.2 by rw[d2]]
   cases hk2:ssingle trs ws (fuelS s.op ex.2) ex.2 {s' with sp:=s'.sp+1} with
   |inl i=>
    rw[hk2] at qL
    exact SErrW_mono qL e02 r2
   |inr x=>
    obtain⟨u2,s2⟩:=x
    rw[hk2] at qL
    obtain⟨f1,f2,f3⟩:=gS _ _ _ (show s'.sp+1≤ws.length by omega) hk2
    have f1:s'.sp+1≤s2.sp:=f1
    have f3:s2.op=s'.op:=f3
    intro H3 v3 e3 r3 hu3
    refine⟨(show 3≤sizeLine by decide),fun p np=>⟨ws.length-s2.sp,by omega,.ref p,.bin "and" u u2,s2,n,rfl,(e02.trans e3).trans (ExtB.new np),r3.ext (Ext.new np),.bin upd_same ((hu2.extB r2 e3).ext (Ext.new np)) (hu3.ext (Ext.new np)),f2,by omega,by omega,rfl,qL⟩⟩
  ·have q2:SRW K a t w trs ws ex H Q E STreeAt (.inr (u,s')):=by
      cases n with
      |zero=>exact qL
      |succ n=>
       unfold sloopW at qL
       rw[if_neg hw] at qL
       exact qL
   exact q2 G v eG rG hu
def N_SayingReader_any_of:List Str:= ["self","tree"]
def t_SayingReader_any_of (N:Nat) (K:Kf) (E:XK):TS:=
 (tSeq (tAsg (yMeth (He.ga K "SayingReader") "all_of" (sp_SayingReader_all_of N K) (fun cls d _ H=>E cls d H) (yVar 0) tNil) (gName 1))
    (tSeq (yWhile (yTst (tOp zEq (yMeth (He.ga K "SayingReader") "word" (sp_SayingReader_word K) W0 (yVar 0) tNil) (tC (.str "or")))) (tSeq (yAugF (isC K ["SayingReader"]) (yVar 0) (tC (.int 1)) zAdd "spot")
    (tAsg (tTup (tCons (tC (.str "or")) (tCons (yVar 1) (tCons (yMeth (He.ga K "SayingReader") "all_of" (sp_SayingReader_all_of N K) (fun cls d _ H=>E cls d H) (yVar 0) tNil) tNil)))) (gName 1))))
    (tRet (yVar 1))))
theorem pure_SayingReader_any_of (h:sp_SayingReader_any_of N K vs H Q E):t_SayingReader_any_of N K E (dEnd Q) (start N_SayingReader_any_of vs) H:=by
 obtain⟨a,t,w,trs,ws,ex,s,rfl,r,ok,hs,mc,o1,b3,o2,q⟩:=h
 obtain⟨dx,h1,h2,h3,h4⟩:=id r
 unfold sanyOf at q
 have gS:SGood ws ((sallOf (ssingle trs ws (fuelS s.op ex.2) ex.2) ws)):=sallOf_good (ssingle_good trs ws _ _)
 refine⟨dx,_,h1,rfl,a,t,w,trs,ws,ex,s,rfl,r,ok,hs,mc,o1,b3,o2,?_⟩
 cases hk:sallOf (ssingle trs ws (fuelS s.op ex.2) ex.2) ws s with
 |inl i=>
  rw[hk] at q
  exact q
 |inr x=>
  obtain⟨u1,s1⟩:=x
  rw[hk] at q
  obtain⟨c1,c2,c3⟩:=gS _ _ _ hs hk
  intro H1 v1 e1 r1 u1'
  refine⟨fun m σ G=>∃(v:V) (u:STree) (s':SSt) (n:Nat),σ= [some (.ref a),some v]∧ExtB a H G∧SRdAt K G a t w trs ws ex s'∧STreeAt G v u∧s'.sp≤ws.length∧s'.op=s.op∧ws.length≤s'.sp+n∧m=ws.length-s'.sp∧
   SRW K a t w trs ws ex H Q E STreeAt (sloopW ((sallOf (ssingle trs ws (fuelS s.op ex.2) ex.2) ws)) ws "or" n u s'),⟨_,v1,u1,s1,ws.length,rfl,e1,r1,u1',c2,c3,by omega,rfl,q⟩,?_⟩
  rintro m σ G ⟨v,u,s',n,rfl,eG,rG,hu,d1,d2,d3,rfl,qL⟩
  obtain⟨dx',g1,g2,g3,g4⟩:=id rG
  refine⟨dx',_,g1,rfl,a,t,w,trs,ws,ex,s',rfl,rG,ok,brD (fun hw=> ?_) fun hw=> ?_⟩
  ·have hlt:=wd_lt hw (by decide)
   obtain⟨n,rfl⟩:∃n',n=n'+1:=⟨n-1,by omega⟩
   unfold sloopW at qL
   rw[if_pos hw] at qL
   refine⟨_,dx',_,_,g1,rfl,rfl,dx',_,g1,(show 7<1000 by decide),?_⟩
   have e2:ExtB a G (upd G a (.ins (He.ga K "SayingReader") dx' (("tracks",.ref t)::("words",.ref w)::("spot",.int ((s'.sp:Nat)+1))::("parts_left",.int (s'.pl:Nat))::("open_ones",.int (s'.op:Nat))::srd s' ex))):=ExtB.put
   have r2:SRdAt K (upd G a (.ins (He.ga K "SayingReader") dx' (("tracks",.ref t)::("words",.ref w)::("spot",.int ((s'.sp:Nat)+1))::("parts_left",.int (s'.pl:Nat))::("open_ones",.int (s'.op:Nat))::srd s' ex))) a t w trs ws ex {s' with sp:=s'.sp+1}:=
      ⟨dx',upd_same,by rw[upd_ne (rG.ne g2)];exact g2,by rw[upd_ne (rG.neL g3)];exact g3,g4.extB (fun b xs q=>rG.neL q) ExtB.put⟩
   have hu2:=hu.extB rG e2
   have e02:=eG.trans e2
   obtain⟨dx2,i1,_⟩:=id r2
   refine⟨dx2,_,i1,rfl,a,t,w,trs,ws,ex,{s' with sp:=s'.sp+1},rfl,r2,ok,hlt,mc,(show s'.op≤10 by omega),b3,(show fuelS s'.op ex.2≤N by rw[d2];exact o2),?_⟩
   show SRW K a t w trs ws ex _ _ _ _ ((sallOf (ssingle trs ws (fuelS s'.op ex.2) ex.2) ws) {s' with sp:=s'.sp+1})
   rw[show fuelS s'.op ex.2=fuelS s.op ex.2 by rw[d2]]
   cases hk2:sallOf (ssingle trs ws (fuelS s.op ex.2) ex.2) ws {s' with sp:=s'.sp+1} with
   |inl i=>
    rw[hk2] at qL
    exact SErrW_mono qL e02 r2
   |inr x=>
    obtain⟨u2,s2⟩:=x
    rw[hk2] at qL
    obtain⟨f1,f2,f3⟩:=gS _ _ _ (show s'.sp+1≤ws.length by omega) hk2
    have f1:s'.sp+1≤s2.sp:=f1
    have f3:s2.op=s'.op:=f3
    intro H3 v3 e3 r3 hu3
    refine⟨(show 3≤sizeLine by decide),fun p np=>⟨ws.length-s2.sp,by omega,.ref p,.bin "or" u u2,s2,n,rfl,(e02.trans e3).trans (ExtB.new np),r3.ext (Ext.new np),.bin upd_same ((hu2.extB r2 e3).ext (Ext.new np)) (hu3.ext (Ext.new np)),f2,by omega,by omega,rfl,qL⟩⟩
  ·have q2:SRW K a t w trs ws ex H Q E STreeAt (.inr (u,s')):=by
      cases n with
      |zero=>exact qL
      |succ n=>
       unfold sloopW at qL
       rw[if_neg hw] at qL
       exact qL
   exact q2 G v eG rG hu
def N_SayingReader_single:List Str:= ["self","sign","tree"]
def t_SayingReader_single (N:Nat) (K:Kf) (E:XK):TS:=
 (tSeq (yIf (yTst (tOp (zIn K false) (yMeth (He.ga K "SayingReader") "word" (sp_SayingReader_word K) W0 (yVar 0) tNil) (tTup (tCons (tC (.str "not")) (tCons (tC (.str "(")) tNil))))) (tSeq (tAsg (yMeth (He.ga K "SayingReader") "take" (sp_SayingReader_take K) (fun cls d _ H=>E cls d H) (yVar 0) (tCons (tOp zLt (yFld (isC K ["SayingReader"]) (yVar 0) "open_ones") (tC (.int 10))) tNil)) (gName 1))
    (tSeq (yAugF (isC K ["SayingReader"]) (yVar 0) (tC (.int 1)) zAdd "open_ones")
    (tSeq (tAsg (yIfE (yTst (tOp zEq (yVar 1) (tC (.str "not")))) (tTup (tCons (tC (.str "not")) (tCons (yMeth (He.ga K "SayingReader") "single" (sp_SayingReader_single N K) (fun cls d _ H=>E cls d H) (yVar 0) tNil) tNil))) (yMeth (He.ga K "SayingReader") "any_of" (sp_SayingReader_any_of N K) (fun cls d _ H=>E cls d H) (yVar 0) tNil)) (gName 2))
    (yCut (yIf (yTst (tOp zEq (yVar 1) (tC (.str "(")))) (tDrop (yMeth (He.ga K "SayingReader") "take" (sp_SayingReader_take K) (fun cls d _ H=>E cls d H) (yVar 0) (tCons (tOp zEq (yMeth (He.ga K "SayingReader") "word" (sp_SayingReader_word K) W0 (yVar 0) tNil) (tC (.str ")"))) tNil))) tNext)
    (tSeq (yAugF (isC K ["SayingReader"]) (yVar 0) (tC (.int 1)) zSub "open_ones")
    (tRet (yVar 2))))))) tNext)
    (tRet (yMeth (He.ga K "SayingReader") "part_or_block" (sp_SayingReader_part_or_block N K) (fun cls d _ H=>E cls d H) (yVar 0) tNil)))
theorem pure_SayingReader_single (h:sp_SayingReader_single (N+1) K vs H Q E):t_SayingReader_single N K E (dEnd Q) (start N_SayingReader_single vs) H:=by
 obtain⟨a,t,w,trs,ws,ex,s,rfl,r,ok,hs,mc,o1,b3,o2,q⟩:=h
 obtain⟨dx,h1,h2,h3,h4⟩:=id r
 obtain⟨n,hn⟩:∃n,fuelS s.op ex.2=n+1:=⟨fuelS s.op ex.2-1,by unfold fuelS;omega⟩
 rw[hn] at q
 unfold ssingle at q
 refine⟨dx,_,h1,rfl,a,t,w,trs,ws,ex,s,rfl,r,ok,by decide,fun p np=>⟨_,.inr (SqT.of upd_same),rfl,rfl,?_⟩⟩
 rw[show([.str "not",.str "("]:List V)=(["not","("]:List Str).map V.str from rfl,inV_str]
 have e1:Ext H (upd H p (.tup ((["not","("]:List Str).map V.str))):=Ext.new np
 have r1:=r.ext e1
 generalize upd H p (.tup ((["not","("]:List Str).map V.str))=H1 at e1 r1⊢
 obtain⟨dx1,g1,g2,g3,_⟩:=id r1
 have eB:=e1.extB (a:=a)
 refine brD (fun hw=> ?_) fun hw=> ?_
 ·rw[if_pos hw] at q
  refine⟨dx1,_,g1,rfl,_,dx1,_,_,g1,rfl,rfl,a,t,w,trs,ws,ex,s,_,rfl,r1,ok,hs,?_⟩
  have ed:decide (((s.op:Nat):Int)<10)=decide (s.op<10):=decide_eq_decide.mpr ⟨fun z=>by omega,fun z=>by omega⟩
  show SRW K a t w trs ws ex H1 _ _ _ (stakeIf ws (decide (((s.op:Nat):Int)<10)) s)
  rw[ed]
  cases hk0:stakeIf ws (decide (s.op<10)) s with
  |inl i=>
   rw[hk0] at q
   exact SErrW_mono q eB r1
  |inr z0=>
  obtain⟨x0,s1⟩:=z0
  rw[hk0] at q
  obtain⟨z1,z2,z3,z4,z5,z6,z7⟩:=stakeIf_good hk0
  subst z7
  have z4:s.op<10:=of_decide_eq_true z4
  have hf1:fuelS (s1.op+1) ex.2=n:=by
   rw[z2]
   unfold fuelS at hn⊢
   omega
  rintro H2 v2 e2 r2 rfl
  obtain⟨dx2,i1,i2,i3,i4⟩:=id r2
  have eB2:=eB.trans e2
  dsimp only at q
  refine⟨_,dx2,_,_,i1,rfl,rfl,dx2,_,i1,(show 7<1000 by decide),?_⟩
  have e3:ExtB a H2 (upd H2 a (.ins (He.ga K "SayingReader") dx2 (("tracks",.ref t)::("words",.ref w)::("spot",.int (s1.sp:Nat))::("parts_left",.int (s1.pl:Nat))::("open_ones",.int ((s1.op:Nat)+1))::srd s1 ex))):=ExtB.put
  have r3:SRdAt K (upd H2 a (.ins (He.ga K "SayingReader") dx2 (("tracks",.ref t)::("words",.ref w)::("spot",.int (s1.sp:Nat))::("parts_left",.int (s1.pl:Nat))::("open_ones",.int ((s1.op:Nat)+1))::srd s1 ex))) a t w trs ws ex {s1 with op:=s1.op+1}:=
   ⟨dx2,upd_same,by rw[upd_ne (r2.ne i2)];exact i2,by rw[upd_ne (r2.neL i3)];exact i3,i4.extB (fun b xs q=>r2.neL q) ExtB.put⟩
  have eB3:=eB2.trans e3
  obtain⟨dx3,j1,_⟩:=id r3
  have mid:∀(G:Hp) (v:V) (u:STree) (s3:SSt),ExtB a H G→SRdAt K G a t w trs ws ex s3→STreeAt G v u→0<s3.op→SRW K a t w trs ws ex H Q E STreeAt (.inr (u,{s3 with op:=s3.op-1}))→
     tSeq (yAugF (isC K ["SayingReader"]) (yVar 0) (tC (.int 1)) zSub "open_ones") (tRet (yVar 2)) (dEnd Q) [some (.ref a),some (.str (wd ws s.sp)),some v] G:=fun G v u s3 eG rG hu hp hq=>by
   obtain⟨dx4,k1,k2,k3,k4⟩:=id rG
   refine⟨_,dx4,_,_,k1,rfl,rfl,dx4,_,k1,(show 7<1000 by decide),hq _ _ (eG.trans ExtB.put) ⟨dx4,?_,by rw[upd_ne (rG.ne k2)];exact k2,by rw[upd_ne (rG.neL k3)];exact k3,k4.extB (fun b xs q=>rG.neL q) ExtB.put⟩ (hu.extB rG ExtB.put)⟩
   rw[upd_same]
   have e:(((s3.op:Nat):Int)-1)=((s3.op-1:Nat):Int):=by omega
   show some (HO.ins _ _ (("tracks",_)::("words",_)::("spot",_)::("parts_left",_)::("open_ones",V.int (((s3.op:Nat):Int)-1))::_))=_
   rw[e]
  refine brD (fun hn=> ?_) fun hn=> ?_
  ·rw[if_pos hn] at q
   refine⟨dx3,_,j1,rfl,a,t,w,trs,ws,ex,{s1 with op:=s1.op+1},rfl,r3,ok,z3,mc,(show s1.op+1≤10 by omega),b3,(show fuelS (s1.op+1) ex.2≤N by rw[hf1];omega),?_⟩
   show SRW K a t w trs ws ex _ _ _ _ (ssingle trs ws (fuelS (s1.op+1) ex.2) ex.2 {s1 with op:=s1.op+1})
   rw[hf1]
   cases hk:ssingle trs ws n ex.2 {s1 with op:=s1.op+1} with
   |inl i=>
    rw[hk] at q
    exact SErrW_mono q eB3 r3
   |inr x=>
    obtain⟨u2,s2⟩:=x
    rw[hk] at q
    obtain⟨f1,f2,f3⟩:=ssingle_good trs ws n ex.2 {s1 with op:=s1.op+1} _ _ z3 hk
    have f3:s2.op=s1.op+1:=f3
    intro H4 v4 e4 r4 hu4
    refine⟨(show 2≤sizeLine by decide),fun p4 np4=> ?_⟩
    refine⟨fun σ G=>∃v u s3,σ= [some (.ref a),some (.str (wd ws s.sp)),some v]∧ExtB a H G∧SRdAt K G a t w trs ws ex s3∧STreeAt G v u∧0<s3.op∧SRW K a t w trs ws ex H Q E STreeAt (.inr (u,{s3 with op:=s3.op-1})),?_,fun σ G ⟨v,u,s3,z,a1,a2,a3,a4,a5⟩=>by subst z;exact mid G v u s3 a1 a2 a3 a4 a5⟩
    exact brDF (by rw[hn];decide) ⟨_,.neg u2,s2,rfl,(eB3.trans e4).trans (ExtB.new np4),r4.ext (Ext.new np4),.neg upd_same (hu4.ext (Ext.new np4)),by omega,q⟩
  ·rw[if_neg hn] at q
   have hb:wd ws s.sp= "(":=by
     simp only[List.mem_cons,z13,or_false] at hw
     exact hw.resolve_left hn
   refine⟨dx3,_,j1,rfl,a,t,w,trs,ws,ex,{s1 with op:=s1.op+1},rfl,r3,ok,z3,mc,(show s1.op+1≤10 by omega),b3,(show fuelS (s1.op+1) ex.2≤N by rw[hf1];omega),?_⟩
   show SRW K a t w trs ws ex _ _ _ _ (sanyOf (ssingle trs ws (fuelS (s1.op+1) ex.2) ex.2) ws {s1 with op:=s1.op+1})
   rw[hf1]
   cases hk:sanyOf (ssingle trs ws n ex.2) ws {s1 with op:=s1.op+1} with
   |inl i=>
    rw[hk] at q
    exact SErrW_mono q eB3 r3
   |inr x=>
    obtain⟨u2,s2⟩:=x
    rw[hk] at q
    dsimp only at q
    obtain⟨f1,f2,f3⟩:=sanyOf_good (ssingle_good trs ws n ex.2) {s1 with op:=s1.op+1} _ _ z3 hk
    have f3:s2.op=s1.op+1:=f3
    intro H4 v4 e4 r4 hu4
    obtain⟨dx4,k1,_⟩:=id r4
    have eB4:=eB3.trans e4
    refine⟨fun σ G=>∃v u s3,σ= [some (.ref a),some (.str (wd ws s.sp)),some v]∧ExtB a H G∧SRdAt K G a t w trs ws ex s3∧STreeAt G v u∧0<s3.op∧SRW K a t w trs ws ex H Q E STreeAt (.inr (u,{s3 with op:=s3.op-1})),?_,fun σ G ⟨v,u,s3,z,a1,a2,a3,a4,a5⟩=>by subst z;exact mid G v u s3 a1 a2 a3 a4 a5⟩
    refine brDT hb ⟨dx4,_,k1,rfl,dx4,_,k1,rfl,a,t,w,trs,ws,ex,s2,rfl,r4,ok,a,t,w,trs,ws,ex,s2,_,rfl,r4,ok,f2,?_⟩
    show SRW K a t w trs ws ex _ _ _ _ (stakeIf ws (decide (wd ws s2.sp= ")")) s2)
    cases hk2:stakeIf ws (decide (wd ws s2.sp= ")")) s2 with
    |inl i=>
     rw[hk2] at q
     exact SErrW_mono q eB4 r4
    |inr x=>
     obtain⟨z,s3⟩:=x
     rw[hk2] at q
     obtain⟨b1,b2,b3,_⟩:=stakeIf_good hk2
     intro H5 v5 e5 r5 _
     exact⟨v4,u2,s3,rfl,eB4.trans e5,r5,hu4.extB r4 e5,by omega,q⟩
 ·rw[if_neg hw] at q
  refine⟨dx1,_,g1,rfl,a,t,w,trs,ws,ex,s,rfl,r1,ok,hs,mc,o1,b3,o2,?_⟩
  rw[show fuelS s.op ex.2-1=n by omega]
  exact SRW.mono q eB r1
def sp_SayingReader_whole (K:Kf):Sp:=fun vs H Q E=>∃(a t w:Addr) (trs ws:List Str) (s:SSt),vs= [.ref a]∧SRdAt K H a t w trs ws (.non,none) s∧WsOk ws∧s.sp≤ws.length∧MC K∧s.op=0∧
 SRW K a t w trs ws (.non,none) H Q E STreeAt (swholeOf trs ws s)
theorem len_SayingReader_whole (h:sp_SayingReader_whole K vs H Q E):vs.length=1:=by
 obtain⟨_,_,_,_,_,_,rfl,_⟩:=h
 rfl
def N_SayingReader_whole:List Str:= ["self","tree"]
def t_SayingReader_whole (K:Kf) (E:XK):TS:=
 (tSeq (tAsg (yMeth (He.ga K "SayingReader") "any_of" (sp_SayingReader_any_of 12 K) (fun cls d _ H=>E cls d H) (yVar 0) tNil) (gName 1))
    (tSeq (yIf (yTst (tOp zLt (yFld (isC K ["SayingReader"]) (yVar 0) "spot") (tCB (zLen K) (tCons (yFld (isC K ["SayingReader"]) (yVar 0) "words") tNil)))) (yRaise (yMkR (He.ga K "BadSaying") (spI1 (He.ga K "BadSaying") "index" fmtOk) (tCons (yFld (isC K ["SayingReader"]) (yVar 0) "spot") tNil)) (fun cls d _ H=>E cls d H)) tNext)
    (tRet (yVar 1))))
theorem pure_SayingReader_whole (h:sp_SayingReader_whole K vs H Q E):t_SayingReader_whole K E (dEnd Q) (start N_SayingReader_whole vs) H:=by
 obtain⟨a,t,w,trs,ws,s,rfl,r,ok,hs,mc,o1,q⟩:=h
 obtain⟨dx,h1,h2,h3,h4⟩:=id r
 have ol:=ok.len
 unfold swholeOf at q
 refine⟨dx,_,h1,rfl,a,t,w,trs,ws,(.non,none),s,rfl,r,ok,hs,mc,by omega,(show 0≤3 by decide),(show fuelS s.op none≤12 by rw[o1];decide),?_⟩
 cases hk:sanyOf (ssingle trs ws (fuelS s.op none) none) ws s with
 |inl i=>
  rw[hk] at q
  exact q
 |inr x=>
  obtain⟨u,s1⟩:=x
  rw[hk] at q
  obtain⟨f1,f2,f3⟩:=sanyOf_good (ssingle_good trs ws _ _) _ _ _ hs hk
  intro H1 v1 e1 r1 hu
  obtain⟨dx1,g1,g2,g3,_⟩:=id r1
  dsimp only at q
  refine⟨_,dx1,_,_,g1,rfl,rfl,_,dx1,_,_,g1,rfl,rfl,_,.inl (SqL.of g3),brD (fun hlt=> ?_) fun hlt=> ?_⟩
  ·have hlt:s1.sp<ws.length:=by
      have hlt:((s1.sp:Nat):Int)<((ws.map V.str).length:Nat):=hlt
      rw[z8] at hlt
      omega
   rw[if_pos hlt] at q
   exact⟨_,dx1,_,_,g1,rfl,rfl,err_raise (SErrW_mono q e1 r1) (by omega)⟩
  ·have hlt: ¬s1.sp<ws.length:=fun z=>hlt (by
      show((s1.sp:Nat):Int)<((ws.map V.str).length:Nat)
      rw[z8]
      omega)
   rw[if_neg hlt] at q
   exact q H1 v1 e1 r1 hu
end
theorem ExtB.mutN {a L:Addr} {H G:Hp} {o:HO} (e:ExtB a H G) (h:H L=none):ExtB a H (upd G L o):=fun b u n hb=>by
 rw[upd_ne (ne_of_none hb h)]
 exact e b u n hb
section
variable {K:Kf} {vs:List V} {H:Hp} {Q:VK} {E:XK} {N:Nat}
theorem SRdAt.put {G:Hp} {a t w dx:Addr} {trs ws:List Str} {ex ex':SRX} {s s':SSt} (r:SRdAt K G a t w trs ws ex s) (hb:BdAt G ex'):SRdAt K (upd G a (.ins (He.ga K "SayingReader") dx (("tracks",.ref t)::("words",.ref w)::("spot",.int (s'.sp:Nat))::("parts_left",.int (s'.pl:Nat))::("open_ones",.int (s'.op:Nat))::srd s' ex'))) a t w trs ws ex' s':=by
 obtain⟨dx0,h1,h2,h3,h4⟩:=id r
 exact⟨dx,upd_same,by rw[upd_ne (r.ne h2)];exact h2,by rw[upd_ne (r.neL h3)];exact h3,hb.extB (fun b xs q=>r.neL q) ExtB.put⟩
def N_SayingReader_block:List Str:= ["self","kind","names","tree"]
def t_SayingReader_block (N:Nat) (K:Kf) (E:XK):TS:=
 (tSeq (tAsg (yMeth (He.ga K "SayingReader") "take" (sp_SayingReader_take K) (fun cls d _ H=>E cls d H) (yVar 0) (tCons (yAndV (tOp zIs (yFld (isC K ["SayingReader"]) (yVar 0) "bound") (tC .non)) (tOp zGt (yFld (isC K ["SayingReader"]) (yVar 0) "blocks_left") (tC (.int 0)))) tNil)) (gName 1))
    (tSeq (yAugF (isC K ["SayingReader"]) (yVar 0) (tC (.int 1)) zSub "blocks_left")
    (tSeq (tAsg (tLst (tCons (yMeth (He.ga K "SayingReader") "take" (sp_SayingReader_take K) (fun cls d _ H=>E cls d H) (yVar 0) (tCons (yCall (sp_p_is_name K) E0 (tCons (yMeth (He.ga K "SayingReader") "word" (sp_SayingReader_word K) W0 (yVar 0) tNil) tNil)) tNil)) tNil)) (gName 2))
    (tSeq (yWhile (yTst (tOp zNe (yMeth (He.ga K "SayingReader") "word" (sp_SayingReader_word K) W0 (yVar 0) tNil) (tC (.str "(")))) (tDrop (tBM K "list" zApp (yVar 2) (tCons (yMeth (He.ga K "SayingReader") "take" (sp_SayingReader_take K) (fun cls d _ H=>E cls d H) (yVar 0) (tCons (yAndV (yCall (sp_p_is_name K) E0 (tCons (yMeth (He.ga K "SayingReader") "word" (sp_SayingReader_word K) W0 (yVar 0) tNil) tNil)) (yAndV (tOp (zIn K true) (yMeth (He.ga K "SayingReader") "word" (sp_SayingReader_word K) W0 (yVar 0) tNil) (yVar 2)) (tOp zLt (tCB (zLen K) (tCons (yVar 2) tNil)) (tC (.int 3))))) tNil)) tNil))))
    (tSeq (tDrop (yMeth (He.ga K "SayingReader") "take" (sp_SayingReader_take K) (fun cls d _ H=>E cls d H) (yVar 0) (tCons (tC (.bl true)) tNil)))
    (tSeq (yPutF (isC K ["SayingReader"]) (yVar 0) (yVar 2) "bound")
    (tSeq (tAsg (yMeth (He.ga K "SayingReader") "any_of" (sp_SayingReader_any_of N K) (fun cls d _ H=>E cls d H) (yVar 0) tNil) (gName 3))
    (tSeq (tDrop (yMeth (He.ga K "SayingReader") "take" (sp_SayingReader_take K) (fun cls d _ H=>E cls d H) (yVar 0) (tCons (tOp zEq (yMeth (He.ga K "SayingReader") "word" (sp_SayingReader_word K) W0 (yVar 0) tNil) (tC (.str ")"))) tNil)))
    (tSeq (yPutF (isC K ["SayingReader"]) (yVar 0) (tC .non) "bound")
    (tRet (tTup (tCons (yVar 1) (tCons (tCB (zTuple K) (tCons (yVar 2) tNil)) (tCons (yVar 3) tNil))))))))))))))
theorem pure_SayingReader_block (h:sp_SayingReader_block N K vs H Q E):t_SayingReader_block N K E (dEnd Q) (start N_SayingReader_block vs) H:=by
 obtain⟨a,t,w,trs,ws,ex,s,rfl,r,ok,hs,mc,o1,b3,o2,q⟩:=h
 obtain⟨dx,h1,h2,h3,h4⟩:=id r
 obtain⟨bv,bd⟩:=ex
 unfold sblockOf at q
 cases bd with
 |some ns=>
  obtain⟨b,rfl,h5⟩:∃b,bv= .ref b∧H b=some (.lst (ns.map V.str)):=h4
  have e0:stakeIf ws false s= .inl s.sp:=if_neg (fun z=>by cases z.1)
  have q:ErrW K a H E s.sp:=by
   have z:(Option.isNone (some ns)&&decide (0<s.bl))=false:=rfl
   dsimp only at q
   rw[z,e0] at q
   exact q
  refine⟨dx,_,h1,rfl,_,dx,_,_,h1,rfl,rfl,brF rfl ⟨a,t,w,trs,ws,_,s,false,rfl,r,ok,hs,?_⟩⟩
  rw[e0]
  exact q
 |none=>
 have h4:bv= .non:=h4
 subst h4
 have ob:(Option.isNone (none:Option (List Str))&&decide (0<s.bl))=decide (0<s.bl):=rfl
 dsimp only at q o2
 rw[ob] at q
 refine⟨dx,_,h1,rfl,_,dx,_,_,h1,rfl,rfl,brT rfl ⟨_,dx,_,_,h1,rfl,rfl,a,t,w,trs,ws,_,s,_,rfl,r,ok,hs,?_⟩⟩
 have ed:decide ((0:Int)<((s.bl:Nat):Int))=decide (0<s.bl):=decide_eq_decide.mpr ⟨fun z=>by omega,fun z=>by omega⟩
 show SRW K a t w trs ws (.non,none) H _ _ _ (stakeIf ws (decide ((0:Int)<((s.bl:Nat):Int))) s)
 rw[ed]
 cases hk:stakeIf ws (decide (0<s.bl)) s with
 |inl i=>
  rw[hk] at q
  exact q
 |inr z0=>
 obtain⟨k,s1⟩:=z0
 rw[hk] at q
 obtain⟨z1,z2,z3,z4,z5,z6,z7⟩:=stakeIf_good hk
 have z4:0<s.bl:=of_decide_eq_true z4
 rintro H1 v1 e1 r1 rfl
 obtain⟨dx1,g1,g2,g3,g4⟩:=id r1
 dsimp only at q
 refine⟨_,dx1,_,_,g1,rfl,rfl,dx1,_,g1,(show 7<1000 by decide),?_⟩
 have eb:(((s1.bl:Nat):Int)-1)=((s1.bl-1:Nat):Int):=by omega
 have r2:SRdAt K (upd H1 a (.ins (He.ga K "SayingReader") dx1 (("tracks",.ref t)::("words",.ref w)::("spot",.int (s1.sp:Nat))::("parts_left",.int (s1.pl:Nat))::("open_ones",.int (s1.op:Nat))::[("blocks_left",.int (((s1.bl:Nat):Int)-1)),("bound",.non)]))) a t w trs ws (.non,none) {s1 with bl:=s1.bl-1}:=by
  rw[eb]
  exact SRdAt.put (ex':=(.non,none)) (s':={s1 with bl:=s1.bl-1}) r1 rfl
 have e2:ExtB a H (upd H1 a (.ins (He.ga K "SayingReader") dx1 (("tracks",.ref t)::("words",.ref w)::("spot",.int (s1.sp:Nat))::("parts_left",.int (s1.pl:Nat))::("open_ones",.int (s1.op:Nat))::[("blocks_left",.int (((s1.bl:Nat):Int)-1)),("bound",.non)]))):=e1.trans ExtB.put
 show tSeq _ _ _ _ (upd H1 a (.ins (He.ga K "SayingReader") dx1 (("tracks",.ref t)::("words",.ref w)::("spot",.int (s1.sp:Nat))::("parts_left",.int (s1.pl:Nat))::("open_ones",.int (s1.op:Nat))::[("blocks_left",.int (((s1.bl:Nat):Int)-1)),("bound",.non)])))
 generalize upd H1 a (.ins (He.ga K "SayingReader") dx1 (("tracks",.ref t)::("words",.ref w)::("spot",.int (s1.sp:Nat))::("parts_left",.int (s1.pl:Nat))::("open_ones",.int (s1.op:Nat))::[("blocks_left",.int (((s1.bl:Nat):Int)-1)),("bound",.non)]))=H2 at e2 r2⊢
 obtain⟨dx2,i1,i2,i3,i4⟩:=id r2
 refine⟨dx2,_,i1,rfl,dx2,_,i1,rfl,a,t,w,trs,ws,_,_,rfl,r2,ok,wd ws s1.sp,rfl,ok.wd _,mc.barred,fun H3 e3=> ?_⟩
 have r3:=r2.ext e3
 have e03:=e2.trans e3.extB
 refine⟨a,t,w,trs,ws,_,_,_,rfl,r3,ok,z3,?_⟩
 cases hk2:stakeIf ws (nameOk (wd ws s1.sp)) {s1 with bl:=s1.bl-1} with
 |inl i=>
  rw[hk2] at q
  exact SErrW_mono q e03 r3
 |inr z0=>
 obtain⟨x,s2⟩:=z0
 rw[hk2] at q
 obtain⟨y1,y2,y3,y4,y5,y6,y7⟩:=stakeIf_good hk2
 have y2:s2.op=s1.op:=y2
 rintro H4 v4 e4 r4 rfl
 have e04:=e03.trans e4
 dsimp only at q
 refine⟨(show 1≤sizeLine by decide),fun L nL4=> ?_⟩
 have nL:H L=none:=by
  cases hL:H L with
  |none=>rfl
  |some o=>
   exfalso
   by_cases hLa:L=a
   ·obtain⟨dx4,j1,_⟩:=id r4
    rw[hLa,j1] at nL4
    cases nL4
   ·rw[e04 L o hLa hL] at nL4
    cases nL4
 have neA:L≠a:=fun z=>by rw[z,h1] at nL;cases nL
 have neW:w≠L:=fun z=>by rw[z,nL] at h3;cases h3
 have rput:∀{G:Hp} {s':SSt} {o:HO},SRdAt K G a t w trs ws (.non,none) s'→(∀xs,G L≠some (.tup xs))→SRdAt K (upd G L o) a t w trs ws (.non,none) s':=fun{G s' o} rG hn=>by
  obtain⟨dxG,k1,k2,k3,k4⟩:=rG
  exact⟨dxG,by rw[upd_ne neA.symm];exact k1,by rw[upd_ne (fun z=>hn _ (z▸k2))];exact k2,by rw[upd_ne neW];exact k3,rfl⟩
 refine⟨fun m σ G=>∃(ns:List Str) (s':SSt) (n:Nat) (x3:Option V),σ= [some (.ref a),some (.str k),some (.ref L),x3]∧ExtB a H G∧SRdAt K G a t w trs ws (.non,none) s'∧G L=some (.lst (ns.map V.str))∧s'.sp≤ws.length∧s'.op=s.op∧ns.length≤3∧ws.length≤s'.sp+n∧m=ws.length-s'.sp∧
  SRW K a t w trs ws (.non,none) H Q E STreeAt (match snames ws n ns s' with
        | .inl i=> .inl i
        | .inr (ns,s3)=>match stakeIf ws true s3 with
          | .inl i=> .inl i
          | .inr (_,s4)=>match sanyOf (ssingle trs ws (fuelS s.op none-1) (some ns)) ws s4 with
            | .inl i=> .inl i
            | .inr (t,s5)=>match stakeIf ws (decide (wd ws s5.sp= ")")) s5 with
              | .inl i=> .inl i
              | .inr (_,s6)=> .inr (.blk k ns t,s6)),⟨_,[x],s2,ws.length,_,rfl,e04.mutN nL,rput r4 (fun xs z=>by rw[nL4] at z;cases z),upd_same,y3,by omega,(show 1≤3 by decide),by omega,rfl,q⟩,?_⟩
 rintro m σ G ⟨ns,s',n,x3,rfl,eG,rG,gL,d1,d2,d3,d4,rfl,qL⟩
 obtain⟨dx',k1,k2,k3,k4⟩:=id rG
 refine⟨dx',_,k1,rfl,a,t,w,trs,ws,_,s',rfl,rG,ok,brN (fun hne=> ?_) fun he=> ?_⟩
 ·
  have bbD:∀b:Bool,b=(nameOk (wd ws s'.sp)&& (!decide (wd ws s'.sp∈ns)&&decide (ns.length<3)))→∀(G':Hp) (Qc:VK),Ext G G'→
        (∀(H5:Hp) (y:Str) (s5:SSt),stakeIf ws (nameOk (wd ws s'.sp)&& (!decide (wd ws s'.sp∈ns)&&decide (ns.length<3))) s'= .inr (y,s5)→ExtB a G H5→SRdAt K H5 a t w trs ws (.non,none) s5→Qc (.str y) H5)→
        sp_SayingReader_take K [.ref a,.bl b] G' Qc (fun cls d H'=>E cls d H'):=fun b hb G' Qc eG' cont=>by
   subst hb
   refine⟨a,t,w,trs,ws,_,s',_,rfl,rG.ext eG',ok,d1,?_⟩
   cases hk3:stakeIf ws (nameOk (wd ws s'.sp)&& (!decide (wd ws s'.sp∈ns)&&decide (ns.length<3))) s' with
   |inl i=>
    have hi:i=s'.sp:=by
     unfold stakeIf at hk3
     split at hk3
     ·cases hk3
     ·cases hk3
      rfl
    subst hi
    cases n with
    |zero=>
     unfold snames at qL
     rw[if_neg hne] at qL
     exact SErrW_mono (s:=s') qL (eG.trans eG'.extB) (rG.ext eG')
    |succ n'=>
    unfold snames at qL
    rw[if_neg hne,hk3] at qL
    exact SErrW_mono (s:=s') qL (eG.trans eG'.extB) (rG.ext eG')
   |inr z0=>
    obtain⟨y,s5⟩:=z0
    rintro H5 v5 e5 r5 rfl
    exact cont H5 y s5 hk3 (eG'.extB.trans e5) r5
  refine⟨.inl ⟨rfl,_,SqL.of gL⟩,dx',_,k1,rfl,dx',_,k1,rfl,a,t,w,trs,ws,_,s',rfl,rG,ok,wd ws s'.sp,rfl,ok.wd _,mc.barred,fun G2 e2'=> ?_⟩
  have rG2:=rG.ext e2'
  have gL2:=e2' _ _ gL
  obtain⟨dx5,l1,_⟩:=id rG2
  refine br (fun hnm=> ?_) fun hnm=> ?_
  ·refine⟨dx5,_,l1,rfl,a,t,w,trs,ws,_,s',rfl,rG2,ok,_,.inl (SqL.of gL2),rfl,flat_strs,?_⟩
   rw[inV_str]
   refine brN (fun hni=> ?_) fun hni=> ?_
   ·refine⟨_,.inl (SqL.of gL2),?_⟩
    refine bbD _ ?_ G2 _ e2' fun H5 y s5 hs5 e5 r5=> ?_
    ·rw[hnm,decide_eq_false hni,z8]
     show decide (((ns.length:Nat):Int)<3)=decide (ns.length<3)
     exact decide_eq_decide.mpr ⟨fun z=>by omega,fun z=>by omega⟩
    ·obtain⟨w1,w2,w3,w4,_⟩:=stakeIf_good hs5
     rw[Bool.and_eq_true,Bool.and_eq_true] at w4
     have w5:ns.length<3:=of_decide_eq_true w4.2.2
     have gL5:=e5 L _ neA gL
     obtain⟨n',rfl⟩:∃n',n=n'+1:=⟨n-1,by omega⟩
     unfold snames at qL
     rw[if_neg hne,hs5] at qL
     exact⟨_,gL5,by rw[z8,sizeLine_eq];omega,_,(show ws.length-s5.sp<ws.length-s'.sp by omega),ns++ [y],s5,n',x3,rfl,(eG.trans e5).mutN nL,rput r5 (fun xs z=>by rw[gL5] at z;cases z),by rw[upd_same,z16];rfl,w3,by omega,by rw[z17];exact w5,by omega,rfl,qL⟩
   ·refine bbD _ ?_ G2 _ e2' fun H5 y s5 hs5 e5 r5=> ?_
    ·rw[decide_eq_true hni,hnm]
     rfl
    ·obtain⟨_,_,_,w4,_⟩:=stakeIf_good hs5
     rw[decide_eq_true hni,hnm] at w4
     cases w4
  ·refine bbD _ ?_ G2 _ e2' fun H5 y s5 hs5 e5 r5=> ?_
   ·rw[hnm]
    rfl
   ·obtain⟨_,_,_,w4,_⟩:=stakeIf_good hs5
    rw[hnm] at w4
    cases w4
 ·have hsn:snames ws n ns s'= .inr (ns,s'):=by
   cases n with
   |zero=>exact if_pos he
   |succ n=>exact if_pos he
  rw[hsn] at qL
  dsimp only at qL
  refine⟨dx',_,k1,rfl,a,t,w,trs,ws,_,s',true,rfl,rG,ok,d1,?_⟩
  cases hk3:stakeIf ws true s' with
  |inl i=>
   rw[hk3] at qL
   exact SErrW_mono qL eG rG
  |inr z0=>
  obtain⟨p4,s4⟩:=z0
  rw[hk3] at qL
  obtain⟨b1,b2,b3',_⟩:=stakeIf_good hk3
  have hop:s4.op=s.op:=by omega
  rintro H6 v6 e6 r6 _
  dsimp only at qL
  obtain⟨dx6,j1,j2,j3,_⟩:=id r6
  have gL6:=e6 L _ neA gL
  have e06:=eG.trans e6
  refine⟨_,dx6,_,j1,rfl,(show 7<1000 by decide),?_⟩
  have r7:=SRdAt.put (dx:=dx6) (ex':=(.ref L,some ns)) (s':=s4) r6 ⟨L,rfl,gL6⟩
  have e7:=e06.trans (ExtB.put (a:=a) (H:=H6) (o:= .ins (He.ga K "SayingReader") dx6 (("tracks",.ref t)::("words",.ref w)::("spot",.int (s4.sp:Nat))::("parts_left",.int (s4.pl:Nat))::("open_ones",.int (s4.op:Nat))::srd s4 (.ref L,some ns))))
  have gL7:(upd H6 a (.ins (He.ga K "SayingReader") dx6 (("tracks",.ref t)::("words",.ref w)::("spot",.int (s4.sp:Nat))::("parts_left",.int (s4.pl:Nat))::("open_ones",.int (s4.op:Nat))::srd s4 (.ref L,some ns)))) L=some (.lst (ns.map V.str)):=by
   rw[upd_ne neA]
   exact gL6
  show tSeq _ _ _ _ (upd H6 a (.ins (He.ga K "SayingReader") dx6 (("tracks",.ref t)::("words",.ref w)::("spot",.int (s4.sp:Nat))::("parts_left",.int (s4.pl:Nat))::("open_ones",.int (s4.op:Nat))::srd s4 (.ref L,some ns))))
  generalize upd H6 a (.ins (He.ga K "SayingReader") dx6 (("tracks",.ref t)::("words",.ref w)::("spot",.int (s4.sp:Nat))::("parts_left",.int (s4.pl:Nat))::("open_ones",.int (s4.op:Nat))::srd s4 (.ref L,some ns)))=H7 at r7 e7 gL7⊢
  obtain⟨dx7,l1,_⟩:=id r7
  have hf:fuelS s4.op (some ns)=fuelS s.op none-1:=by
   rw[fuel_some,fuel_none,hop]
   omega
  refine⟨dx7,_,l1,rfl,a,t,w,trs,ws,(.ref L,some ns),s4,rfl,r7,ok,b3',mc,by omega,d3,(show fuelS s4.op (some ns)≤N by rw[hf];omega),?_⟩
  show SRW K a t w trs ws (.ref L,some ns) H7 _ _ _ (sanyOf (ssingle trs ws (fuelS s4.op (some ns)) (some ns)) ws s4)
  rw[hf]
  cases hk4:sanyOf (ssingle trs ws (fuelS s.op none-1) (some ns)) ws s4 with
  |inl i=>
   rw[hk4] at qL
   exact SErrW_mono qL e7 r7
  |inr z0=>
  obtain⟨u,s5⟩:=z0
  rw[hk4] at qL
  obtain⟨c1,c2,c3⟩:=sanyOf_good (ssingle_good trs ws _ _) _ _ _ b3' hk4
  intro H8 v8 e8 r8 hu
  dsimp only at qL
  obtain⟨dx8,m1,m2,m3,_⟩:=id r8
  have e08:=e7.trans e8
  have gL8:=e8 L _ neA gL7
  refine⟨dx8,_,m1,rfl,dx8,_,m1,rfl,a,t,w,trs,ws,_,s5,rfl,r8,ok,a,t,w,trs,ws,(.ref L,some ns),s5,_,rfl,r8,ok,c2,?_⟩
  show SRW K a t w trs ws (.ref L,some ns) H8 _ _ _ (stakeIf ws (decide (wd ws s5.sp= ")")) s5)
  cases hk5:stakeIf ws (decide (wd ws s5.sp= ")")) s5 with
  |inl i=>
   rw[hk5] at qL
   exact SErrW_mono qL e08 r8
  |inr z0=>
  obtain⟨p6,s6⟩:=z0
  rw[hk5] at qL
  rintro H9 v9 e9 r9 _
  dsimp only at qL
  obtain⟨dx9,n1,_⟩:=id r9
  have e09:=e08.trans e9
  have gL9:=e9 L _ neA gL8
  refine⟨_,dx9,_,n1,rfl,(show 7<1000 by decide),?_⟩
  have r10:=SRdAt.put (dx:=dx9) (ex':=(.non,none)) (s':=s6) r9 rfl
  have hu10:=(hu.extB r8 e9).extB r9 (ExtB.put (o:= .ins (He.ga K "SayingReader") dx9 (("tracks",.ref t)::("words",.ref w)::("spot",.int (s6.sp:Nat))::("parts_left",.int (s6.pl:Nat))::("open_ones",.int (s6.op:Nat))::srd s6 (.non,none))))
  have e10:=e09.trans (ExtB.put (a:=a) (H:=H9) (o:= .ins (He.ga K "SayingReader") dx9 (("tracks",.ref t)::("words",.ref w)::("spot",.int (s6.sp:Nat))::("parts_left",.int (s6.pl:Nat))::("open_ones",.int (s6.op:Nat))::srd s6 (.non,none))))
  have gL10:(upd H9 a (.ins (He.ga K "SayingReader") dx9 (("tracks",.ref t)::("words",.ref w)::("spot",.int (s6.sp:Nat))::("parts_left",.int (s6.pl:Nat))::("open_ones",.int (s6.op:Nat))::srd s6 (.non,none)))) L=some (.lst (ns.map V.str)):=by
   rw[upd_ne neA]
   exact gL9
  show tRet (tTup (tCons (yVar 1) (tCons (tCB (zTuple K) (tCons (yVar 2) tNil)) (tCons (yVar 3) tNil)))) (dEnd Q) [some (.ref a),some (.str k),some (.ref L),some v8] (upd H9 a (.ins (He.ga K "SayingReader") dx9 (("tracks",.ref t)::("words",.ref w)::("spot",.int (s6.sp:Nat))::("parts_left",.int (s6.pl:Nat))::("open_ones",.int (s6.op:Nat))::srd s6 (.non,none))))
  generalize upd H9 a (.ins (He.ga K "SayingReader") dx9 (("tracks",.ref t)::("words",.ref w)::("spot",.int (s6.sp:Nat))::("parts_left",.int (s6.pl:Nat))::("open_ones",.int (s6.op:Nat))::srd s6 (.non,none)))=H10 at r10 hu10 e10 gL10⊢
  refine⟨_,.inl ⟨SqL.of gL10,fun l nl=> ?_⟩⟩
  refine⟨(show 3≤sizeLine by decide),fun p np=> ?_⟩
  have el:=Ext.new (o:= .tup (ns.map V.str)) nl
  have ep:=Ext.new (o:= .tup [.str k,.ref l,v8]) np
  exact qL _ _ ((e10.trans el.extB).trans ep.extB) ((r10.ext el).ext ep) (.blk upd_same (ep _ _ upd_same) ((hu10.ext el).ext ep))
end
section
variable {K:Kf} {vs:List V} {H:Hp} {Q:VK} {E:XK}
def rd5 (t w:Addr):List (Str × V):= [("tracks",.ref t),("words",.ref w),("spot",.int ((0:Nat):Int)),("parts_left",.int ((8:Nat):Int)),("open_ones",.int ((0:Nat):Int))]
def sp_SayingReader_super_init (K:Kf):Sp:=fun vs H Q _=>∃(a dx t w:Addr),vs= [.ref a,.ref t,.ref w]∧H a=some (.ins (He.ga K "SayingReader") dx [])∧∀H',ExtB a H H'→H' a=some (.ins (He.ga K "SayingReader") dx (rd5 t w))→Q .non H'
theorem len_SayingReader_super_init (h:sp_SayingReader_super_init K vs H Q E):vs.length=3:=by
 obtain⟨_,_,_,_,rfl,_⟩:=h
 rfl
def N_SayingReader_super_init:List Str:= ["self","tracks","words"]
def t_SayingReader_super_init (K:Kf) (E:XK):TS:=
 (tSeq (yPutF (isC K ["SayingReader"]) (yVar 0) (yVar 1) "tracks")
    (tSeq (yPutF (isC K ["SayingReader"]) (yVar 0) (yVar 2) "words")
    (tSeq (yPutF (isC K ["SayingReader"]) (yVar 0) (tC (.int 0)) "spot")
    (tSeq (yPutF (isC K ["SayingReader"]) (yVar 0) (tC (.int 8)) "parts_left")
    (yPutF (isC K ["SayingReader"]) (yVar 0) (tC (.int 0)) "open_ones")))))
theorem pure_SayingReader_super_init (h:sp_SayingReader_super_init K vs H Q E):t_SayingReader_super_init K E (dEnd Q) (start N_SayingReader_super_init vs) H:=by
 obtain⟨a,dx,t,w,rfl,ha,q⟩:=h
 refine⟨_,dx,_,ha,rfl,by decide,_,dx,_,upd_same,rfl,(show 1<1000 by decide),_,dx,_,upd_same,rfl,(show 2<1000 by decide),_,dx,_,upd_same,rfl,(show 3<1000 by decide),_,dx,_,upd_same,rfl,(show 4<1000 by decide),?_⟩
 exact q _ ((((ExtB.put.trans ExtB.put).trans ExtB.put).trans ExtB.put).trans ExtB.put) upd_same
def sp_SayingReader_init (K:Kf):Sp:=fun vs H Q _=>∃(a dx t w:Addr) (trs ws:List Str),vs= [.ref a,.ref t,.ref w]∧H a=some (.ins (He.ga K "SayingReader") dx [])∧H t=some (.tup (trs.map V.str))∧H w=some (.lst (ws.map V.str))∧
 ∀H',ExtB a H H'→SRdAt K H' a t w trs ws (.non,none) ⟨0,8,0,3⟩→Q .non H'
theorem len_SayingReader_init (h:sp_SayingReader_init K vs H Q E):vs.length=3:=by
 obtain⟨_,_,_,_,_,_,rfl,_⟩:=h
 rfl
def N_SayingReader_init:List Str:= ["self","tracks","words"]
def ta_SayingReader_init (K:Kf) (E:XK):TA:=
 (tCons (yVar 1) (tCons (yVar 2) tNil))
def t_SayingReader_init (K:Kf) (E:XK):TS:=
 (tSeq (yPutF (isC K ["SayingReader"]) (yVar 0) (tC (.int 3)) "blocks_left")
    (yPutF (isC K ["SayingReader"]) (yVar 0) (tC .non) "bound"))
theorem pure_SayingReader_init (h:sp_SayingReader_init K vs H Q E):∃a dx ws',vs= .ref a::ws'∧H a=some (.ins (He.ga K "SayingReader") dx [])∧ta_SayingReader_init K E (start N_SayingReader_init vs) H fun us H1=>
 sp_SayingReader_super_init K (.ref a::us) H1 (fun _ H2=>t_SayingReader_init K E {nx:=fun _ H'=>Q .non H',rt:=Q} (start N_SayingReader_init vs) H2) E0:=by
 obtain⟨a,dx,t,w,trs,ws,rfl,ha,ht,hw,q⟩:=h
 have nt:t≠a:=fun z=>by rw[z,ha] at ht;cases ht
 have nw:w≠a:=fun z=>by rw[z,ha] at hw;cases hw
 refine⟨a,dx,_,rfl,ha,a,dx,t,w,rfl,ha,fun H' e h'=> ?_⟩
 refine⟨_,dx,_,h',rfl,(show 5<1000 by decide),_,dx,_,upd_same,rfl,(show 6<1000 by decide),?_⟩
 refine q _ ((e.trans ExtB.put).trans ExtB.put) ⟨dx,upd_same,?_,?_,rfl⟩
 ·rw[upd_ne nt,upd_ne nt]
  exact e _ _ nt ht
 ·rw[upd_ne nw,upd_ne nw]
  exact e _ _ nw hw
theorem len_Saying_init (h:sp_Saying_init K vs H Q E):vs.length=3:=by
 obtain⟨_,_,_,_,_,_,rfl,_⟩:=h
 rfl
def N_Saying_init:List Str:= ["self","tracks","text","words"]
def t_Saying_init (K:Kf) (E:XK):TS:=
 (tSeq (tDrop (yCallS (sp_p_check_tracks K) (fun cls d _ H=>E cls d H) (tCons (yVar 1) tNil)))
    (tSeq (tAsg (yIfE (yTst (tOp zNe (yVar 2) (tC (.str "")))) (tBM K "str" zSplit (yVar 2) (tCons (tC (.str " ")) tNil)) (tLst tNil)) (gName 3))
    (tSeq (yPutF (isC K ["Saying"]) (yVar 0) (tCB (zTuple K) (tCons (yVar 1) tNil)) "tracks")
    (tSeq (yPutF (isC K ["Saying"]) (yVar 0) (yVar 2) "text")
    (tSeq (yPutF (isC K ["Saying"]) (yVar 0) (yMeth (He.ga K "SayingReader") "whole" (sp_SayingReader_whole K) (fun cls d _ H=>E cls d H) (yNew (He.ga K "SayingReader") (sp_SayingReader_init K) W0 (tCons (yFld (isC K ["Saying"]) (yVar 0) "tracks") (tCons (yVar 3) tNil))) tNil) "tree")
    (yPutF (isC K ["Saying"]) (yVar 0) (tOp (zIn K false) (tC (.str "here")) (yVar 3)) "has_here"))))))
def t_sayR (K:Kf) (E:XK):TS:=
 (tSeq (yPutF (isC K ["Saying"]) (yVar 0) (tCB (zTuple K) (tCons (yVar 1) tNil)) "tracks")
    (tSeq (yPutF (isC K ["Saying"]) (yVar 0) (yVar 2) "text")
    (tSeq (yPutF (isC K ["Saying"]) (yVar 0) (yMeth (He.ga K "SayingReader") "whole" (sp_SayingReader_whole K) (fun cls d _ H=>E cls d H) (yNew (He.ga K "SayingReader") (sp_SayingReader_init K) W0 (tCons (yFld (isC K ["Saying"]) (yVar 0) "tracks") (tCons (yVar 3) tNil))) tNil) "tree")
    (yPutF (isC K ["Saying"]) (yVar 0) (tOp (zIn K false) (tC (.str "here")) (yVar 3)) "has_here"))))
theorem pure_Saying_init (h:sp_Saying_init K vs H Q E):t_Saying_init K E (dEnd Q) (start N_Saying_init vs) H:=by
 obtain⟨H0,a,dx,p,trs,txt,rfl,ha,x0,na,hp,hl,htl,mc,qT,qM,qQ⟩:=h
 refine⟨p,trs,rfl,hp,hl,mc.barred,fun i hi d H' e nd hd=>qT i hi d H' (x0.trans e) (x0.back nd) hd,fun hw H1 e1=> ?_⟩
 have wok:WsOk (sayWs txt):=by
  unfold sayWs
  split
  ·exact⟨(show 0≤16777216 by decide),fun x hx=>by cases hx⟩
  ·refine⟨?_,fun x hx=>by have:=part_len hx;omega⟩
   have:=splt_len (t:=txt)
   omega
 have rest:∀(w:Addr) (H2:Hp),Ext H1 H2→H2 w=some (.lst ((sayWs txt).map V.str))→t_sayR K E (dEnd Q) [some (.ref a),some (.ref p),some (.str txt),some (.ref w)] H2:=by
  intro w H2 e2 gw
  have e12:=e1.trans e2
  dsimp only[t_sayR,tSeq,yPutF,tCons,tCB]
  refine yVarAt (v:= .ref p) rfl ?_
  dsimp only[tNil]
  refine zTuple_seq (hp.ext e12) fun t H3 e3 ht=> ?_
  have e13:=e12.trans e3
  have ha3:=e13 _ _ ha
  have gw3:=e3 _ _ gw
  have x3:=x0.trans e13
  have nt:t≠a:=fun z=>by rw[z,ha3] at ht;cases ht
  have nw:w≠a:=fun z=>by rw[z,ha3] at gw3;cases gw3
  refine⟨_,dx,_,ha3,rfl,by decide,?_⟩
  refine⟨_,dx,_,upd_same,rfl,(show 1<1000 by decide),?_⟩
  have x5:=(x3.mut na (o:= .ins (He.ga K "Saying") dx (putF "tracks" (.ref t) []))).mut na (o:= .ins (He.ga K "Saying") dx (putF "text" (.str txt) (putF "tracks" (.ref t) [])))
  have ha5:(upd (upd H3 a (.ins (He.ga K "Saying") dx (putF "tracks" (.ref t) []))) a (.ins (He.ga K "Saying") dx (putF "text" (.str txt) (putF "tracks" (.ref t) [])))) a=some (.ins (He.ga K "Saying") dx [("tracks",.ref t),("text",.str txt)]):=upd_same
  have ht5:(upd (upd H3 a (.ins (He.ga K "Saying") dx (putF "tracks" (.ref t) []))) a (.ins (He.ga K "Saying") dx (putF "text" (.str txt) (putF "tracks" (.ref t) [])))) t=some (.tup (trs.map V.str)):=by rw[upd_ne nt,upd_ne nt];exact ht
  have gw5:(upd (upd H3 a (.ins (He.ga K "Saying") dx (putF "tracks" (.ref t) []))) a (.ins (He.ga K "Saying") dx (putF "text" (.str txt) (putF "tracks" (.ref t) [])))) w=some (.lst ((sayWs txt).map V.str)):=by rw[upd_ne nw,upd_ne nw];exact gw3
  generalize upd (upd H3 a (.ins (He.ga K "Saying") dx (putF "tracks" (.ref t) []))) a (.ins (He.ga K "Saying") dx (putF "text" (.str txt) (putF "tracks" (.ref t) [])))=H5 at x5 ha5 ht5 gw5⊢
  refine⟨_,dx,_,.ref t,ha5,rfl,rfl,fun b db nb ndb hne=> ?_⟩
  have eb:Ext H5 (upd (upd H5 db (.own b)) b (.ins (He.ga K "SayingReader") db [])):=(Ext.new ndb).mut nb
  have hb:(upd (upd H5 db (.own b)) b (.ins (He.ga K "SayingReader") db [])) b=some (.ins (He.ga K "SayingReader") db []):=upd_same
  generalize upd (upd H5 db (.own b)) b (.ins (He.ga K "SayingReader") db [])=H6 at eb hb⊢
  refine⟨b,db,t,w,trs,sayWs txt,rfl,hb,eb _ _ ht5,eb _ _ gw5,fun H7 e7 r7=>⟨rfl,?_⟩⟩
  obtain⟨dx7,g7,_⟩:=id r7
  have e57:Ext H5 H7:=ExtB.out eb nb e7
  refine⟨dx7,_,g7,rfl,b,t,w,trs,sayWs txt,_,rfl,r7,wok,z35 _,mc,rfl,?_⟩
  unfold sayOf at qM qQ
  cases hk:swholeOf trs (sayWs txt) ⟨0,8,0,3⟩ with
  |inl i=>
   rw[hk] at qM
   intro d H8 e8 nd8 hd8
   exact qM hw i rfl d H8 (x5.trans (ExtB.out e57 nb e8)) (x5.back (e57.back nd8)) hd8
  |inr z=>
   obtain⟨u,s⟩:=z
   rw[hk] at qQ
   intro H8 v8 e8 r8 hu
   have e58:Ext H5 H8:=ExtB.out e57 nb e8
   have ha8:=e58 _ _ ha5
   have ht8:=e58 _ _ ht5
   have gw8:=e58 _ _ gw5
   refine⟨_,dx,_,ha8,rfl,(show 2<1000 by decide),?_⟩
   have nw8:w≠a:=nw
   refine⟨_,.inl (SqL.of (by rw[upd_ne nw8];exact gw8)),rfl,flat_strs,?_⟩
   rw[inV_str]
   refine⟨_,dx,_,upd_same,rfl,(show 3<1000 by decide),?_⟩
   refine qQ hw u rfl _ (((x5.trans e58).mut na).mut na) ⟨dx,t,v8,upd_same,by rw[upd_ne nt,upd_ne nt];exact ht8,?_⟩
   refine(hu.keep fun p xs q=> ?_)
   rw[upd_ne (fun z=>by rw[z,ha8] at q;cases q),upd_ne (fun z=>by rw[z,ha8] at q;cases q)]
   exact q
 refine brN (fun hne=> ?_) fun he=> ?_
 ·refine⟨tyS,by decide,by rw[sizeLine_eq];omega,fun b nb=> ?_⟩
  refine rest b _ (Ext.new nb) ?_
  rw[upd_same]
  unfold sayWs
  rw[if_neg hne]
 ·refine⟨z35 _,fun L nL=>rest L _ (Ext.new nL) ?_⟩
  rw[upd_same]
  unfold sayWs
  rw[if_pos he]
  rfl
end
theorem STree.dep_pos:∀t:STree,0<t.dep
 | .bin _ _ _=>Nat.succ_pos _
 | .neg _=>Nat.succ_pos _
 | .fil _ _=>Nat.one_pos
 | .cmp _ _ _=>Nat.one_pos
 | .blk _ _ _=>Nat.succ_pos _
theorem CB.sub {kvs:List (Key × V)} {bd bd':List Str} {f:Str→Nat} {m:Nat} (h:CB kvs bd f m) (s:∀x∈bd',x∈bd):CB kvs bd' f m:=⟨h.nd,fun x hx=>h.at_ x (s x hx)⟩
theorem CB.same {kvs:List (Key × V)} {bd:List Str} {f:Str→Nat} {m:Nat} (h:CB kvs bd f m):mergeK [] kvs=kvs:=by
 have:=mergeK_new (kvs:= []) (more:=kvs) (by rw[List.nil_append];exact h.nd)
 simpa using this
theorem nodup_putK {kvs:List (Key × V)} {k:Key} {v:V} (h:(kvs.map (·.1)).Nodup):((putK kvs k v).map (·.1)).Nodup:=by
 unfold putK
 by_cases e:(kvs.any fun kv=>decide (kv.1=k))=true
 ·rw[if_pos e,List.map_map]
  have:((fun x=>x.fst) ∘ fun kv:Key × V=>if kv.1=k then(kv.1,v) else kv)=fun x:Key × V=>x.1:=by
   funext kv
   show(if kv.1=k then(kv.1,v) else kv).1=kv.1
   split<;>rfl
  rw[this]
  exact h
 ·rw[if_neg e,z16,List.nodup_append]
  refine⟨h,by simp,fun a ha b hb=> ?_⟩
  have hb:b=k:=by simpa using hb
  subst hb
  rintro rfl
  obtain⟨kv,h1,h2⟩:=z37.mp ha
  exact e (List.any_eq_true.mpr ⟨kv,h1,decide_eq_true h2⟩)
theorem CB.put {kvs:List (Key × V)} {bd:List Str} {f:Str→Nat} {m c:Nat} {x:Str} (h:CB kvs bd f m) (hc:c<m):CB (putK kvs (Sum.inr x) (.int (c:Int))) (x::bd) (upN f x c) m:=by
 refine⟨nodup_putK h.nd,fun y hy=> ?_⟩
 rw[valV_put]
 unfold upN
 by_cases e:y=x
 ·subst e
  rw[if_pos rfl,if_pos rfl]
  exact⟨rfl,hc⟩
 ·rw[if_neg (fun z=>e (Sum.inr.inj z)),if_neg e]
  rcases List.mem_cons.mp hy with z|z
  ·exact absurd z e
  ·exact h.at_ y z
section
variable {K:Kf} {vs:List V} {H:Hp} {Q:VK} {E:XK} {N:Nat}
def sp_p_is_true (N:Nat) (K:Kf):Sp:=fun vs H Q _=>∃(v:V) (a c:Addr) (t:STree) (ns ss bd:List Str) (m:Nat) (kvs:List (Key × V)) (f:Str→Nat),vs= [v,.ref a,.ref c]∧STreeAt H v t∧ShS K H a ns ss m∧t.Wf ns bd∧("here":Str)∈bd∧
 H c=some (.dK kvs)∧CB kvs bd f m∧t.dep≤N∧kvs.length+N≤100∧∀H',Ext H H'→Q (.bl (saysT ns ss m t f)) H'
theorem len_p_is_true (h:sp_p_is_true N K vs H Q E):vs.length=3:=by
 obtain⟨_,_,_,_,_,_,_,_,_,_,rfl,_⟩:=h
 rfl
theorem nil_p_is_true (h:sp_p_is_true 0 K vs H Q E):False:=by
 obtain⟨_,_,_,t,_,_,_,_,_,_,_,_,_,_,_,_,_,hd,_⟩:=h
 have:=t.dep_pos
 omega
def sp_p_is_block_true (N:Nat) (K:Kf):Sp:=fun vs H Q _=>∃(v:V) (a c:Addr) (k:Str) (xs:List Str) (i:Nat) (t:STree) (ns ss:List Str) (m:Nat) (kvs:List (Key × V)) (f:Str→Nat),vs= [v,.ref a,.ref c,.int (i:Nat)]∧STreeAt H v (.blk k xs t)∧ShS K H a ns ss m∧
 (k= "all" ∨k= "some")∧xs.length≤3∧t.Wf ns ("here"::xs)∧i≤xs.length∧H c=some (.dK kvs)∧CB kvs ("here"::xs.take i) f m∧t.dep+(xs.length-i)+1≤N∧kvs.length+N≤100∧∀H',Ext H H'→Q (.bl (blkT m k (saysT ns ss m t) (xs.drop i) f)) H'
theorem len_p_is_block_true (h:sp_p_is_block_true N K vs H Q E):vs.length=4:=by
 obtain⟨_,_,_,_,_,_,_,_,_,_,_,_,rfl,_⟩:=h
 rfl
theorem nil_p_is_block_true (h:sp_p_is_block_true 0 K vs H Q E):False:=by
 obtain⟨_,_,_,_,_,_,t,_,_,_,_,_,_,_,_,_,_,_,_,_,_,hd,_⟩:=h
 omega
theorem rowAt_val {ns ss:List Str} {w:Str} (nd:ns.Nodup) (hl:ns.length=ss.length) (hw:w∈ns):valV (mergeK [] (zipK ns (ss.map V.str))) (Sum.inr w)=some (.str (rowAt ns ss w))∧rowAt ns ss w∈ss:=by
 have hi:ns.idxOf w<ns.length:=List.idxOf_lt_length_iff.mpr hw
 have h1:ns[ns.idxOf w]?=some w:=by
  rw[z9 hi]
  exact congrArg some (List.getElem_idxOf hi)
 have hi2:ns.idxOf w<ss.length:=by omega
 have h2:ss[ns.idxOf w]?=some (ss[ns.idxOf w]'hi2):=z9 hi2
 have e:rowAt ns ss w=ss[ns.idxOf w]'hi2:=by
  unfold rowAt
  rw[h2]
  rfl
 rw[e]
 refine⟨?_,List.getElem_mem hi2⟩
 rw[merge_zip (by simp[hl]) nd]
 exact val_zip nd h1 (by rw[z10,h2];rfl)
def N_p_is_true:List Str:= ["tree","sheet","columns","one","two"]
def t_p_is_true (N:Nat) (K:Kf) (E:XK):TS:=
 (tSeq (yIf (yTst (tOp zEq (tOp (zIxL K) (yVar 0) (tC (.int 0))) (tC (.str "and")))) (tRet (yAndV (yCall (sp_p_is_true N K) E0 (tCons (tOp (zIxL K) (yVar 0) (tC (.int 1))) (tCons (yVar 1) (tCons (yVar 2) tNil)))) (yCall (sp_p_is_true N K) E0 (tCons (tOp (zIxL K) (yVar 0) (tC (.int 2))) (tCons (yVar 1) (tCons (yVar 2) tNil)))))) tNext)
    (tSeq (yIf (yTst (tOp zEq (tOp (zIxL K) (yVar 0) (tC (.int 0))) (tC (.str "or")))) (tRet (yOrV (yCall (sp_p_is_true N K) E0 (tCons (tOp (zIxL K) (yVar 0) (tC (.int 1))) (tCons (yVar 1) (tCons (yVar 2) tNil)))) (yCall (sp_p_is_true N K) E0 (tCons (tOp (zIxL K) (yVar 0) (tC (.int 2))) (tCons (yVar 1) (tCons (yVar 2) tNil)))))) tNext)
    (tSeq (yIf (yTst (tOp zEq (tOp (zIxL K) (yVar 0) (tC (.int 0))) (tC (.str "not")))) (tRet (yNotV (yCall (sp_p_is_true N K) E0 (tCons (tOp (zIxL K) (yVar 0) (tC (.int 1))) (tCons (yVar 1) (tCons (yVar 2) tNil)))))) tNext)
    (tSeq (yIf (yTst (tOp zEq (tOp (zIxL K) (yVar 0) (tC (.int 0))) (tC (.str "filled")))) (tRet (tOp zEq (tOp (zIxL K) (yDGet (yFld (isC K ["Sheet"]) (yVar 1) "row_of") (tOp (zIxL K) (yVar 0) (tC (.int 2)))) (yDGet (yVar 2) (tOp (zIxL K) (yVar 0) (tC (.int 1))))) (tC (.str "#")))) tNext)
    (tSeq (yIf (yTst (tOp (zIn K false) (tOp (zIxL K) (yVar 0) (tC (.int 0))) (tTup (tCons (tC (.str "ahead")) (tCons (tC (.str "is")) tNil))))) (tSeq (yPar 3 4 (tCons (yDGet (yVar 2) (tOp (zIxL K) (yVar 0) (tC (.int 1)))) (tCons (yDGet (yVar 2) (tOp (zIxL K) (yVar 0) (tC (.int 2)))) tNil)))
    (tRet (yIfE (yTst (tOp zEq (tOp (zIxL K) (yVar 0) (tC (.int 0))) (tC (.str "ahead")))) (tOp zLt (yVar 3) (yVar 4)) (tOp zEq (yVar 3) (yVar 4))))) tNext)
    (tRet (yCall (sp_p_is_block_true N K) E0 (tCons (yVar 0) (tCons (yVar 1) (tCons (yVar 2) (tCons (tC (.int 0)) tNil)))))))))))
theorem pure_p_is_true (h:sp_p_is_true (N+1) K vs H Q E):t_p_is_true N K E (dEnd Q) (start N_p_is_true vs) H:=by
 obtain⟨v,a,c,t,ns,ss,bd,m,kvs,f,rfl,ht,hs,wf,hh,hc,cb,hd,hz,q⟩:=h
 cases ht with
 | @bin p k x y t1 t2 hp h1 h2=>
   obtain⟨hk,o1,o2⟩:=wf
   have hd:max t1.dep t2.dep+1≤N+1:=hd
   rcases hk with rfl|rfl
   ·have q:∀H',Ext H H'→Q (.bl (saysT ns ss m t1 f&&saysT ns ss m t2 f)) H':=q
    refine⟨_,_,.inr (SqT.of hp),at0,brDT rfl ?_⟩
    refine⟨_,_,.inr (SqT.of hp),at1,x,a,c,t1,ns,ss,bd,m,kvs,f,rfl,h1,hs,o1,hh,hc,cb,by omega,by omega,fun H1 e1=> ?_⟩
    refine br (fun hb=> ?_) fun hb=> ?_
    ·refine⟨_,_,.inr (SqT.of (e1 _ _ hp)),at2,y,a,c,t2,ns,ss,bd,m,kvs,f,rfl,h2.ext e1,hs.ext e1,o2,hh,e1 _ _ hc,cb,by omega,by omega,fun H2 e2=> ?_⟩
     have:=q H2 (e1.trans e2)
     rw[hb] at this
     exact this
    ·have:=q H1 e1
     rw[hb] at this
     exact this
   ·have q:∀H',Ext H H'→Q (.bl (saysT ns ss m t1 f||saysT ns ss m t2 f)) H':=q
    refine⟨_,_,.inr (SqT.of hp),at0,brDF (by decide+kernel) ⟨_,_,.inr (SqT.of hp),at0,brDT rfl ?_⟩⟩
    refine⟨_,_,.inr (SqT.of hp),at1,x,a,c,t1,ns,ss,bd,m,kvs,f,rfl,h1,hs,o1,hh,hc,cb,by omega,by omega,fun H1 e1=> ?_⟩
    refine br (fun hb=> ?_) fun hb=> ?_
    ·have:=q H1 e1
     rw[hb] at this
     exact this
    ·refine⟨_,_,.inr (SqT.of (e1 _ _ hp)),at2,y,a,c,t2,ns,ss,bd,m,kvs,f,rfl,h2.ext e1,hs.ext e1,o2,hh,e1 _ _ hc,cb,by omega,by omega,fun H2 e2=> ?_⟩
     have:=q H2 (e1.trans e2)
     rw[hb] at this
     exact this
 | @neg p x t1 hp h1=>
   have hd:t1.dep+1≤N+1:=hd
   have q:∀H',Ext H H'→Q (.bl (!saysT ns ss m t1 f)) H':=q
   refine⟨_,_,.inr (SqT.of hp),at0,brDF (by decide+kernel) ⟨_,_,.inr (SqT.of hp),at0,brDF (by decide+kernel) ⟨_,_,.inr (SqT.of hp),at0,brDT rfl ?_⟩⟩⟩
   exact⟨_,_,.inr (SqT.of hp),at1,x,a,c,t1,ns,ss,bd,m,kvs,f,rfl,h1,hs,wf,hh,hc,cb,by omega,by omega,fun H1 e1=>q H1 e1⟩
 | @fil p x w hp=>
   obtain⟨hx,hw⟩:=wf
   obtain⟨dx,t1,t2,d,g1,g2,g3,g4⟩:=hs.sh
   obtain⟨r1,r2⟩:=rowAt_val hs.nd hs.len hw
   obtain⟨v1,v2⟩:=cb.at_ x hx
   have hk:f x<(rowAt ns ss w).cps.toList.length:=by
    have:(rowAt ns ss w).cps.toList.length=(rowAt ns ss w).length:=by simp[Str.length]
    have:=hs.row _ r2
    omega
   have hcx:=z9 hk
   have hb:=hs.big
   have hlr:=hs.row _ r2
   refine⟨_,_,.inr (SqT.of hp),at0,brDF (by decide+kernel) ⟨_,_,.inr (SqT.of hp),at0,brDF (by decide+kernel) ⟨_,_,.inr (SqT.of hp),at0,brDF (by decide+kernel) ⟨_,_,.inr (SqT.of hp),at0,brDT rfl ?_⟩⟩⟩⟩
   refine⟨_,dx,_,.ref d,g1,rfl,rfl,_,_,.inr (SqT.of hp),at2,_,.str (rowAt ns ss w),.inl g4,r1,_,_,.inr (SqT.of hp),at1,kvs,_,.inl hc,v1,by rw[sizeLine_eq];omega,_,atI_nat hcx,?_⟩
   have z:=q H (Ext.refl H)
   have e:saysT ns ss m (.fil x w) f=decide ((⟨#[(rowAt ns ss w).cps.toList[f x]]⟩:Str)= "#"):=by
    show decide ((rowAt ns ss w).cps.toList[f x]?=some 35)=_
    rw[sign_eq,hcx]
    exact decide_eq_decide.mpr ⟨fun z=>z33 z,fun z=>congrArg some z⟩
   rw[e] at z
   exact z
 | @cmp p k x y hp=>
   obtain⟨hk,hx,hy⟩:=wf
   obtain⟨v1,_⟩:=cb.at_ x hx
   obtain⟨v3,_⟩:=cb.at_ y hy
   have n1:k≠ "and":=fun z=>by rw[z] at hk;exact absurd hk (by decide+kernel)
   have n2:k≠ "or":=fun z=>by rw[z] at hk;exact absurd hk (by decide+kernel)
   have n3:k≠ "not":=fun z=>by rw[z] at hk;exact absurd hk (by decide+kernel)
   have n4:k≠ "filled":=fun z=>by rw[z] at hk;exact absurd hk (by decide+kernel)
   have two:(2:Nat)≤sizeLine:=by decide
   refine⟨_,_,.inr (SqT.of hp),at0,brDF n1 ⟨_,_,.inr (SqT.of hp),at0,brDF n2 ⟨_,_,.inr (SqT.of hp),at0,brDF n3 ⟨_,_,.inr (SqT.of hp),at0,brDF n4 ?_⟩⟩⟩⟩
   refine⟨_,_,.inr (SqT.of hp),at0,two,fun p2 n2=>⟨_,.inr (SqT.of upd_same),rfl,rfl,?_⟩⟩
   have e1:Ext H (upd H p2 (.tup [.str "ahead",.str "is"])):=Ext.new n2
   have hin:inV (.str k) [.str "ahead",.str "is"]=true:=by
    rw[show([.str "ahead",.str "is"]:List V)=(["ahead","is"]:List Str).map V.str from rfl,inV_str]
    refine decide_eq_true ?_
    rcases hk with rfl|rfl<;>simp
   generalize upd H p2 (.tup [.str "ahead",.str "is"])=H1 at e1⊢
   have hp1:=e1 _ _ hp
   have hc1:=e1 _ _ hc
   refine brT hin ?_
   refine⟨_,_,.inr (SqT.of hp1),at1,kvs,_,.inl hc1,v1,_,_,.inr (SqT.of hp1),at2,kvs,_,.inl hc1,v3,?_⟩
   have z:=q H1 e1
   rcases hk with rfl|rfl
   ·have e:saysT ns ss m (.cmp "ahead" x y) f=decide (((f x:Nat):Int)<((f y:Nat):Int)):=decide_eq_decide.mpr ⟨fun z=>by omega,fun z=>by omega⟩
    rw[e] at z
    exact⟨_,_,.inr (SqT.of hp1),at0,brDT rfl z⟩
   ·have e:saysT ns ss m (.cmp "is" x y) f=decide (((f x:Nat):Int)=((f y:Nat):Int)):=by
        show(if("is":Str)= "ahead" then _ else decide (f x=f y))=_
        rw[if_neg (by decide+kernel)]
        exact decide_eq_decide.mpr ⟨fun z=>by omega,fun z=>by omega⟩
    rw[e] at z
    exact⟨_,_,.inr (SqT.of hp1),at0,brDF (by decide+kernel) z⟩
 | @blk p g k xs x t1 hp hg h1=>
   obtain⟨hk,h3,wf⟩:=wf
   have hd:t1.dep+xs.length+2≤N+1:=hd
   have n1:k≠ "and":=fun z=>by rw[z] at hk;exact absurd hk (by decide+kernel)
   have n2:k≠ "or":=fun z=>by rw[z] at hk;exact absurd hk (by decide+kernel)
   have n3:k≠ "not":=fun z=>by rw[z] at hk;exact absurd hk (by decide+kernel)
   have n4:k≠ "filled":=fun z=>by rw[z] at hk;exact absurd hk (by decide+kernel)
   have two:(2:Nat)≤sizeLine:=by decide
   refine⟨_,_,.inr (SqT.of hp),at0,brDF n1 ⟨_,_,.inr (SqT.of hp),at0,brDF n2 ⟨_,_,.inr (SqT.of hp),at0,brDF n3 ⟨_,_,.inr (SqT.of hp),at0,brDF n4 ?_⟩⟩⟩⟩
   refine⟨_,_,.inr (SqT.of hp),at0,two,fun p2 n2=>⟨_,.inr (SqT.of upd_same),rfl,rfl,?_⟩⟩
   have e1:Ext H (upd H p2 (.tup [.str "ahead",.str "is"])):=Ext.new n2
   have hin:inV (.str k) [.str "ahead",.str "is"]=false:=by
    rw[show([.str "ahead",.str "is"]:List V)=(["ahead","is"]:List Str).map V.str from rfl,inV_str]
    refine decide_eq_false ?_
    rcases hk with rfl|rfl<;>decide+kernel
   generalize upd H p2 (.tup [.str "ahead",.str "is"])=H1 at e1⊢
   refine brF hin ?_
   exact⟨.ref p,a,c,k,xs,0,t1,ns,ss,m,kvs,f,rfl,.blk (e1 _ _ hp) (e1 _ _ hg) (h1.ext e1),hs.ext e1,hk,h3,wf,z35 _,e1 _ _ hc,cb.sub (fun y hy=>by
    have hy:y= "here":=by simpa using hy
    rw[hy];exact hh),by omega,by omega,fun H2 e2=>q H2 (e1.trans e2)⟩
theorem take_sub {xs:List Str} {i:Nat} {x:Str} (hx:xs[i]?=some x):∀y∈(("here":Str)::xs.take (i+1)),y∈x::("here":Str)::xs.take i:=by
 intro y hy
 rw[List.take_succ,hx] at hy
 simp only[Option.toList_some,List.mem_cons,List.mem_append,z32,z13,or_false] at hy⊢
 rcases hy with h|h|h
 ·exact .inr (.inl h)
 ·exact .inr (.inr h)
 ·exact .inl h
theorem all_first {m i:Nat} {g:Nat→Bool} (hi:i<m) (h:g i=false):(List.range m).all g=false:=by
 rw[Bool.eq_false_iff]
 intro z
 have:=List.all_eq_true.mp z i (List.mem_range.mpr hi)
 rw[h] at this
 cases this
theorem any_first {m i:Nat} {g:Nat→Bool} (hi:i<m) (h:g i=true):(List.range m).any g=true:=List.any_eq_true.mpr ⟨i,List.mem_range.mpr hi,h⟩
theorem mrg_ext {G:Hp} {D S:Addr} {a1 a2 a3 a4 a5:List (Key × V)} (hD:G D=none) (hne:S≠D) (hS:upd (upd G D (.dK a1)) D (.dK a2) S=none):Ext G (upd (upd (upd (upd (upd G D (.dK a1)) D (.dK a2)) S (.dK a3)) S (.dK a4)) D (.dK a5)):=by
 intro b o e
 have h1:b≠D:=fun z=>by rw[z,hD] at e;cases e
 have hS':G S=none:=by rw[upd_ne hne,upd_ne hne] at hS;exact hS
 have h2:b≠S:=fun z=>by rw[z,hS'] at e;cases e
 rw[upd_ne h1,upd_ne h2,upd_ne h2,upd_ne h1,upd_ne h1]
 exact e
def N_p_is_block_true:List Str:= ["tree","sheet","columns","at","column"]
def t_p_is_block_true (N:Nat) (K:Kf) (E:XK):TS:=
 (tSeq (yIf (yTst (tOp zEq (yVar 3) (tCB (zLen K) (tCons (tOp (zIxL K) (yVar 0) (tC (.int 1))) tNil)))) (tRet (yCall (sp_p_is_true N K) E0 (tCons (tOp (zIxL K) (yVar 0) (tC (.int 2))) (tCons (yVar 1) (tCons (yVar 2) tNil))))) tNext)
    (tSeq (yFor (jRng (tCB (zLenO (He.ga K "Sheet") (sp_Sheet_len K)) (tCons (yVar 1) tNil))) (gName 4) (yIf (yTst (tOp zNe (yCall (sp_p_is_block_true N K) E0 (tCons (yVar 0) (tCons (yVar 1) (tCons (tDMrg (yVar 2) (tOp (zIxL K) (tOp (zIxL K) (yVar 0) (tC (.int 1))) (yVar 3)) (yVar 4)) (tCons (tOp zAdd (yVar 3) (tC (.int 1))) tNil))))) (tOp zEq (tOp (zIxL K) (yVar 0) (tC (.int 0))) (tC (.str "all"))))) (tRet (tOp zEq (tOp (zIxL K) (yVar 0) (tC (.int 0))) (tC (.str "some")))) tNext))
    (tRet (tOp zEq (tOp (zIxL K) (yVar 0) (tC (.int 0))) (tC (.str "all"))))))
theorem pure_p_is_block_true (h:sp_p_is_block_true (N+1) K vs H Q E):t_p_is_block_true N K E (dEnd Q) (start N_p_is_block_true vs) H:=by
 obtain⟨v,a,c,k,xs,i,t,ns,ss,m,kvs,f,rfl,ht,hs,hk,h3,wf,hi,hc,cb,hd,hz,q⟩:=h
 cases ht with
 | @blk p g _ _ x _ hp hg h1=>
   have hlen:xs.length≤sizeLine:=by rw[sizeLine_eq];omega
   refine⟨_,_,.inr (SqT.of hp),at1,_,.inr (SqT.of hg),?_⟩
   refine brD (fun e=> ?_) fun e=> ?_
   ·have e:i=xs.length:=by
        rw[z8] at e
        omega
    subst e
    rw[List.drop_length] at q
    rw[List.take_length] at cb
    exact⟨_,_,.inr (SqT.of hp),at2,x,a,c,t,ns,ss,_,m,kvs,f,rfl,h1,hs,wf,z31 ..,hc,cb,by omega,by omega,q⟩
   ·have hi:i<xs.length:=by
        rw[z8] at e
        omega
    have hx:xs[i]?=some xs[i]:=z9 hi
    have edr:xs.drop i=xs[i]::xs.drop (i+1):=List.drop_eq_getElem_cons hi
    rw[edr] at q
    generalize xs[i]=y at hx q
    obtain⟨dx,t1,t2,d,g1,g2,g3,g4⟩:=id hs.sh
    have h1s:=hs.one
    have hls:=hs.len
    obtain⟨s0,hs0⟩:∃s,ss[0]?=some s:=⟨ss[0]'(by omega),z9 (by omega)⟩
    have l0:s0.length=m:=hs.row s0 (z11 hs0)
    have hb:=hs.big
    refine⟨dx,_,g1,a,ns,ss,s0,rfl,hs.sh,hs0,by omega,⟨by omega,by omega⟩,by omega,by omega,?_⟩
    have em:((s0.length:Nat):Int).toNat=m:=by omega
    rw[em]
    refine⟨fun j σ G=>∃x4:Option V,σ= [some (.ref p),some (.ref a),some (.ref c),some (.int (i:Nat)),x4]∧Ext H G∧∀j',j'<j→blkT m k (saysT ns ss m t) (xs.drop (i+1)) (upN f y j')=decide (k= "all"),⟨none,rfl,Ext.refl H,fun j' z=>absurd z (Nat.not_lt_zero _)⟩,fun _ _ _ _ _=>trivial,?_,?_⟩
    ·rintro j w σ G G' hj ⟨x4,rfl,eG,hall⟩ ⟨rfl,ew⟩
     have ew:w=V.int ((j:Nat):Int):=by
      rw[ew]
      show V.int (0+(j:Int))=_
      rw[Int.zero_add]
     subst ew
     have hcG:=eG _ _ hc
     have hpG:=eG _ _ hp
     have hgG:=eG _ _ hg
     intro D nD
     have hcD:c≠D:=fun z=>by rw[z,nD] at hcG;cases hcG
     have hpD:p≠D:=fun z=>by rw[z,nD] at hpG;cases hpG
     have hgD:g≠D:=fun z=>by rw[z,nD] at hgG;cases hgG
     refine⟨c,kvs,rfl,Ne.symm hcD,by rw[upd_ne hcD];exact hcG,upd_same,by rw[sizeLine_eq];omega,fun S hSD nS=> ?_⟩
     have hS':G' S=none:=by rw[upd_ne hSD,upd_ne hSD] at nS;exact nS
     have hpS:p≠S:=fun z=>by rw[z,hS'] at hpG;cases hpG
     have hgS:g≠S:=fun z=>by rw[z,hS'] at hgG;cases hgG
     have hp3:upd (upd (upd G' D (.dK [])) D (.dK (mergeK [] kvs))) S (.dK []) p=some (.tup [.str k,.ref g,x]):=by rw[upd_ne hpS,upd_ne hpD,upd_ne hpD];exact hpG
     have hg3:upd (upd (upd G' D (.dK [])) D (.dK (mergeK [] kvs))) S (.dK []) g=some (.tup (xs.map V.str)):=by rw[upd_ne hgS,upd_ne hgD,upd_ne hgD];exact hgG
     refine⟨_,_,.inr (SqT.of hp3),at1,?_⟩
     refine⟨_,V.str y,.inr (SqT.of hg3),atI_nat (by rw[z10,hx];rfl),?_⟩
     refine⟨Sum.inr y,rfl,by rw[upd_ne (Ne.symm hSD)];exact upd_same,upd_same,?_⟩
     have e3:=mrg_ext (a1:= []) (a2:=mergeK [] kvs) (a3:= []) (a4:= [(Sum.inr y,V.int ((j:Nat):Int))]) (a5:=putK (mergeK [] kvs) (Sum.inr y) (V.int ((j:Nat):Int))) nD hSD nS
     generalize hG3:upd (upd (upd (upd (upd G' D (.dK [])) D (.dK (mergeK [] kvs))) S (.dK [])) S (.dK [(Sum.inr y,V.int ((j:Nat):Int))])) D (.dK (putK (mergeK [] kvs) (Sum.inr y) (V.int ((j:Nat):Int))))=G3 at e3⊢
     have hD3:G3 D=some (.dK (putK kvs (Sum.inr y) (V.int ((j:Nat):Int)))):=by rw[←hG3,cb.same];exact upd_same
     have eH3:=eG.trans e3
     have cb3:=(cb.put (x:=y) hj).sub (take_sub hx)
     have hlp:=length_putK kvs (Sum.inr y) (V.int ((j:Nat):Int))
     refine⟨.ref p,a,D,k,xs,i+1,t,ns,ss,m,_,_,rfl,.blk (eH3 _ _ hp) (eH3 _ _ hg) (h1.ext eH3),hs.ext eH3,hk,h3,wf,hi,hD3,cb3,by omega,by omega,fun G4 e4=> ?_⟩
     have eH4:=eH3.trans e4
     refine⟨_,_,.inr (SqT.of (eH4 _ _ hp)),at0,?_⟩
     generalize hB:blkT m k (saysT ns ss m t) (xs.drop (i+1)) (upN f y j)=B
     refine br (fun hb=> ?_) fun hb=> ?_
     ·refine⟨_,_,.inr (SqT.of (eH4 _ _ hp)),at0,?_⟩
      have z:=q G4 eH4
      have e:blkT m k (saysT ns ss m t) (y::xs.drop (i+1)) f=decide (k= "some"):=by
       rcases hk with rfl|rfl
       ·have hB':B=false:=by
            cases B with
            |false=>rfl
            |true=>exact absurd hb (by decide+kernel)
        exact(all_first hj (hB.trans hB')).trans (decide_eq_false (by decide+kernel)).symm
       ·have hB':B=true:=by
            cases B with
            |true=>rfl
            |false=>exact absurd hb (by decide+kernel)
        show(if("some":Str)= "all" then _ else(List.range m).any _)=_
        rw[if_neg (by decide+kernel)]
        exact(any_first hj (hB.trans hB')).trans (decide_eq_true rfl).symm
      rw[e] at z
      exact z
     ·refine⟨_,rfl,eH4,fun j' hj'=> ?_⟩
      by_cases e:j'=j
      ·subst e
       rw[hB]
       exact of_decide_eq_true (by simpa using hb)
      ·exact hall j' (by omega)
    ·rintro σ G ⟨x4,rfl,eG,hall⟩
     refine⟨_,_,.inr (SqT.of (eG _ _ hp)),at0,?_⟩
     have z:=q G eG
     have e:blkT m k (saysT ns ss m t) (y::xs.drop (i+1)) f=decide (k= "all"):=by
      rcases hk with rfl|rfl
      ·exact(List.all_eq_true.mpr fun c hc=>by rw[hall c (List.mem_range.mp hc)];exact decide_eq_true rfl).trans (decide_eq_true rfl).symm
      ·show(if("some":Str)= "all" then _ else(List.range m).any _)=_
       rw[if_neg (by decide+kernel)]
       have en:decide (("some":Str)= "all")=false:=decide_eq_false (by decide+kernel)
       rw[en] at hall⊢
       rw[Bool.eq_false_iff]
       intro z
       obtain⟨c,hc,z⟩:=List.any_eq_true.mp z
       rw[hall c (List.mem_range.mp hc)] at z
       cases z
     rw[e] at z
     exact z
end
section
variable {K:Kf} {vs:List V} {H:Hp} {Q:VK} {E:XK}
theorem len_Saying_holds (h:sp_Saying_holds K vs H Q E):vs.length=3:=by
 obtain⟨_,_,_,_,_,_,_,_,_,_,_,_,rfl,_⟩:=h
 rfl
def N_Saying_holds:List Str:= ["self","sheet","place"]
def t_Saying_holds (K:Kf) (E:XK):TS:=
 (tSeq (yIf (yTst (tOp (zNeD K) (yFld (isC K ["Sheet"]) (yVar 1) "tracks") (yFld (isC K ["Saying"]) (yVar 0) "tracks"))) (yRaise (yMkR (He.ga K "OtherTracks") (spI0 (He.ga K "OtherTracks")) tNil) (fun cls d _ H=>E cls d H)) tNext)
    (tSeq (tDrop (yCallS (sp_p_check_place K) (fun cls d _ H=>E cls d H) (tCons (yVar 1) (tCons (yVar 2) tNil))))
    (tRet (yCall (sp_p_is_true 24 K) E0 (tCons (yFld (isC K ["Saying"]) (yVar 0) "tree") (tCons (yVar 1) (tCons (tDisp (((tC (.str "here")),(tOp (zIxL K) (yVar 2) (tC (.int 1))))::[])) tNil)))))))
theorem pure_Saying_holds (h:sp_Saying_holds K vs H Q E):t_Saying_holds K E (dEnd Q) (start N_Saying_holds vs) H:=by
 obtain⟨sy,a,p,ys,ns,txt,u,hh,ss,m,tr,c,rfl,tk,S,uok,hsh,lay,sj,hm,hp,ltr,qO,qT,qC,q⟩:=h
 obtain⟨dx,t2,v,g1,g2,g3⟩:=S.ex
 obtain⟨dx3,s1,s2,s3,k1,k2,k3,k4⟩:=id hsh
 refine⟨_,dx3,_,.ref s1,k1,rfl,rfl,_,dx,_,.ref t2,g1,rfl,rfl,_,_,.tup k2.sq (dpAll_flat strs_flat),.tup (SqT.of g2) (dpAll_flat strs_flat),shaped_flatT (strs_okV lay),shaped_flatT (strs_okV tk.lay),?_⟩
 rw[eqvTs]
 refine brN (fun hne=> ?_) fun he=> ?_
 ·exact⟨(show 0≤1000 by decide),mkR0 (qO hne)⟩
 subst he
 have sj:=sj rfl
 have hl:=sj.len
 have h1:=sj.one
 obtain⟨s0,hs0⟩:∃s,ss[0]?=some s:=⟨ss[0]'(by omega),z9 (by omega)⟩
 have l0:s0.length=m:=(sj.row s0 (z11 hs0)).2
 refine⟨a,p,ns,ss,s0,tr,c,rfl,hsh,hp,hs0,by omega,ltr,qT rfl,fun h1 h2=>qC rfl h1 (by rw[l0] at h2;exact h2),fun h1 h2 h3=> ?_⟩
 rw[l0] at h3
 have q:=q rfl h1 h2 h3
 obtain⟨k,rfl⟩:=Int.eq_ofNat_of_zero_le h2
 rw[Int.toNat_natCast] at q
 have hc:k<m:=by omega
 refine⟨_,dx,_,v,g1,rfl,rfl,fun e ne=> ?_⟩
 have e0:Ext H (upd H e (.dK [])):=Ext.new ne
 refine⟨_,_,.inr (hp.ext e0),at1,upd_same,[(Sum.inr "here",.int ((k:Nat):Int))],rfl,(show 1≤15 by decide),?_⟩
 rw[upd_upd]
 have e1:Ext H (upd H e (.dK (mergeK [] [(Sum.inr "here",V.int ((k:Nat):Int))]))):=Ext.new ne
 have he:(upd H e (.dK (mergeK [] [(Sum.inr "here",V.int ((k:Nat):Int))]))) e=some (.dK [(Sum.inr "here",V.int ((k:Nat):Int))]):=upd_same
 generalize upd H e (.dK (mergeK [] [(Sum.inr "here",V.int ((k:Nat):Int))]))=H1 at e1 he⊢
 refine⟨v,a,e,u,ns,ss,["here"],m,_,fun _=>k,rfl,g3.ext e1,⟨hsh.ext e1,sj.nd,sj.len,sj.one,fun s hs=>(sj.row s hs).2,hm⟩,uok.ok,z31 ..,he,⟨by simp,fun x hx=> ?_⟩,uok.dep,by show 1+24≤100;decide,fun H2 e2=>q H2 (e1.trans e2)⟩
 have hx:=z32.mp hx
 subst hx
 exact⟨valV_pos rfl,hc⟩
end
section
variable {P:Program} {w:World} {K:Kf} {mg:Str→Option Value} {base:Heap}
abbrev s_Saying_holds:Stmt:=inClass (top 34) 1
theorem sc_Saying_holds:FnScope N_Saying_holds ["self","sheet","place"] (defScope s_Saying_holds):=⟨rfl,rfl,rfl,by decide+kernel,rfl,by decide+kernel,by decide+kernel⟩
theorem ok_Saying_holds {f:Addr} {fd:FuncData} (B:Blt mg) (j1:Cal P w K mg base "check_place" (3) ["sheet","place"] (sp_p_check_place K)) (j3:Cal P w K mg base "is_true" (34) ["tree","sheet","columns"] (sp_p_is_true 24 K)) (j2:Mk P w K mg base "OtherTracks" (He.ga K "OtherTracks") ["self"] (spI0 (He.ga K "OtherTracks"))) (CF:∀x f,(x,f)∈fldN→Cls K (He.ga K x)∧NoAttr K (He.ga K x) f) (F:FunD K "holds" "Saying.holds" (defArgs s_Saying_holds) (defBody s_Saying_holds) (defScope s_Saying_holds) [] [] f fd):FnOk P w K mg base (L2.CX P w) (35) f fd ["self","sheet","place"] (sp_Saying_holds K):=by
 refine F.ok sc_Saying_holds (fun vs H Q E h=>len_Saying_holds h) (fun cdv A outer s H vs Q E hr h=>⟨t_Saying_holds K E,?_,pure_Saying_holds h⟩)
 have tk:Takes (cxOf (L2.CX P w) P w K mg base N_Saying_holds "Saying.holds" (defScope s_Saying_holds) f cdv A outer s H E) (fun cls d _ H=>E cls d H):=takes_of rfl rfl rfl rfl
 exact(pss_cons (ys_if (yt_cmp (op_zNeD hr.units) (ye_fld (cf1 (CF "Sheet" "tracks" (by decide))) (yv 1) rfl) (ye_fld (cf1 (CF "Saying" "tracks" (by decide))) (yv 0) rfl) (by rfl)) (pss_one (ys_raise rfl tk (pm_mk0 j2 (hr.mono (by decide)) rfl))) pss_nil)
  (pss_cons (ps_expr (ye_callS j1 tk (hr.mono (by decide)) rfl (pa_cons (yv 1) (pa_cons (yv 2) pa_nil))))
  (pss_one (ps_ret (ye_call j3 (hr.mono (by decide)) rfl (pa_cons (ye_fld (cf1 (CF "Saying" "tree" (by decide))) (yv 0) rfl) (pa_cons (yv 1) (pa_cons (pe_disp (pps_cons pe_str (pe_ix ix_zIxL (yv 2) pe_int (fun _ _=>rfl)) pps_nil) (by rfl) (by rfl) (by simp) (by decide)) pa_nil))))))))
end
section
variable {K:Kf} {vs:List V} {H:Hp} {Q:VK} {E:XK}
theorem len_drawn_place (h:sp_drawn_place K vs H Q E):vs.length=2:=by
 obtain⟨_,_,_,_,_,_,rfl,_⟩:=h
 rfl
def N_drawn_place:List Str:= ["_law_pen","_law_sheet","_law_many","_law_column"]
def t_drawn_place (K:Kf) (E:XK):TS:=
 (tSeq (tAsg (tCB (zLen K) (tCons (yDGet (yVar 1) (tC (.str "cols"))) tNil)) (gName 2))
    (tSeq (tAsg (yCall (sp_pick K) E0 (tCons (yVar 0) (tCons (tLst (tCons (tC (.int 0)) (tCons (tOp zSub (yVar 2) (tC (.int 1))) (tCons (yCall (sp_draw K) E0 (tCons (yVar 0) (tCons (yVar 2) tNil))) (tCons (yCall (sp_draw K) E0 (tCons (yVar 0) (tCons (yVar 2) tNil))) (tCons (yCall (sp_draw K) E0 (tCons (yVar 0) (tCons (yVar 2) tNil))) tNil)))))) tNil))) (gName 3))
    (tRet (tTup (tCons (yCall (sp_pick K) E0 (tCons (yVar 0) (tCons (yDGet (yVar 1) (tC (.str "tracks"))) tNil))) (tCons (yVar 3) tNil))))))
theorem pure_drawn_place (h:sp_drawn_place K vs H Q E):t_drawn_place K E (dEnd Q) (start N_drawn_place vs) H:=by
 obtain⟨p,c,sh,n,ys,cols,rfl,hP,hn,⟨t,co,cas,hsh,htr,hco,hca,hcb⟩,y1,y3,c1,cm,q⟩:=h
 have hl:(cas.map V.ref).length=cols.length:=by rw[z8,hca]
 refine⟨_,_,.inl hsh,rfl,_,.inl (SqL.of hco),?_⟩
 rw[hl]
 have lg:=log_small (n:=cols.length) (by omega)
 refine⟨p,c,n,_,rfl,hP,by omega,by omega,lg,fun r1 H1 a0 a1 k1 P1=>⟨p,c,n+1,_,rfl,P1,by omega,by omega,lg,fun r2 H2 b0 b1 k2 P2=>⟨p,c,n+2,_,rfl,P2,by omega,by omega,lg,fun r3 H3 d0 d1 k3 P3=>⟨(show 5≤sizeLine by decide),fun L nL=> ?_⟩⟩⟩⟩
 have k4:=Kp.new (o:= .lst [.int 0,.int ((cols.length:Nat)-1),.int r1,.int r2,.int r3]) nL
 have P4:=P3.new (o:= .lst [.int 0,.int ((cols.length:Nat)-1),.int r1,.int r2,.int r3]) nL
 refine⟨p,c,L,n+3,_,rfl,P4,by omega,upd_same,(show 0<5 by decide),(show 5<1000000000 by decide),fun v H5 hv k5 P5=> ?_⟩
 have kk:=(((k1.trans k2).trans k3).trans k4).trans k5
 obtain⟨k,hk,rfl⟩:∃k:Nat,k<cols.length∧v= .int (k:Nat):=by
  simp only[List.mem_cons,z13,or_false] at hv
  rcases hv with rfl|rfl|rfl|rfl|rfl
  ·exact⟨0,by omega,rfl⟩
  ·exact⟨cols.length-1,by omega,by congr 1;omega⟩
  ·exact⟨r1.toNat,by omega,by congr 1;omega⟩
  ·exact⟨r2.toNat,by omega,by congr 1;omega⟩
  ·exact⟨r3.toNat,by omega,by congr 1;omega⟩
 refine⟨_,_,.inl (kk.keep hsh not_pen_sh),rfl,p,c,t,n+4,ys.map V.str,rfl,P5,by omega,kk.lst htr,by rw[z8];omega,by rw[z8];omega,fun vt H6 hvt k6 P6=> ?_⟩
 obtain⟨tr,htr',rfl⟩:=z37.mp hvt
 exact⟨(show 2≤sizeLine by decide),fun T nT=>q tr k T _ htr' hk ((kk.trans k6).trans (Kp.new nT)) upd_same (P6.new nT)⟩
end
theorem LSayAt.isref {H:Hp} {v:V} {t:STree} (h:LSayAt H v t):∃p:Addr,v= .ref p:=by
 cases h<;>exact⟨_,rfl⟩
section
variable {K:Kf} {vs:List V} {H:Hp} {Q:VK} {E:XK} {N:Nat}
theorem len_saying_text (h:sp_saying_text N K vs H Q E):vs.length=1:=by
 obtain⟨_,_,_,_,rfl,_⟩:=h
 rfl
theorem nil_saying_text (h:sp_saying_text 0 K vs H Q E):False:=by
 obtain⟨_,t,_,_,_,_,_,h,_⟩:=h
 have:=t.dep_pos
 omega
def N_saying_text:List Str:= ["_law_saying","_law_parts","_law_part"]
def t_saying_text (N:Nat) (K:Kf) (E:XK):TS:=
 (tSeq (yIf (yTst (tOp (zIn K false) (tOp (zIxL K) (yVar 0) (tC (.int 0))) (tTup (tCons (tC (.str "all")) (tCons (tC (.str "some")) tNil))))) (tRet (tBM K "str" (zJoin K) (tC (.str " ")) (tCons (tOp zCatL (tOp zCatL (tLst (tCons (tOp (zIxL K) (yVar 0) (tC (.int 0))) tNil)) (tOp (zIxL K) (yVar 0) (tC (.int 1)))) (tLst (tCons (tC (.str "(")) (tCons (yCall (sp_saying_text N K) E0 (tCons (tOp (zIxL K) (yVar 0) (tC (.int 2))) tNil)) (tCons (tC (.str ")")) tNil))))) tNil))) tNext)
    (tSeq (yIf (yTst (tOp (zIn K false) (tOp (zIxL K) (yVar 0) (tC (.int 0))) (tTup (tCons (tC (.str "not")) (tCons (tC (.str "and")) (tCons (tC (.str "or")) tNil)))))) (tSeq (tAsg (yLc (jTup K (tSl (zSlT K) (yVar 0) (tPart (tC (.int 1))) tNoPart)) (gName 2) tYes (tOp zAdd (tOp zAdd (tC (.str "( ")) (yCall (sp_saying_text N K) E0 (tCons (yVar 2) tNil))) (tC (.str " )"))) [2]) (gName 1))
    (tRet (yIfE (yTst (tOp zEq (tOp (zIxL K) (yVar 0) (tC (.int 0))) (tC (.str "not")))) (tOp zAdd (tC (.str "not ")) (tOp (zIxL K) (yVar 1) (tC (.int 0)))) (tBM K "str" (zJoin K) (tOp zAdd (tOp zAdd (tC (.str " ")) (tOp (zIxL K) (yVar 0) (tC (.int 0)))) (tC (.str " "))) (tCons (yVar 1) tNil))))) tNext)
    (tRet (tBM K "str" (zJoin K) (tC (.str " ")) (tCons (tLst (tCons (tOp (zIxL K) (yVar 0) (tC (.int 1))) (tCons (tOp (zIxL K) (yVar 0) (tC (.int 0))) (tCons (tOp (zIxL K) (yVar 0) (tC (.int 2))) tNil)))) tNil)))))
theorem pure_saying_text (h:sp_saying_text (N+1) K vs H Q E):t_saying_text N K E (dEnd Q) (start N_saying_text vs) H:=by
 obtain⟨v,t,trs,bd,rfl,ht,ok,hd,hl,q⟩:=h
 have big:(1000000:Nat)+100≤sizeLine:=by decide
 have c2:("( ":Str).length=2:=by decide+kernel
 have c3:(" )":Str).length=2:=by decide+kernel
 have c4:(" ":Str).length=1:=by decide+kernel
 have c5:("not ":Str).length=4:=by decide+kernel
 have first:∀(p:Addr) (k:Str) (r:List V) (A:TS),H p=some (.tup (.str k::r))→k∉BLOCKS→(∀G,Ext H G→A (dEnd Q) [some (.ref p),none,none] G)→
  tSeq (yIf (yTst (tOp (zIn K false) (tOp (zIxL K) (yVar 0) (tC (.int 0))) (tTup (tCons (tC (.str "all")) (tCons (tC (.str "some")) tNil))))) (tRet (tBM K "str" (zJoin K) (tC (.str " ")) (tCons (tOp zCatL (tOp zCatL (tLst (tCons (tOp (zIxL K) (yVar 0) (tC (.int 0))) tNil)) (tOp (zIxL K) (yVar 0) (tC (.int 1)))) (tLst (tCons (tC (.str "(")) (tCons (yCall (sp_saying_text N K) E0 (tCons (tOp (zIxL K) (yVar 0) (tC (.int 2))) tNil)) (tCons (tC (.str ")")) tNil))))) tNil))) tNext) A (dEnd Q) [some (.ref p),none,none] H:=fun p k r A hp hk nxt=>by
  refine⟨_,_,.inr (SqT.of hp),at0,(show 2≤sizeLine by decide),fun p2 n2=>⟨_,.inr (SqT.of upd_same),rfl,rfl,?_⟩⟩
  rw[show([.str "all",.str "some"]:List V)=(["all","some"]:List Str).map V.str from rfl,inV_str]
  exact brDF hk (nxt _ (Ext.new n2))
 have second:∀(G:Hp) (p:Addr) (k:Str) (r:List V) (A B:TS),G p=some (.tup (.str k::r))→(k∈(["not","and","or"]:List Str)→∀G',Ext G G'→tSeq A B (dEnd Q) [some (.ref p),none,none] G')→(k∉ (["not","and","or"]:List Str)→∀G',Ext G G'→B (dEnd Q) [some (.ref p),none,none] G')→
  tSeq (yIf (yTst (tOp (zIn K false) (tOp (zIxL K) (yVar 0) (tC (.int 0))) (tTup (tCons (tC (.str "not")) (tCons (tC (.str "and")) (tCons (tC (.str "or")) tNil)))))) A tNext) B (dEnd Q) [some (.ref p),none,none] G:=fun G p k r A B hp hy hn=>by
  refine⟨_,_,.inr (SqT.of hp),at0,(show 3≤sizeLine by decide),fun p2 n2=>⟨_,.inr (SqT.of upd_same),rfl,rfl,?_⟩⟩
  rw[show([.str "not",.str "and",.str "or"]:List V)=(["not","and","or"]:List Str).map V.str from rfl,inV_str]
  exact brD (fun z=>hy z _ (Ext.new n2)) fun z=>hn z _ (Ext.new n2)
 cases ht with
 | @bin p k x y t u h1 hx hy=>
   obtain⟨hk,o1,o2⟩:=ok
   have hd:max t.dep u.dep+1≤N+1:=hd
   have hl2:=hl
   rw[sTxt_bin] at hl2
   refine first p k _ _ h1 (by rcases hk with e|e<;>rw[e]<;>decide+kernel) fun G1 e1=> ?_
   refine second G1 p k _ _ _ (e1 _ _ h1) (fun _ G2 e2=> ?_) fun z=> ?_
   ·have h2:=e2 _ _ (e1 _ _ h1)
    have e12:=e1.trans e2
    dsimp only[tSeq,tAsg]
    refine lc_sl (xs:= [x,y]) (ys:= [.str (wrapT (sTxt t)),.str (wrapT (sTxt u))]) rfl (SqT.of h2) (show 2<sizeLine by decide) (fun x=>rfl) rfl (fun G j a b Q' eG ha hb hq=> ?_) fun D G eG nD hD=> ?_
    ·have both:(a=x∧b= .str (wrapT (sTxt t)))∨(a=y∧b= .str (wrapT (sTxt u))):=by
      match j,ha,hb with
      |0,ha,hb=>cases ha;cases hb;exact .inl ⟨rfl,rfl⟩
      |1,ha,hb=>cases ha;cases hb;exact .inr ⟨rfl,rfl⟩
      |j+2,ha,hb=>simp at ha
     have e0:=e12.trans eG
     rcases both with⟨rfl,rfl⟩|⟨rfl,rfl⟩
     ·refine⟨_,t,trs,bd,rfl,hx.ext e0,o1,by omega,by omega,fun G2 e2=> ?_⟩
      exact⟨by omega,by rw[z15];omega,hq G2 e2⟩
     ·refine⟨_,u,trs,bd,rfl,hy.ext e0,o2,by omega,by omega,fun G2 e2=> ?_⟩
      exact⟨by omega,by rw[z15];omega,hq G2 e2⟩
    ·have h4:=eG _ _ h2
     refine⟨_,_,.inr (SqT.of h4),at0,?_⟩
     have kn:k≠ "not":=fun z=>by
      rw[z] at hk
      revert hk
      decide+kernel
     refine brDF kn ⟨_,_,.inr (SqT.of h4),at0,?_⟩
     refine⟨by omega,by rw[z15];omega,rfl,[wrapT (sTxt t),wrapT (sTxt u)],.inl (SqL.of hD),?_,q G (e12.trans eG)⟩
     rw[sumlen2,wrapT_len,wrapT_len,z15,z15]
     show _+2*_≤_
     omega
   ·exact absurd (by rcases hk with e|e<;>rw[e]<;>decide+kernel) z
 | @neg p x t h1 hx=>
   have hd:t.dep+1≤N+1:=hd
   have hl2:=hl
   rw[sTxt_neg] at hl2
   refine first p "not" _ _ h1 (by decide+kernel) fun G1 e1=> ?_
   refine second G1 p "not" _ _ _ (e1 _ _ h1) (fun _ G2 e2=> ?_) fun z=>absurd (by decide+kernel) z
   have h2:=e2 _ _ (e1 _ _ h1)
   have e12:=e1.trans e2
   dsimp only[tSeq,tAsg]
   refine lc_sl (xs:= [x]) (ys:= [.str (wrapT (sTxt t))]) rfl (SqT.of h2) (show 1<sizeLine by decide) (fun x=>rfl) rfl (fun G j a b Q' eG ha hb hq=> ?_) fun D G eG nD hD=> ?_
   ·have both:a=x∧b= .str (wrapT (sTxt t)):=by
        match j,ha,hb with
        |0,ha,hb=>cases ha;cases hb;exact⟨rfl,rfl⟩
        |j+1,ha,hb=>simp at ha
    have e0:=e12.trans eG
    obtain⟨rfl,rfl⟩:=both
    refine⟨_,t,trs,bd,rfl,hx.ext e0,ok,by omega,by omega,fun G2 e2=> ?_⟩
    exact⟨by omega,by rw[z15];omega,hq G2 e2⟩
   ·have h4:=eG _ _ h2
    refine⟨_,_,.inr (SqT.of h4),at0,?_⟩
    refine brT rfl ⟨_,_,.inl (SqL.of hD),at0,by rw[wrapT_len];omega,q G (e12.trans eG)⟩
 | @fil p x w h1=>
   refine first p "filled" _ _ h1 (by decide+kernel) fun G1 e1=> ?_
   refine second G1 p "filled" _ _ _ (e1 _ _ h1) (fun z=>absurd z (by decide+kernel)) fun _ G2 e2=> ?_
   have h2:=e2 _ _ (e1 _ _ h1)
   have hj:=tj_len (s:= " ") (ws:= [x,"filled",w]) (by simp)
   have hl2:(Txt.join " " [x,"filled",w]).length≤1000000:=hl
   refine⟨rfl,_,_,.inr (SqT.of h2),at1,_,_,.inr (SqT.of h2),at0,_,_,.inr (SqT.of h2),at2,(show 3≤sizeLine by decide),fun L nL=>⟨[x,"filled",w],.inl (SqL.of upd_same),?_,q _ ((e1.trans e2).trans (Ext.new nL))⟩⟩
   omega
 | @cmp p k x y h1=>
   obtain⟨hk,_,_⟩:=ok
   refine first p k _ _ h1 (by rcases hk with e|e<;>rw[e]<;>decide+kernel) fun G1 e1=> ?_
   refine second G1 p k _ _ _ (e1 _ _ h1) (fun z=>absurd z (by rcases hk with e|e<;>rw[e]<;>decide+kernel)) fun _ G2 e2=> ?_
   have h2:=e2 _ _ (e1 _ _ h1)
   have hj:=tj_len (s:= " ") (ws:= [x,k,y]) (by simp)
   have hl2:(Txt.join " " [x,k,y]).length≤1000000:=hl
   refine⟨rfl,_,_,.inr (SqT.of h2),at1,_,_,.inr (SqT.of h2),at0,_,_,.inr (SqT.of h2),at2,(show 3≤sizeLine by decide),fun L nL=>⟨[x,k,y],.inl (SqL.of upd_same),?_,q _ ((e1.trans e2).trans (Ext.new nL))⟩⟩
   omega
 | @blk p qa k ns x t h1 hq0 hx=>
   obtain⟨hk,l3,wf⟩:=ok
   have hd:t.dep+ns.length+2≤N+1:=hd
   have hl2:(Txt.join " " (([k]++ns)++([LP,sTxt t,RP]:List Str))).length≤1000000:=hl
   have hj:=tj_len (s:= " ") (ws:=([k]++ns)++([LP,sTxt t,RP]:List Str)) (by simp)
   rw[c4,Nat.mul_one] at hj
   have hlen:(([k]++ns)++([LP,sTxt t,RP]:List Str)).length=ns.length+4:=by simp
   have hsum:(sTxt t).length≤((([k]++ns)++([LP,sTxt t,RP]:List Str)).map (·.length)).sum:=by
    rw[z16,List.sum_append]
    simp
    omega
   refine⟨_,_,.inr (SqT.of h1),at0,(show 2≤sizeLine by decide),fun p2 n2=>⟨_,.inr (SqT.of upd_same),rfl,rfl,?_⟩⟩
   rw[show([.str "all",.str "some"]:List V)=(["all","some"]:List Str).map V.str from rfl,inV_str]
   have e1:Ext H (upd H p2 (.tup ((["all","some"]:List Str).map V.str))):=Ext.new n2
   generalize upd H p2 (.tup ((["all","some"]:List Str).map V.str))=H1 at e1⊢
   have h2:=e1 _ _ h1
   refine brDT (by simp only[List.mem_cons,z13,or_false];exact hk) ?_
   refine⟨rfl,_,_,.inr (SqT.of h2),at0,(show 1≤sizeLine by decide),fun L nL=> ?_⟩
   have eL:=Ext.new (o:= .lst [.str k]) nL
   have gL:(upd H1 L (.lst [.str k])) L=some (.lst [.str k]):=upd_same
   generalize upd H1 L (.lst [.str k])=H2 at eL gL⊢
   have e12:=e1.trans eL
   refine⟨_,_,.inr (SqT.of (eL _ _ h2)),at1,_,_,gL,e12 _ _ hq0,?_,fun M nM=> ?_⟩
   ·rw[z8]
    show 1+ns.length≤_
    omega
   have eM:=Ext.new (o:= .lst ([.str k]++ns.map V.str)) nM
   have gM:(upd H2 M (.lst ([.str k]++ns.map V.str))) M=some (.lst (([k]++ns).map V.str)):=upd_same
   generalize upd H2 M (.lst ([.str k]++ns.map V.str))=H3 at eM gM⊢
   have e13:=e12.trans eM
   refine⟨_,_,.inr (SqT.of (e13 _ _ h1)),at2,_,t,trs,("here"::ns),rfl,hx.ext e13,wf,by omega,by omega,fun H4 e4=>⟨(show 3≤sizeLine by decide),fun S nS=> ?_⟩⟩
   have eS:=Ext.new (o:= .lst [.str "(",.str (sTxt t),.str ")"]) nS
   have gS:(upd H4 S (.lst [.str "(",.str (sTxt t),.str ")"])) S=some (.lst ((([LP,sTxt t,RP]:List Str):List Str).map V.str)):=upd_same
   generalize upd H4 S (.lst [.str "(",.str (sTxt t),.str ")"])=H5 at eS gS⊢
   refine⟨_,_,eS _ _ (e4 _ _ gM),gS,?_,fun R nR=>⟨([k]++ns)++([LP,sTxt t,RP]:List Str),.inl (SqL.of (by rw[upd_same];simp)),?_,q _ (((e13.trans e4).trans eS).trans (Ext.new nR))⟩⟩
   ·simp
    omega
   ·show _+_*_≤_
    rw[c4]
    omega
theorem own3_ok:∀x∈OWN3,okV (.str x)=true:=by decide+kernel
theorem len_says (h:sp_says N K vs H Q E):vs.length=3:=by
 obtain⟨_,_,_,_,_,_,_,_,_,rfl,_⟩:=h
 rfl
theorem nil_says (h:sp_says 0 K vs H Q E):False:=by
 obtain⟨_,_,_,t,_,_,_,_,_,_,_,_,_,_,_,_,_,h,_⟩:=h
 have:=t.dep_pos
 omega
theorem mergeK_snoc {kvs:List (Key × V)} {k:Key} {v:V}:mergeK [] (kvs++ [(k,v)])=putK (mergeK [] kvs) k v:=by
 unfold mergeK
 rw[List.foldl_append]
 rfl
theorem putK_len {kvs:List (Key × V)} {k:Key} {v:V}:(putK kvs k v).length≤kvs.length+1:=by
 unfold putK
 split
 ·rw[z8];omega
 ·rw[z17];exact z34 _
theorem all_but {m i:Nat} {g:Nat→Bool} (h:∀j,j<i→g j=true) (hm:m≤i):(List.range m).all g=true:=by
 rw[List.all_eq_true]
 exact fun j hj=>h j (z24 (List.mem_range.mp hj) hm)
theorem any_but {m i:Nat} {g:Nat→Bool} (h:∀j,j<i→g j=false) (hm:m≤i):(List.range m).any g=false:=by
 rw[List.any_eq_false]
 exact fun j hj=>by rw[h j (z24 (List.mem_range.mp hj) hm)];decide
def N_says:List Str:= ["_law_sheet","_law_saying","_law_spots","_law_kind","_law_told","_law_part","_law_one","_law_two","_law_column","_law_more"]
def t_says (N:Nat) (K:Kf) (E:XK):TS:=
 (tSeq (tAsg (tOp (zIxL K) (yVar 1) (tC (.int 0))) (gName 3))
    (tSeq (yIf (yTst (tOp (zIn K false) (yVar 3) (tTup (tCons (tC (.str "not")) (tCons (tC (.str "and")) (tCons (tC (.str "or")) tNil)))))) (tSeq (tAsg (yLc (jTup K (tSl (zSlT K) (yVar 1) (tPart (tC (.int 1))) tNoPart)) (gName 5) tYes (yCall (sp_says N K) E0 (tCons (yVar 0) (tCons (yVar 5) (tCons (yVar 2) tNil)))) [5]) (gName 4))
    (tRet (yIfE (yTst (tOp zEq (yVar 3) (tC (.str "not")))) (yNotV (tOp (zIxL K) (yVar 4) (tC (.int 0)))) (yIfE (yTst (tOp zEq (yVar 3) (tC (.str "and")))) (tOp (zIn K true) (tC (.bl false)) (yVar 4)) (tOp (zIn K false) (tC (.bl true)) (yVar 4)))))) tNext)
    (tSeq (yIf (yTst (tOp zEq (yVar 3) (tC (.str "filled")))) (tRet (tOp zEq (tOp (zIxL K) (tOp (zIxL K) (yDGet (yVar 0) (tC (.str "cols"))) (yDGet (yVar 2) (tOp (zIxL K) (yVar 1) (tC (.int 1))))) (tBM K "list" (zIdx K) (yDGet (yVar 0) (tC (.str "tracks"))) (tCons (tOp (zIxL K) (yVar 1) (tC (.int 2))) tNil))) (tC (.int 1)))) tNext)
    (tSeq (yIf (yTst (tOp (zIn K false) (yVar 3) (tTup (tCons (tC (.str "ahead")) (tCons (tC (.str "is")) tNil))))) (tSeq (yPar 6 7 (tCons (yDGet (yVar 2) (tOp (zIxL K) (yVar 1) (tC (.int 1)))) (tCons (yDGet (yVar 2) (tOp (zIxL K) (yVar 1) (tC (.int 2)))) tNil)))
    (tRet (yIfE (yTst (tOp zEq (yVar 3) (tC (.str "ahead")))) (tOp zLt (yVar 6) (yVar 7)) (tOp zEq (yVar 6) (yVar 7))))) tNext)
    (tSeq (yIf (yTst (tOp (zEqD K) (tOp (zIxL K) (yVar 1) (tC (.int 1))) (tLst tNil))) (tRet (yCall (sp_says N K) E0 (tCons (yVar 0) (tCons (tOp (zIxL K) (yVar 1) (tC (.int 2))) (tCons (yVar 2) tNil))))) tNext)
    (tSeq (yFor (jRng (tCB (zLen K) (tCons (yDGet (yVar 0) (tC (.str "cols"))) tNil))) (gName 8) (tSeq (tAsg (tCB (zDictP K) (tCons (tOp zCatL (yLItems (yVar 2)) (tLst (tCons (tTup (tCons (tOp (zIxL K) (tOp (zIxL K) (yVar 1) (tC (.int 1))) (tC (.int 0))) (tCons (yVar 8) tNil))) tNil))) tNil)) (gName 9))
    (yIf (yTst (tOp zNe (yCall (sp_says N K) E0 (tCons (yVar 0) (tCons (tTup (tCons (yVar 3) (tCons (tSl (zSlL K) (tOp (zIxL K) (yVar 1) (tC (.int 1))) (tPart (tC (.int 1))) tNoPart) (tCons (tOp (zIxL K) (yVar 1) (tC (.int 2))) tNil)))) (tCons (yVar 9) tNil)))) (tOp zEq (yVar 3) (tC (.str "all"))))) (tRet (tOp zNe (yVar 3) (tC (.str "all")))) tNext)))
    (tRet (tOp zEq (yVar 3) (tC (.str "all"))))))))))
theorem pure_says (h:sp_says (N+1) K vs H Q E):t_says N K E (dEnd Q) (start N_says vs) H:=by
 obtain⟨d,sp,v,t,ys,bd,cols,kvs,f,rfl,ht,hS,hc,hm,wl,hsp,cb,hd,hk9,q⟩:=h
 have three:(3:Nat)≤sizeLine:=by decide
 obtain⟨dk,tl,cl,cas,g1,g2,g3,g4,g5,g6⟩:=id hS
 have first:∀(p:Addr) (k:Str) (r:List V) (A B:TS),H p=some (.tup (.str k::r))→(k∈(["not","and","or"]:List Str)→∀G',Ext H G'→tSeq A B (dEnd Q) [some (.ref d),some (.ref p),some (.ref sp),some (.str k),none,none,none,none,none,none] G')→(k∉ (["not","and","or"]:List Str)→∀G',Ext H G'→B (dEnd Q) [some (.ref d),some (.ref p),some (.ref sp),some (.str k),none,none,none,none,none,none] G')→
  tSeq (tAsg (tOp (zIxL K) (yVar 1) (tC (.int 0))) (gName 3)) (tSeq (yIf (yTst (tOp (zIn K false) (yVar 3) (tTup (tCons (tC (.str "not")) (tCons (tC (.str "and")) (tCons (tC (.str "or")) tNil)))))) A tNext) B) (dEnd Q) [some (.ref d),some (.ref p),some (.ref sp),none,none,none,none,none,none,none] H:=fun p k r A B hp hy hn=>by
  refine⟨_,_,.inr (SqT.of hp),at0,three,fun p2 n2=>⟨_,.inr (SqT.of upd_same),rfl,rfl,?_⟩⟩
  rw[show([.str "not",.str "and",.str "or"]:List V)=(["not","and","or"]:List Str).map V.str from rfl,inV_str]
  exact brD (fun z=>hy z _ (Ext.new n2)) fun z=>hn z _ (Ext.new n2)
 cases ht with
 | @bin p k x y t1 t2 hp h1 h2=>
   obtain⟨hk,o1,o2⟩:=wl
   have hd:max t1.dep t2.dep+1≤N+1:=hd
   refine first p k _ _ _ hp (fun _ G1 e1=> ?_) fun z=>absurd (by rcases hk with e|e<;>rw[e]<;>decide+kernel) z
   have hp':=e1 _ _ hp
   dsimp only[tSeq,tAsg]
   refine lc_sl (xs:= [x,y]) (ys:= [.bl (saysT ys (rowsOf cols ys.length) cols.length t1 f),.bl (saysT ys (rowsOf cols ys.length) cols.length t2 f)]) rfl (SqT.of hp') (show 2<sizeLine by decide) (fun x=>rfl) rfl (fun G j a b Q' eG ha hb hq=> ?_) fun D G eG nD hD=> ?_
   ·have both:(a=x∧b= .bl (saysT ys (rowsOf cols ys.length) cols.length t1 f))∨(a=y∧b= .bl (saysT ys (rowsOf cols ys.length) cols.length t2 f)):=by
        match j,ha,hb with
        |0,ha,hb=>cases ha;cases hb;exact .inl ⟨rfl,rfl⟩
        |1,ha,hb=>cases ha;cases hb;exact .inr ⟨rfl,rfl⟩
        |j+2,ha,hb=>simp at ha
    have e0:=e1.trans eG
    rcases both with⟨rfl,rfl⟩|⟨rfl,rfl⟩
    ·exact⟨d,sp,_,t1,ys,bd,cols,kvs,f,rfl,h1.ext e0,hS.ext e0,hc,hm,o1,e0 _ _ hsp,cb,by omega,by omega,hq⟩
    ·exact⟨d,sp,_,t2,ys,bd,cols,kvs,f,rfl,h2.ext e0,hS.ext e0,hc,hm,o2,e0 _ _ hsp,cb,by omega,by omega,hq⟩
   ·have q1:=q G (e1.trans eG)
    rcases hk with rfl|rfl
    ·have e:saysT ys (rowsOf cols ys.length) cols.length (.bin "and" t1 t2) f=(saysT ys (rowsOf cols ys.length) cols.length t1 f&&saysT ys (rowsOf cols ys.length) cols.length t2 f):=rfl
     rw[e] at q1
     refine brF (by decide+kernel) (brT (by decide+kernel) ⟨_,.inl (SqL.of hD),rfl,rfl,?_⟩)
     generalize saysT ys (rowsOf cols ys.length) cols.length t1 f=u1 at*
     generalize saysT ys (rowsOf cols ys.length) cols.length t2 f=u2 at*
     have e2:(!inV (.bl false) [.bl u1,.bl u2])=(u1&&u2):=by cases u1<;>cases u2<;>rfl
     show dEnd Q|>.rt (.bl (!inV (.bl false) [.bl u1,.bl u2])) G
     rw[e2]
     exact q1
    ·have e:saysT ys (rowsOf cols ys.length) cols.length (.bin "or" t1 t2) f=(saysT ys (rowsOf cols ys.length) cols.length t1 f||saysT ys (rowsOf cols ys.length) cols.length t2 f):=rfl
     rw[e] at q1
     refine brF (by decide+kernel) (brF (by decide+kernel) ⟨_,.inl (SqL.of hD),rfl,rfl,?_⟩)
     generalize saysT ys (rowsOf cols ys.length) cols.length t1 f=u1 at*
     generalize saysT ys (rowsOf cols ys.length) cols.length t2 f=u2 at*
     have e2:(inV (.bl true) [.bl u1,.bl u2])=(u1||u2):=by cases u1<;>cases u2<;>rfl
     show dEnd Q|>.rt (.bl (inV (.bl true) [.bl u1,.bl u2])) G
     rw[e2]
     exact q1
 | @neg p x t1 hp h1=>
   have hd:t1.dep+1≤N+1:=hd
   refine first p "not" _ _ _ hp (fun _ G1 e1=> ?_) fun z=>absurd (by decide+kernel) z
   have hp':=e1 _ _ hp
   dsimp only[tSeq,tAsg]
   refine lc_sl (xs:= [x]) (ys:= [.bl (saysT ys (rowsOf cols ys.length) cols.length t1 f)]) rfl (SqT.of hp') (show 1<sizeLine by decide) (fun x=>rfl) rfl (fun G j a b Q' eG ha hb hq=> ?_) fun D G eG nD hD=> ?_
   ·have both:a=x∧b= .bl (saysT ys (rowsOf cols ys.length) cols.length t1 f):=by
        match j,ha,hb with
        |0,ha,hb=>cases ha;cases hb;exact⟨rfl,rfl⟩
        |j+1,ha,hb=>simp at ha
    have e0:=e1.trans eG
    obtain⟨rfl,rfl⟩:=both
    exact⟨d,sp,_,t1,ys,bd,cols,kvs,f,rfl,h1.ext e0,hS.ext e0,hc,hm,wl,e0 _ _ hsp,cb,by omega,by omega,hq⟩
   ·exact brT (by decide+kernel) ⟨_,_,.inl (SqL.of hD),at0,q G (e1.trans eG)⟩
 | @fil p x w hp=>
   obtain⟨hx,hw⟩:=wl
   refine first p "filled" _ _ _ hp (fun z=>absurd z (by decide+kernel)) fun _ G1 e1=> ?_
   have hp':=e1 _ _ hp
   obtain⟨hv,hlt⟩:=cb.at_ x hx
   have hlt2:f x<cas.length:=by rw[g6.1];exact hlt
   obtain⟨col,hcol,hca⟩:=g6.2 (f x) _ (z9 hlt2)
   obtain⟨x1,x2⟩:=idx_str hw
   have f1:(ys.map V.str)[ys.idxOf w]?=some (V.str w):=by rw[z10,x1];rfl
   have f2:∀m z,m<ys.idxOf w→(ys.map V.str)[m]?=some z→L2.eqV z (V.str w)=false:=fun m z hm hz=>by
    rw[z10] at hz
    obtain⟨b,hb,rfl⟩:=z30.mp hz
    exact beq_eq_false_iff_ne.mpr fun e=>x2 m hm (by rw[hb,e])
   have hcl:col.length=ys.length:=(hc col (z11 hcol)).1
   have hxl:ys.idxOf w<col.length:=by rw[hcl];exact z20 hw
   have q1:=q G1 e1
   have eq1:saysT ys (rowsOf cols ys.length) cols.length (.fil x w) f=decide (col.getD (ys.idxOf w) 0=1):=row_bit hw hcol
   rw[eq1] at q1
   refine brT rfl ⟨_,_,.inl (e1 _ _ g1),g3,_,_,.inr (SqT.of hp'),at1,_,_,.inl (e1 _ _ hsp),hv,_,_,.inl (SqL.of (e1 _ _ g5)),atI_nat (by rw[z10,z9 hlt2];rfl),?_⟩
   refine⟨_,_,.inl (e1 _ _ g1),g2,tyL (e1 _ _ g4),_,_,.inr (SqT.of hp'),at2,ys.map V.str,_,SqL.of (e1 _ _ g4),rfl,flat_strs,f1,beq_self_eq_true _,f2,_,_,.inl (SqL.of (e1 _ _ hca)),atI_nat (by rw[z10,z9 hxl];rfl),?_⟩
   have e3:col.getD (ys.idxOf w) 0=col[ys.idxOf w]:=by
    rw[z14,z9 hxl]
    rfl
   rw[e3] at q1
   exact q1
 | @cmp p k x y hp=>
   obtain⟨hk,hx,hy⟩:=wl
   have hk3:k∉ (["not","and","or"]:List Str)∧k≠ "filled" ∧k∈(["ahead","is"]:List Str):=by
    rcases hk with e|e<;>rw[e]<;>decide+kernel
   refine first p k _ _ _ hp (fun z=>absurd z hk3.1) fun _ G1 e1=> ?_
   have hp':=e1 _ _ hp
   refine brDF hk3.2.1 ⟨(show 2≤sizeLine by decide),fun p2 n2=>⟨_,.inr (SqT.of upd_same),rfl,rfl,?_⟩⟩
   rw[show([.str "ahead",.str "is"]:List V)=(["ahead","is"]:List Str).map V.str from rfl,inV_str]
   have e2:Ext G1 (upd G1 p2 (.tup ((["ahead","is"]:List Str).map V.str))):=Ext.new n2
   generalize upd G1 p2 (.tup ((["ahead","is"]:List Str).map V.str))=G2 at e2⊢
   have e12:=e1.trans e2
   refine brDT hk3.2.2 ⟨_,_,.inr (SqT.of (e2 _ _ hp')),at1,_,_,.inl (e12 _ _ hsp),(cb.at_ x hx).1,_,_,.inr (SqT.of (e2 _ _ hp')),at2,_,_,.inl (e12 _ _ hsp),(cb.at_ y hy).1,?_⟩
   have q1:=q G2 e12
   rcases hk with rfl|rfl
   ·have e:saysT ys (rowsOf cols ys.length) cols.length (.cmp "ahead" x y) f=decide (((f x:Nat):Int)<((f y:Nat):Int)):=by
        show(if("ahead":Str)= "ahead" then decide (f x<f y) else decide (f x=f y))=_
        rw[if_pos rfl]
        exact decide_eq_decide.mpr (by omega)
    rw[e] at q1
    exact brT rfl q1
   ·have e:saysT ys (rowsOf cols ys.length) cols.length (.cmp "is" x y) f=decide (((f x:Nat):Int)=((f y:Nat):Int)):=by
        show(if("is":Str)= "ahead" then decide (f x<f y) else decide (f x=f y))=_
        rw[if_neg (by decide+kernel)]
        exact decide_eq_decide.mpr (by omega)
    rw[e] at q1
    exact brF (by decide+kernel) q1
 | @blk p qa k ns x t hp hq0 hx=>
   obtain⟨hk,own,wa⟩:=wl
   have hd:t.dep+ns.length+2≤N+1:=hd
   have hk3:k∉ (["not","and","or"]:List Str)∧k≠ "filled" ∧k∉ (["ahead","is"]:List Str):=by
    rcases hk with e|e<;>rw[e]<;>decide+kernel
   refine first p k _ _ _ hp (fun z=>absurd z hk3.1) fun _ G1 e1=> ?_
   refine brDF hk3.2.1 ⟨(show 2≤sizeLine by decide),fun p2 n2=>⟨_,.inr (SqT.of upd_same),rfl,rfl,?_⟩⟩
   rw[show([.str "ahead",.str "is"]:List V)=(["ahead","is"]:List Str).map V.str from rfl,inV_str]
   have e2:Ext G1 (upd G1 p2 (.tup ((["ahead","is"]:List Str).map V.str))):=Ext.new n2
   generalize upd G1 p2 (.tup ((["ahead","is"]:List Str).map V.str))=G2 at e2⊢
   have e12:=e1.trans e2
   refine brDF hk3.2.2 ⟨_,_,.inr (SqT.of (e12 _ _ hp)),at1,z35 _,fun L nL=> ?_⟩
   have eL:=Ext.new (o:= .lst []) nL
   have gL:(upd G2 L (.lst [])) L=some (.lst (([]:List Str).map V.str)):=upd_same
   generalize upd G2 L (.lst [])=G3 at eL gL⊢
   have e13:=e12.trans eL
   have lay:(ns.map V.str).all okV=true:=List.all_eq_true.mpr fun z hz=>by
    obtain⟨y,hy,rfl⟩:=z37.mp hz
    exact own3_ok y (own y hy)
   refine⟨_,_,.lst (SqL.of (e13 _ _ hq0)) (dpAll_flat flat_strs),.lst (SqL.of gL) (dpAll_flat flat_strs),shaped_flatL lay,rfl,?_⟩
   rw[eqvL]
   refine brD (fun e=> ?_) fun hne=> ?_
   ·subst e
    refine⟨_,_,.inr (SqT.of (e13 _ _ hp)),at2,?_⟩
    exact⟨d,sp,_,t,ys,bd,cols,kvs,f,rfl,hx.ext e13,hS.ext e13,hc,hm,wa,e13 _ _ hsp,cb,by omega,by omega,fun G4 e4=>q G4 (e13.trans e4)⟩
   obtain⟨y,zs,rfl⟩:∃y zs,ns=y::zs:=by
    cases ns with
    |nil=>exact absurd rfl hne
    |cons y zs=>exact⟨y,zs,rfl⟩
   have hzl:(y::zs).length=zs.length+1:=rfl
   let g:Nat→Bool:=fun c=>blkT cols.length k (saysT ys (rowsOf cols ys.length) cols.length t) zs (upN f y c)
   have lcas:(cas.map V.ref).length=cols.length:=by rw[z8,g6.1]
   refine⟨_,_,.inl (e13 _ _ g1),g3,_,.inl (SqL.of (e13 _ _ g5)),?_⟩
   rw[lcas]
   refine⟨by omega,by omega,fun i σ G=>(∃x8 x9,σ= [some (.ref d),some (.ref p),some (.ref sp),some (.str k),none,none,none,none,x8,x9])∧Ext G3 G∧∀j,j<i→g j=decide (k= "all"),⟨⟨_,_,rfl⟩,Ext.refl _,fun j hj=>absurd hj (Nat.not_lt_zero _)⟩,fun _ _ _ _ _=>trivial,?_,?_⟩
   ·rintro i v0 σ Gx G hi ⟨⟨x8,x9,rfl⟩,eG,hno⟩ ⟨rfl,rfl⟩
    rw[Int.toNat_natCast] at hi
    have e0:(0:Int)+((i:Nat):Int)=((i:Nat):Int):=by omega
    dsimp only
    rw[e0]
    have e1G:=e13.trans eG
    refine⟨kvs,e1G _ _ hsp,fun H4 lp ts e4 nlp nts _ hlp hpair=> ?_⟩
    have e14:=e1G.trans e4
    refine⟨_,_,.inr (SqT.of (e14 _ _ hp)),at1,_,_,.inl (SqL.of (e14 _ _ hq0)),at0,(show 2≤sizeLine by decide),fun T nT=>⟨(show 1≤sizeLine by decide),fun L1 nL1=> ?_⟩⟩
    have eT:=Ext.new (o:= .tup [.str y,.int ((i:Nat):Int)]) nT
    have gT:(upd H4 T (.tup [.str y,.int ((i:Nat):Int)])) T=some (.tup [.str y,.int ((i:Nat):Int)]):=upd_same
    generalize upd H4 T (.tup [.str y,.int ((i:Nat):Int)])=H5 at eT gT nL1⊢
    have eL1:=Ext.new (o:= .lst [.ref T]) nL1
    have gL1:(upd H5 L1 (.lst [.ref T])) L1=some (.lst [.ref T]):=upd_same
    generalize upd H5 L1 (.lst [.ref T])=H6 at eL1 gL1⊢
    have e46:=eT.trans eL1
    have lts:ts.length=kvs.length:=by
        have:∀{l:List Addr} {m:List (Key × V)} {F:Addr→Key × V→Prop},Paired F l m→l.length=m.length:=by
         intro l m F hh
         induction hh with
         |nil=>rfl
         |cons _ _ ih=>rw[z27,z27,ih]
        exact this hpair
    refine⟨_,_,e46 _ _ hlp,gL1,by rw[z8,lts,sizeLine_eq];show kvs.length+1≤_;omega,fun C nC=> ?_⟩
    have eC:=Ext.new (o:= .lst (ts.map V.ref++ [.ref T])) nC
    have gC:(upd H6 C (.lst (ts.map V.ref++ [.ref T]))) C=some (.lst ((ts++ [T]).map V.ref)):=by rw[upd_same,z16];rfl
    generalize upd H6 C (.lst (ts.map V.ref++ [.ref T]))=H7 at eC gC⊢
    have pimp:∀{l:List Addr} {m:List (Key × V)},Paired (fun(t:Addr) (q:Key × V)=>H4 t=some (.tup [kV q.1,q.2])) l m→Paired (fun p kv=>SqT K H7 p [kV kv.1,kv.2]) l m:=by
        intro l m hh
        induction hh with
        |nil=>exact .nil
        |cons h1 _ ih=>exact .cons (SqT.of (eC _ _ (e46 _ _ h1))) ih
    refine⟨ts++ [T],kvs++ [(Sum.inr y,.int ((i:Nat):Int))],SqL.of gC,(pimp hpair).snoc (show SqT K H7 T [kV (Sum.inr y),.int ((i:Nat):Int)] from SqT.of (eC _ _ (eL1 _ _ gT))),fun d2 nd2=> ?_⟩
    rw[mergeK_snoc,cb.same]
    have ed:=Ext.new (o:= .dK (putK kvs (Sum.inr y) (.int ((i:Nat):Int)))) nd2
    have gd:(upd H7 d2 (.dK (putK kvs (Sum.inr y) (.int ((i:Nat):Int))))) d2=some (.dK (putK kvs (Sum.inr y) (.int ((i:Nat):Int)))):=upd_same
    generalize upd H7 d2 (.dK (putK kvs (Sum.inr y) (.int ((i:Nat):Int))))=H8 at ed gd⊢
    have e18:=((e14.trans e46).trans eC).trans ed
    have e38:=((e4.trans e46).trans eC).trans ed
    refine⟨_,_,.inr (SqT.of (e18 _ _ hp)),at1,_,rfl,_,SqL.of (e18 _ _ hq0),fun A nA=>⟨_,_,.inr (SqT.of (Ext.new nA _ _ (e18 _ _ hp))),at2,three,fun T2 nT2=> ?_⟩⟩
    rw[show cutV ((y::zs).map V.str) (some 1) none=zs.map V.str from cutV_1] at nT2⊢
    have eA:=Ext.new (o:= .lst (zs.map V.str)) nA
    have gA:(upd H8 A (.lst (zs.map V.str))) A=some (.lst (zs.map V.str)):=upd_same
    generalize upd H8 A (.lst (zs.map V.str))=H9 at eA gA nT2⊢
    have eT2:=Ext.new (o:= .tup [.str k,.ref A,x]) nT2
    have gT2:(upd H9 T2 (.tup [.str k,.ref A,x])) T2=some (.tup [.str k,.ref A,x]):=upd_same
    generalize upd H9 T2 (.tup [.str k,.ref A,x])=H10 at eT2 gT2⊢
    have e1X:=(e18.trans eA).trans eT2
    refine⟨d,d2,.ref T2,.blk k zs t,ys,y::bd,cols,_,upN f y i,rfl,.blk gT2 (eT2 _ _ gA) (hx.ext e1X),hS.ext e1X,hc,hm,⟨hk,fun w hw=>own w (z23 _ hw),wa.mono fun w hw=> ?_⟩,eT2 _ _ (eA _ _ gd),cb.put hi,by show t.dep+zs.length+2≤N;omega,by have:=putK_len (kvs:=kvs) (k:=Sum.inr y) (v:= .int ((i:Nat):Int));omega,fun H11 e11=> ?_⟩
    ·have hw:w∈y::(zs++bd):=hw
     rcases List.mem_cons.mp hw with z|z
     ·rw[z];exact z12 _ (z31 ..)
     ·exact(z36.mp z).elim (fun z=>z18 _ z) fun z=>z12 _ (z23 _ z)
    have eF:=e1X.trans e11
    have hg:saysT ys (rowsOf cols ys.length) cols.length (.blk k zs t) (upN f y i)=g i:=rfl
    rw[hg]
    rcases hk with rfl|rfl
    ·refine br (fun hb=> ?_) fun hb=> ?_
     ·have hgi:g i=false:=by
       have hb:(!decide (g i=decide (("all":Str)= "all")))=true:=hb
       rw[decide_eq_true rfl] at hb
       cases z:g i
       ·rfl
       ·rw[z] at hb;cases hb
      have q1:=q H11 eF
      have e:saysT ys (rowsOf cols ys.length) cols.length (.blk "all" (y::zs) t) f=false:=all_first (g:=g) hi hgi
      rw[e] at q1
      exact q1
     ·refine⟨⟨_,_,rfl⟩,((eG.trans e38).trans eA).trans (eT2.trans e11),fun j hj=> ?_⟩
      have hb:(!decide (g i=decide (("all":Str)= "all")))=false:=hb
      rcases Nat.lt_or_ge j i with z|z
      ·exact hno j z
      ·rw[show j=i by omega]
       simpa using hb
    ·refine br (fun hb=> ?_) fun hb=> ?_
     ·have hgi:g i=true:=by
       have hb:(!decide (g i=decide (("some":Str)= "all")))=true:=hb
       rw[show decide (("some":Str)= "all")=false by decide+kernel] at hb
       cases z:g i
       ·rw[z] at hb;cases hb
       ·rfl
      have q1:=q H11 eF
      have e:saysT ys (rowsOf cols ys.length) cols.length (.blk "some" (y::zs) t) f=true:=any_first (g:=g) hi hgi
      rw[e] at q1
      exact q1
     ·refine⟨⟨_,_,rfl⟩,((eG.trans e38).trans eA).trans (eT2.trans e11),fun j hj=> ?_⟩
      have hb:(!decide (g i=decide (("some":Str)= "all")))=false:=hb
      rcases Nat.lt_or_ge j i with z|z
      ·exact hno j z
      ·rw[show j=i by omega]
       simpa using hb
   ·rintro σ G ⟨⟨x8,x9,rfl⟩,eG,hno⟩
    have q1:=q G (e13.trans eG)
    rw[Int.toNat_natCast] at hno
    rcases hk with rfl|rfl
    ·have e:saysT ys (rowsOf cols ys.length) cols.length (.blk "all" (y::zs) t) f=true:=all_but (g:=g) (fun j hj=>by rw[hno j hj];exact decide_eq_true rfl) (z34 _)
     rw[e] at q1
     exact q1
    ·have e:saysT ys (rowsOf cols ys.length) cols.length (.blk "some" (y::zs) t) f=false:=any_but (g:=g) (fun j hj=>by rw[hno j hj];decide+kernel) (z34 _)
     rw[e] at q1
     exact q1
end
section
variable {P:Program} {w:World} {K:Kf} {mg:Str→Option Value} {base:Heap}
abbrev s_saying_text:Stmt:=top 50
theorem sc_saying_text:FnScope N_saying_text ["_law_saying"] (defScope s_saying_text):=⟨rfl,rfl,rfl,by decide+kernel,rfl,by decide+kernel,by decide+kernel⟩
theorem ok_saying_text {N:Nat} {f:Addr} {fd:FuncData} (B:Blt mg) (c_saying_text:Cal P w K mg base "_law_saying_text" (N+0) ["_law_saying"] (sp_saying_text N K)) (F:FunD K "_law_saying_text" "_law_saying_text" (defArgs s_saying_text) (defBody s_saying_text) (defScope s_saying_text) [] [] f fd):FnOk P w K mg base (L2.CX P w) (N+1) f fd ["_law_saying"] (sp_saying_text (N+1) K):=by
 refine F.ok sc_saying_text (fun vs H Q E h=>len_saying_text h) (fun cdv A outer s H vs Q E hr h=>⟨t_saying_text N K E,?_,pure_saying_text h⟩)
 exact(pss_cons (ys_if (yt_cmp op_zIn (pe_ix ix_zIxL (yv 0) pe_int (fun _ _=>rfl)) (pe_tup (pa_cons pe_str (pa_cons pe_str pa_nil))) (by rfl)) (pss_one (ps_ret (pe_bm PySem.F.plainAttrs_str PySem.F.slot_str_join PySem.F.type_str_join mt_zJoin pe_str (pa_cons (pe_op op_zCatL (pe_op op_zCatL (pe_lst (pa_cons (pe_ix ix_zIxL (yv 0) pe_int (fun _ _=>rfl)) pa_nil)) (pe_ix ix_zIxL (yv 0) pe_int (fun _ _=>rfl))) (pe_lst (pa_cons pe_str (pa_cons (ye_call c_saying_text (hr.mono (by omega)) rfl (pa_cons (pe_ix ix_zIxL (yv 0) pe_int (fun _ _=>rfl)) pa_nil)) (pa_cons pe_str pa_nil))))) pa_nil)))) pss_nil)
  (pss_cons (ys_if (yt_cmp op_zIn (pe_ix ix_zIxL (yv 0) pe_int (fun _ _=>rfl)) (pe_tup (pa_cons pe_str (pa_cons pe_str (pa_cons pe_str pa_nil)))) (by rfl)) (pss_cons (ys_setLc (i:=1) (own:= [("_law_part",2)]) (g:=(gName 2)) (tt:=tYes) rfl sc_saying_text.nd rfl rfl (sw_true rfl rfl rfl (by decide+kernel)) (j_tup (pe_slice sl_zT (yv 0) (po_some pe_int) po_none)) (blkOk_by (N:=N_saying_text) (sc:=defScope s_saying_text) (by decide+kernel)) (fun _ _ _ _ _=>(pg_name (i:=2) sc_saying_text.nd rfl (by first|exact Or.inl rfl|exact Or.inr rfl))) (fun _ _ _ _ _=>pts_nil) (fun _ _ _ _ _=>(pe_op op_zAdd (pe_op op_zAdd pe_str (ye_call c_saying_text (hr.mono (by omega)) rfl (pa_cons (yv 2) pa_nil))) pe_str)))
  (pss_one (ps_ret (ye_if (yt_cmp op_zEq (pe_ix ix_zIxL (yv 0) pe_int (fun _ _=>rfl)) pe_str (by rfl)) (pe_op op_zAdd pe_str (pe_ix ix_zIxL (yv 1) pe_int (fun _ _=>rfl))) (pe_bm PySem.F.plainAttrs_str PySem.F.slot_str_join PySem.F.type_str_join mt_zJoin (pe_op op_zAdd (pe_op op_zAdd pe_str (pe_ix ix_zIxL (yv 0) pe_int (fun _ _=>rfl))) pe_str) (pa_cons (yv 1) pa_nil)))))) pss_nil)
  (pss_one (ps_ret (pe_bm PySem.F.plainAttrs_str PySem.F.slot_str_join PySem.F.type_str_join mt_zJoin pe_str (pa_cons (pe_lst (pa_cons (pe_ix ix_zIxL (yv 0) pe_int (fun _ _=>rfl)) (pa_cons (pe_ix ix_zIxL (yv 0) pe_int (fun _ _=>rfl)) (pa_cons (pe_ix ix_zIxL (yv 0) pe_int (fun _ _=>rfl)) pa_nil)))) pa_nil))))))
abbrev s_says:Stmt:=top 51
theorem sc_says:FnScope N_says ["_law_sheet","_law_saying","_law_spots"] (defScope s_says):=⟨rfl,rfl,rfl,by decide+kernel,rfl,by decide+kernel,by decide+kernel⟩
theorem ok_says {N:Nat} {f:Addr} {fd:FuncData} (B:Blt mg) (c_says:Cal P w K mg base "_law_says" (N+4) ["_law_sheet","_law_saying","_law_spots"] (sp_says N K)) (F:FunD K "_law_says" "_law_says" (defArgs s_says) (defBody s_says) (defScope s_says) [] [] f fd):FnOk P w K mg base (L2.CX P w) (N+5) f fd ["_law_sheet","_law_saying","_law_spots"] (sp_says (N+1) K):=by
 refine F.ok sc_says (fun vs H Q E h=>len_says h) (fun cdv A outer s H vs Q E hr h=>⟨t_says N K E,?_,pure_says h⟩)
 have hu:=hu_of hr
 have po:=passes_of (X:=cxOf (L2.CX P w) P w K mg base N_says "_law_says" (defScope s_says) f cdv A outer s H E) rfl
 exact(pss_cons (ps_set (i:=3) sc_says.nd rfl (by first|exact Or.inl rfl|exact Or.inr rfl) (pe_ix ix_zIxL (yv 1) pe_int (fun _ _=>rfl)))
  (pss_cons (ys_if (yt_cmp op_zIn (yv 3) (pe_tup (pa_cons pe_str (pa_cons pe_str (pa_cons pe_str pa_nil)))) (by rfl)) (pss_cons (ys_setLc (i:=4) (own:= [("_law_part",5)]) (g:=(gName 5)) (tt:=tYes) rfl sc_says.nd rfl rfl (sw_true rfl rfl rfl (by decide+kernel)) (j_tup (pe_slice sl_zT (yv 1) (po_some pe_int) po_none)) (blkOk_by (N:=N_says) (sc:=defScope s_says) (by decide+kernel)) (fun _ _ _ _ _=>(pg_name (i:=5) sc_says.nd rfl (by first|exact Or.inl rfl|exact Or.inr rfl))) (fun _ _ _ _ _=>pts_nil) (fun _ _ _ _ _=>(ye_call c_says (hr.mono (by omega)) rfl (pa_cons (yv 0) (pa_cons (yv 5) (pa_cons (yv 2) pa_nil))))))
  (pss_one (ps_ret (ye_if (yt_cmp op_zEq (yv 3) pe_str (by rfl)) (ye_not (pe_ix ix_zIxL (yv 4) pe_int (fun _ _=>rfl))) (ye_if (yt_cmp op_zEq (yv 3) pe_str (by rfl)) (pe_cmpR op_zNotIn pe_bl (yv 4) (by rfl)) (pe_cmpR op_zIn pe_bl (yv 4) (by rfl))))))) pss_nil)
  (pss_cons (ys_if (yt_cmp op_zEq (yv 3) pe_str (by rfl)) (pss_one (ps_ret (pe_cmpR op_zEq (pe_ix ix_zIxL (pe_ix ix_zIxL (ye_dget hu (yv 0) pe_str (fun _ _=>rfl)) (ye_dget hu (yv 2) (pe_ix ix_zIxL (yv 1) pe_int (fun _ _=>rfl)) (fun _ _=>rfl)) (fun _ _=>rfl)) (pe_bm PySem.F.plainAttrs_list PySem.F.slot_list_index PySem.F.type_list_index mt_zIdx (ye_dget hu (yv 0) pe_str (fun _ _=>rfl)) (pa_cons (pe_ix ix_zIxL (yv 1) pe_int (fun _ _=>rfl)) pa_nil)) (fun _ _=>rfl)) pe_int (by rfl)))) pss_nil)
  (pss_cons (ys_if (yt_cmp op_zIn (yv 3) (pe_tup (pa_cons pe_str (pa_cons pe_str pa_nil))) (by rfl)) (pss_cons (ys_par (ps_par (i:=6) (j:=7) (by rfl) sc_says.nd rfl rfl (by decide) rfl rfl (PA.up (pa_cons (ye_dget hu (yv 2) (pe_ix ix_zIxL (yv 1) pe_int (fun _ _=>rfl)) (fun _ _=>rfl)) (pa_cons (ye_dget hu (yv 2) (pe_ix ix_zIxL (yv 1) pe_int (fun _ _=>rfl)) (fun _ _=>rfl)) pa_nil))) (by rfl)))
  (pss_one (ps_ret (ye_if (yt_cmp op_zEq (yv 3) pe_str (by rfl)) (pe_cmpR op_zLt (yv 6) (yv 7) (by rfl)) (pe_cmpR op_zEq (yv 6) (yv 7) (by rfl)))))) pss_nil)
  (pss_cons (ys_if (yt_cmp (op_zEqD hr.units) (pe_ix ix_zIxL (yv 1) pe_int (fun _ _=>rfl)) (pe_lst pa_nil) (by rfl)) (pss_one (ps_ret (ye_call c_says (hr.mono (by omega)) rfl (pa_cons (yv 0) (pa_cons (pe_ix ix_zIxL (yv 1) pe_int (fun _ _=>rfl)) (pa_cons (yv 2) pa_nil)))))) pss_nil)
  (pss_cons (ys_for po rfl (j_rng rfl B.range (pe_callB cr_len rfl B.len boot_len (pa_cons (ye_dget hu (yv 0) pe_str (fun _ _=>rfl)) pa_nil))) (pg_name (i:=8) sc_says.nd rfl (by first|exact Or.inl rfl|exact Or.inr rfl)) (pss_cons (ps_set (i:=9) sc_says.nd rfl (by first|exact Or.inl rfl|exact Or.inr rfl) (pe_callTy (cr_zDictP rfl) rfl B.dict (by decide+kernel) (pa_cons (pe_op op_zCatL (ye_litems rfl rfl B.list (yv 2)) (pe_lst (pa_cons (pe_tup (pa_cons (pe_ix ix_zIxL (pe_ix ix_zIxL (yv 1) pe_int (fun _ _=>rfl)) pe_int (fun _ _=>rfl)) (pa_cons (yv 8) pa_nil))) pa_nil))) pa_nil)))
  (pss_one (ys_if (yt_cmp op_zNe (ye_call c_says (hr.mono (by omega)) rfl (pa_cons (yv 0) (pa_cons (pe_tup (pa_cons (yv 3) (pa_cons (pe_slice sl_zL (pe_ix ix_zIxL (yv 1) pe_int (fun _ _=>rfl)) (po_some pe_int) po_none) (pa_cons (pe_ix ix_zIxL (yv 1) pe_int (fun _ _=>rfl)) pa_nil)))) (pa_cons (yv 9) pa_nil)))) (pe_cmpR op_zEq (yv 3) pe_str (by rfl)) (by rfl)) (pss_one (ps_ret (pe_cmpR op_zNe (yv 3) pe_str (by rfl)))) pss_nil))))
  (pss_one (ps_ret (pe_cmpR op_zEq (yv 3) pe_str (by rfl))))))))))
end
theorem xw_okV:∀x∈XW,okV (.str x)=true:=by decide+kernel
section
variable {K:Kf} {vs:List V} {H:Hp} {Q:VK} {E:XK} {N:Nat}
def sp_new_claim (_:Kf):Sp:=fun vs H Q _=>∃(p c tl wl:Addr) (n:Nat) (trs ws:List Str),vs= [.ref p,.ref tl,.ref wl]∧PenAt H p c n∧n+100<1152921504606846976∧H tl=some (.lst (trs.map V.str))∧H wl=some (.lst (ws.map V.str))∧trs≠ []∧ws≠ []∧trs.length≤3∧ws.length≤10∧(∀x∈ws,x∈XW)∧
 ∀(v:V) (t:STree) (H':Hp),LSayAt H' v t→ClT trs ws t 2 3 3 4→Kp H H'→PenAt H' p c (n+9)→Q v H'
theorem len_new_claim (h:sp_new_claim K vs H Q E):vs.length=3:=by
 obtain⟨_,_,_,_,_,_,_,rfl,_⟩:=h
 rfl
theorem take_snocV {α:Type} {l:List α} {i:Nat} {x:α} (h:l[i]?=some x):l.take (i+1)=l.take i++ [x]:=by
 rw[List.take_add_one,h]
 rfl
theorem two_ofV {α:Type} {l:List α} (h:l.length=2):∃a b,l= [a,b]:=by
 match l,h with
 |[a,b],_=>exact⟨a,b,rfl⟩
def N_new_claim:List Str:= ["_law_pen","_law_tracks","_law_words","_law_parts","_law_k","_law_x","_law_others","_law_way","_law_part","_law_word","_law_one","_law_two","_law_rows"]
def t_new_claim (K:Kf) (E:XK):TS:=
 (tSeq (tAsg (tLst tNil) (gName 3))
    (tSeq (yFor (jRng (tC (.int 2))) (gName 4) (tSeq (tAsg (yCall (sp_pick K) E0 (tCons (yVar 0) (tCons (yVar 2) tNil))) (gName 5))
    (tSeq (yPar 6 7 (tCons (yLc (jLst K (yVar 2)) (gName 9) (yTst (tOp zNe (yVar 9) (yVar 5))) (yVar 9) [9]) (tCons (yCall (sp_draw K) E0 (tCons (yVar 0) (tCons (tC (.int 5)) tNil))) tNil)))
    (tSeq (tAsg (tTup (tCons (tC (.str "filled")) (tCons (yVar 5) (tCons (yCall (sp_pick K) E0 (tCons (yVar 0) (tCons (yVar 1) tNil))) tNil)))) (gName 8))
    (yCut (yIf (yAnd (yTst (tOp zGt (yVar 7) (tC (.int 2)))) (yTst (tOp (zNeD K) (yVar 6) (tLst tNil)))) (tAsg (tTup (tCons (tOp (zIxL K) (tLst (tCons (tC (.str "ahead")) (tCons (tC (.str "is")) tNil))) (tOp zSub (yVar 7) (tC (.int 3)))) (tCons (yVar 5) (tCons (yCall (sp_pick K) E0 (tCons (yVar 0) (tCons (yVar 6) tNil))) tNil)))) (gName 8)) tNext)
    (tDrop (tBM K "list" zApp (yVar 3) (tCons (yVar 8) tNil))))))))
    (tSeq (tAsg (yVar 3) (gLst K 2 (gCons (gName 10) (gCons (gName 11) gNil))))
    (tSeq (tAsg (tLst (tCons (yVar 10) (tCons (tTup (tCons (tC (.str "not")) (tCons (yVar 10) tNil))) (tCons (tTup (tCons (tC (.str "and")) (tCons (yVar 10) (tCons (tTup (tCons (tC (.str "not")) (tCons (yVar 11) tNil))) tNil)))) (tCons (tTup (tCons (tC (.str "or")) (tCons (tTup (tCons (tC (.str "not")) (tCons (yVar 10) tNil))) (tCons (yVar 11) tNil)))) (tCons (tTup (tCons (tC (.str "and")) (tCons (yVar 10) (tCons (yVar 11) tNil)))) tNil)))))) (gName 12))
    (tRet (yCall (sp_pick K) E0 (tCons (yVar 0) (tCons (tOp zCatL (yVar 12) (tLst (tCons (tTup (tCons (tC (.str "or")) (tCons (yVar 10) (tCons (yVar 11) tNil)))) tNil))) tNil))))))))
theorem pure_new_claim (h:sp_new_claim K vs H Q E):t_new_claim K E (dEnd Q) (start N_new_claim vs) H:=by
 obtain⟨p,c,tl,wl,n,trs,ws,rfl,P,hn,ht,hw,t0,w0,t3,w10,wx,q⟩:=h
 have tpos:0<(trs.map V.str).length:=by rw[z8];exact List.length_pos_iff.mpr t0
 have tbig:(trs.map V.str).length<1000000000:=by rw[z8];omega
 have wpos:0<(ws.map V.str).length:=by rw[z8];exact List.length_pos_iff.mpr w0
 have wbig:(ws.map V.str).length<1000000000:=by rw[z8];omega
 refine⟨z35 _,fun L nL=> ?_⟩
 have kL:=Kp.new (o:= .lst []) nL
 have PL:=P.new (o:= .lst []) nL
 have gL:(upd H L (.lst [])) L=some (.lst (([]:List Addr).map V.ref)):=upd_same
 generalize upd H L (.lst [])=H1 at kL PL gL⊢
 refine⟨by omega,by omega,fun i σ G=>∃(x4 x5 x6 x7 x8 x9 x10 x11 x12:Option V) (as:List Addr),σ= [some (.ref p),some (.ref tl),some (.ref wl),some (.ref L),x4,x5,x6,x7,x8,x9,x10,x11,x12]∧Kp H G∧PenAt G p c (n+4*i)∧G L=some (.lst (as.map V.ref))∧as.length=i∧∀a∈as,∃t,LeafAt G trs ws a t,
  ⟨_,_,_,_,_,_,_,_,_,[],rfl,kL,PL,gL,rfl,fun a ha=>by cases ha⟩,fun _ _ _ _ _=>trivial,?_,?_⟩
 ·rintro i v σ Gx G hi ⟨x4,x5,x6,x7,x8,x9,x10,x11,x12,as,rfl,kG,PG,gG,la,hA⟩ ⟨rfl,rfl⟩
  have hi:i<2:=hi
  refine⟨p,c,wl,n+4*i,ws.map V.str,rfl,PG,by omega,kG.lst hw,wpos,wbig,fun vx G1 hvx k1 P1=> ?_⟩
  obtain⟨x,hx,rfl⟩:=pick_str hvx
  have kG1:=kG.trans k1
  refine⟨ws.map V.str,SqL.of (kG1.lst hw),fun D nD=>⟨fun j acc G2=>acc=((ws.take j).filter fun w=> !decide (w=x)).map V.str∧Ext G1 G2∧G2 D=some (.lst acc),⟨rfl,Ext.new nD,upd_same⟩,fun j acc G2 hj ⟨d1,d2,d3⟩=>⟨SqL.of (d2 _ _ (kG1.lst hw)),d3,?_⟩,?_,?_⟩⟩
  ·have z:=List.length_filter_le (fun w=> !decide (w=x)) (ws.take j)
   rw[d1,z8,sizeLine_eq]
   rw[z22] at z
   omega
  ·rintro j v acc Gz G2 hj ⟨d1,d2,d3⟩ ⟨rfl,hv⟩
   rw[z10] at hv
   obtain⟨w,hw',rfl⟩:=z30.mp hv
   refine⟨rfl,br (fun hb=> ?_) fun hb=> ?_⟩
   ·refine⟨d3,?_,d2.mut nD,upd_same⟩
    have e:(ws.take (j+1)).filter (fun w=> !decide (w=x))=(ws.take j).filter (fun w=> !decide (w=x))++ [w]:=by
     rw[take_snocV hw',List.filter_append,List.filter_cons_of_pos (p:=fun w=> !decide (w=x)) hb]
     rfl
    rw[e,z16,←d1]
    rfl
   ·refine⟨?_,d2,d3⟩
    have e:(ws.take (j+1)).filter (fun w=> !decide (w=x))=(ws.take j).filter (fun w=> !decide (w=x)):=by
     rw[take_snocV hw',List.filter_append,List.filter_cons_of_neg (p:=fun w=> !decide (w=x)) (by rw[hb];decide)]
     simp
    rw[e,←d1]
  ·rintro acc G2 ⟨d1,d2,d3⟩
   obtain⟨os,hos⟩:∃os,os=(ws.take (ws.map V.str).length).filter (fun w=> !decide (w=x)):=⟨_,rfl⟩
   rw[←hos] at d1
   have osub:∀y∈os,y∈ws:=fun y hy=>by
        rw[hos] at hy
        exact List.mem_of_mem_take (List.mem_filter.mp hy).1
   have olen:os.length≤10:=by
        have z:=List.length_filter_le (fun w=> !decide (w=x)) (ws.take (ws.map V.str).length)
        rw[←hos,z22] at z
        omega
   rw[d1] at d3
   refine⟨p,c,n+4*i+1,5,rfl,P1.ext d2,by omega,by decide,by decide,fun r G3 r0 r1 k3 P3=> ?_⟩
   have k13:=(Kp.of d2).trans k3
   have kG3:=kG1.trans k13
   refine⟨p,c,tl,n+4*i+2,trs.map V.str,rfl,P3,by omega,kG3.lst ht,tpos,tbig,fun vt G4 hvt k4 P4=> ?_⟩
   obtain⟨w,hwt,rfl⟩:=pick_str hvt
   refine⟨(show 3≤sizeLine by decide),fun A nA=> ?_⟩
   have kA:=Kp.new (o:= .tup [.str "filled",.str x,.str w]) nA
   have PA:=P4.new (o:= .tup [.str "filled",.str x,.str w]) nA
   have gA:(upd G4 A (.tup [.str "filled",.str x,.str w])) A=some (.tup [.str "filled",.str x,.str w]):=upd_same
   generalize upd G4 A (.tup [.str "filled",.str x,.str w])=G5 at kA PA gA⊢
   have k15:=(k13.trans k4).trans kA
   have kG5:=kG1.trans k15
   have gL5:=(k1.trans k15).lst gG
   have lap:∀(DD:Ends) (B:Addr) (G':Hp) (x9 x10 x11 x12:Option V),(∀σ G,(fun σ' G=>∃(x4 x5 x6 x7 x8 x9 x10 x11 x12:Option V) (as:List Addr),σ'= [some (.ref p),some (.ref tl),some (.ref wl),some (.ref L),x4,x5,x6,x7,x8,x9,x10,x11,x12]∧Kp H G∧PenAt G p c (n+4*(i+1))∧G L=some (.lst (as.map V.ref))∧as.length=i+1∧∀a∈as,∃t,LeafAt G trs ws a t) σ G→DD.nx σ G)→Kp G5 G'→PenAt G' p c (n+4*i+4)→(∃t,LeafAt G' trs ws B t)→(tDrop (tBM K "list" zApp (yVar 3) (tCons (yVar 8) tNil))) DD [some (.ref p),some (.ref tl),some (.ref wl),some (.ref L),some (.int (0+(i:Nat))),some (.str x),some (.ref D),some (.int r),some (.ref B),x9,x10,x11,x12] G':=by
        intro DD B G' x9 x10 x11 x12 hDD k' P' hB
        have gL':=k'.lst gL5
        have hne:∀{a:Addr} {t:STree},LeafAt G' trs ws a t→a≠L:=fun hh z=>by
         subst z
         rcases hh with⟨_,_,h1,_⟩|⟨_,_,_,_,h1,_⟩<;>rw[gL'] at h1<;>cases h1
        refine⟨tyL gL',_,gL',by rw[z8,la,sizeLine_eq];omega,hDD _ _ ⟨_,_,_,_,_,_,_,_,_,as++ [B],rfl,?_,?_,by rw[upd_same,z16];rfl,by rw[z17,la];rfl,fun a ha=> ?_⟩⟩
        ·exact(kG5.trans k').mut nL
        ·have nP:=(P.ne nL)
         exact(P'.mono (by omega)).mut nP.1 nP.2
        ·rcases z36.mp ha with z|z
         ·obtain⟨t,ht'⟩:=hA a z
          have h2:=ht'.keep fun xs hxs=>(k1.trans (k15.trans k')).tup hxs
          exact⟨t,h2.keep fun xs hxs=>by rw[upd_ne (hne h2)];exact hxs⟩
         ·rw[z32.mp z]
          obtain⟨t,ht'⟩:=hB
          exact⟨t,ht'.keep fun xs hxs=>by rw[upd_ne (hne ht')];exact hxs⟩
   have leafA:LeafAt G5 trs ws A (.fil x w):= .inl ⟨x,w,gA,rfl,hx,hwt⟩
   refine⟨fun σ' G'=>∃B x9 x10 x11 x12,σ'= [some (.ref p),some (.ref tl),some (.ref wl),some (.ref L),some (.int (0+(i:Nat))),some (.str x),some (.ref D),some (.int r),some (.ref B),x9,x10,x11,x12]∧Kp G5 G'∧PenAt G' p c (n+4*i+4)∧∃t,LeafAt G' trs ws B t,?_,?_⟩
   ·have skip:∀G6,Ext G5 G6→(fun σ' G'=>∃B x9 x10 x11 x12,σ'= [some (.ref p),some (.ref tl),some (.ref wl),some (.ref L),some (.int (0+(i:Nat))),some (.str x),some (.ref D),some (.int r),some (.ref B),x9,x10,x11,x12]∧Kp G5 G'∧PenAt G' p c (n+4*i+4)∧∃t,LeafAt G' trs ws B t) [some (.ref p),some (.ref tl),some (.ref wl),some (.ref L),some (.int (0+(i:Nat))),some (.str x),some (.ref D),some (.int r),some (.ref A),x9,x10,x11,x12] G6:=fun G6 e6=>⟨_,_,_,_,_,rfl,Kp.of e6,(PA.mono (by omega)).ext e6,_,leafA.keep fun xs hxs=>e6 _ _ hxs⟩
    refine br (fun hr=> ?_) fun hr=>brF rfl (skip G5 (Ext.refl _))
    have hr:2<r:=of_decide_eq_true hr
    refine⟨z35 _,fun L2 nL2=> ?_⟩
    have e2:=Ext.new (o:= .lst []) nL2
    have g2:(upd G5 L2 (.lst [])) L2=some (.lst (([]:List Str).map V.str)):=upd_same
    generalize upd G5 L2 (.lst [])=G6 at e2 g2⊢
    have gD:=(Kp.of e2).lst (((k3.trans k4).trans kA).lst d3)
    have lay:(os.map V.str).all okV=true:=List.all_eq_true.mpr fun z hz=>by
     obtain⟨y,hy,rfl⟩:=z37.mp hz
     exact xw_okV y (wx y (osub y hy))
    refine⟨_,_,.lst (SqL.of gD) (dpAll_flat flat_strs),.lst (SqL.of g2) (dpAll_flat flat_strs),shaped_flatL lay,rfl,?_⟩
    rw[eqvL]
    refine brN (fun hne=> ?_) fun _=>skip G6 e2
    refine⟨(show 2≤sizeLine by decide),fun L3 nL3=> ?_⟩
    have e3:=Ext.new (o:= .lst [.str "ahead",.str "is"]) nL3
    have g3:(upd G6 L3 (.lst [.str "ahead",.str "is"])) L3=some (.lst ((["ahead","is"]:List Str).map V.str)):=upd_same
    generalize upd G6 L3 (.lst [.str "ahead",.str "is"])=G7 at e3 g3⊢
    obtain⟨kd,hkd,hk2⟩:∃kd:Str,atI ((["ahead","is"]:List Str).map V.str) (r-3)=some (.str kd)∧(kd= "ahead" ∨kd= "is"):=by
     have:r=3∨r=4:=by omega
     rcases this with rfl|rfl
     ·exact⟨"ahead",rfl,.inl rfl⟩
     ·exact⟨"is",rfl,.inr rfl⟩
    refine⟨_,_,.inl (SqL.of g3),hkd,?_⟩
    have e57:=e2.trans e3
    refine⟨p,c,D,n+4*i+3,os.map V.str,rfl,PA.ext e57,by omega,e3 _ _ gD,by rw[z8];exact List.length_pos_iff.mpr hne,by rw[z8];omega,fun vy G8 hvy k8 P8=> ?_⟩
    obtain⟨y,hy,rfl⟩:=pick_str hvy
    refine⟨(show 3≤sizeLine by decide),fun B nB=> ?_⟩
    have kB:=Kp.new (o:= .tup [.str kd,.str x,.str y]) nB
    have PB:=P8.new (o:= .tup [.str kd,.str x,.str y]) nB
    have gB:(upd G8 B (.tup [.str kd,.str x,.str y])) B=some (.tup [.str kd,.str x,.str y]):=upd_same
    exact⟨_,_,_,_,_,rfl,((Kp.of e57).trans k8).trans kB,PB,_,.inr ⟨kd,x,y,hk2,gB,rfl,hx,osub y hy⟩⟩
   ·rintro σ' G' ⟨B,x9,x10,x11,x12,rfl,k',P',hB⟩
    exact lap _ B G' _ _ _ _ (fun _ _ z=>z) k' P' hB
 ·rintro σ G ⟨x4,x5,x6,x7,x8,x9,x10,x11,x12,as,rfl,kG,PG,gG,la,hA⟩
  have la:as.length=2:=la
  have PG:PenAt G p c (n+8):=PG
  obtain⟨a,b,rfl⟩:=two_ofV la
  obtain⟨ta,hta⟩:=hA a (by simp)
  obtain⟨tb,htb⟩:=hA b (by simp)
  have sa:=hta.say
  have sb:=htb.say
  have ca:=hta.cl wx
  have cb:=htb.cl wx
  refine⟨L,_,rfl,SqL.of gG,rfl,_,_,rfl,_,_,rfl,rfl,?_⟩
  refine⟨(show 2≤sizeLine by decide),fun a1 n1=>⟨(show 2≤sizeLine by decide),fun a2 n2=>⟨(show 3≤sizeLine by decide),fun a3 n3=>⟨(show 2≤sizeLine by decide),fun a4 n4=>⟨(show 3≤sizeLine by decide),fun a5 n5=>⟨(show 3≤sizeLine by decide),fun a6 n6=>⟨(show 5≤sizeLine by decide),fun l7 n7=> ?_⟩⟩⟩⟩⟩⟩⟩
  have g1:(upd G a1 (.tup [.str "not",.ref a])) a1=some (.tup [.str "not",.ref a]):=upd_same
  have e1:=Ext.new (o:= .tup [.str "not",.ref a]) n1
  generalize upd G a1 (.tup [.str "not",.ref a])=G1 at*
  have g2:(upd G1 a2 (.tup [.str "not",.ref b])) a2=some (.tup [.str "not",.ref b]):=upd_same
  have e2:=Ext.new (o:= .tup [.str "not",.ref b]) n2
  generalize upd G1 a2 (.tup [.str "not",.ref b])=G2 at*
  have g3:(upd G2 a3 (.tup [.str "and",.ref a,.ref a2])) a3=some (.tup [.str "and",.ref a,.ref a2]):=upd_same
  have e3:=Ext.new (o:= .tup [.str "and",.ref a,.ref a2]) n3
  generalize upd G2 a3 (.tup [.str "and",.ref a,.ref a2])=G3 at*
  have g4:(upd G3 a4 (.tup [.str "not",.ref a])) a4=some (.tup [.str "not",.ref a]):=upd_same
  have e4:=Ext.new (o:= .tup [.str "not",.ref a]) n4
  generalize upd G3 a4 (.tup [.str "not",.ref a])=G4 at*
  have g5:(upd G4 a5 (.tup [.str "or",.ref a4,.ref b])) a5=some (.tup [.str "or",.ref a4,.ref b]):=upd_same
  have e5:=Ext.new (o:= .tup [.str "or",.ref a4,.ref b]) n5
  generalize upd G4 a5 (.tup [.str "or",.ref a4,.ref b])=G5 at*
  have g6:(upd G5 a6 (.tup [.str "and",.ref a,.ref b])) a6=some (.tup [.str "and",.ref a,.ref b]):=upd_same
  have e6:=Ext.new (o:= .tup [.str "and",.ref a,.ref b]) n6
  generalize upd G5 a6 (.tup [.str "and",.ref a,.ref b])=G6 at*
  have g7:(upd G6 l7 (.lst [.ref a,.ref a1,.ref a3,.ref a5,.ref a6])) l7=some (.lst [.ref a,.ref a1,.ref a3,.ref a5,.ref a6]):=upd_same
  have e7:=Ext.new (o:= .lst [.ref a,.ref a1,.ref a3,.ref a5,.ref a6]) n7
  generalize upd G6 l7 (.lst [.ref a,.ref a1,.ref a3,.ref a5,.ref a6])=G7 at*
  refine⟨(show 3≤sizeLine by decide),fun a8 n8=>⟨(show 1≤sizeLine by decide),fun l9 n9=> ?_⟩⟩
  have g8:(upd G7 a8 (.tup [.str "or",.ref a,.ref b])) a8=some (.tup [.str "or",.ref a,.ref b]):=upd_same
  have e8:=Ext.new (o:= .tup [.str "or",.ref a,.ref b]) n8
  generalize upd G7 a8 (.tup [.str "or",.ref a,.ref b])=G8 at*
  have g9:(upd G8 l9 (.lst [.ref a8])) l9=some (.lst [.ref a8]):=upd_same
  have e9:=Ext.new (o:= .lst [.ref a8]) n9
  generalize upd G8 l9 (.lst [.ref a8])=G9 at*
  refine⟨_,_,e9 _ _ (e8 _ _ g7),g9,(show 6≤sizeLine by decide),fun lz nz=> ?_⟩
  have gz:(upd G9 lz (.lst ([.ref a,.ref a1,.ref a3,.ref a5,.ref a6]++ [.ref a8]))) lz=some (.lst [.ref a,.ref a1,.ref a3,.ref a5,.ref a6,.ref a8]):=upd_same
  have ez:=Ext.new (o:= .lst ([.ref a,.ref a1,.ref a3,.ref a5,.ref a6]++ [.ref a8])) nz
  generalize upd G9 lz (.lst ([.ref a,.ref a1,.ref a3,.ref a5,.ref a6]++ [.ref a8]))=GZ at*
  have x8:Ext G8 GZ:=e9.trans ez
  have x7:Ext G7 GZ:=e8.trans x8
  have x6:Ext G6 GZ:=e7.trans x7
  have x5:Ext G5 GZ:=e6.trans x6
  have x4:Ext G4 GZ:=e5.trans x5
  have x3:Ext G3 GZ:=e4.trans x4
  have x2:Ext G2 GZ:=e3.trans x3
  have x1:Ext G1 GZ:=e2.trans x2
  have x0:Ext G GZ:=e1.trans x1
  have saz:=sa.ext x0
  have sbz:=sb.ext x0
  refine⟨p,c,lz,n+8,_,rfl,PG.ext x0,by omega,gz,(show 0<6 by decide),(show 6<1000000000 by decide),fun v GY hv kY PY=> ?_⟩
  have kAll:=(kG.trans (Kp.of x0)).trans kY
  have key:∃t,LSayAt GZ v t∧ClT trs ws t 2 3 3 4:=by
   simp only[List.mem_cons,z13,or_false] at hv
   rcases hv with rfl|rfl|rfl|rfl|rfl|rfl
   ·exact⟨ta,saz,ca.le (by decide) (by decide) (by decide) (by decide)⟩
   ·exact⟨.neg ta,.neg (x1 _ _ g1) saz,ca.neg.le (by decide) (by decide) (by decide) (by decide)⟩
   ·exact⟨.bin "and" ta (.neg tb),.bin (x3 _ _ g3) saz (.neg (x2 _ _ g2) sbz),(ca.bin (.inl rfl) cb.neg).le (by decide) (by decide) (by decide) (by decide)⟩
   ·exact⟨.bin "or" (.neg ta) tb,.bin (x5 _ _ g5) (.neg (x4 _ _ g4) saz) sbz,(ca.neg.bin (.inr rfl) cb).le (by decide) (by decide) (by decide) (by decide)⟩
   ·exact⟨.bin "and" ta tb,.bin (x6 _ _ g6) saz sbz,(ca.bin (.inl rfl) cb).le (by decide) (by decide) (by decide) (by decide)⟩
   ·exact⟨.bin "or" ta tb,.bin (x8 _ _ g8) saz sbz,(ca.bin (.inr rfl) cb).le (by decide) (by decide) (by decide) (by decide)⟩
  obtain⟨t,h1,h2⟩:=key
  exact q v t GY (h1.kp kY) h2 kAll PY
end
def LF (b:Nat):Nat:=if b=3 then 5 else 2
theorem own_take {b:Nat} (h1:1≤b) (h3:b≤3):OWN3.take b=O1∨OWN3.take b=O2∨OWN3.take b=O3:=by
 have:b=1∨b=2∨b=3:=by omega
 rcases this with rfl|rfl|rfl
 ·exact .inl rfl
 ·exact .inr (.inl rfl)
 ·exact .inr (.inr rfl)
theorem own_len {b:Nat} (h3:b≤3):(OWN3.take b).length=b:=by
 rw[z22]
 show min b 3=b
 omega
section
variable {K:Kf} {vs:List V} {H:Hp} {Q:VK} {E:XK} {N:Nat}
def sp_new_block (_:Kf):Sp:=fun vs H Q _=>∃(p c tl wl:Addr) (n b:Nat) (trs ws:List Str),vs= [.ref p,.ref tl,.int (b:Nat),.ref wl]∧PenAt H p c n∧n+200<1152921504606846976∧H tl=some (.lst (trs.map V.str))∧H wl=some (.lst (ws.map V.str))∧trs≠ []∧trs.length≤3∧ws.length≤1∧(∀x∈ws,x= "here")∧1≤b∧b≤3∧
 ∀(v:V) (t:STree) (H':Hp),LSayAt H' v t→SyT trs t (LF b) 10 5 7 1 b→Kp H H'→PenAt H' p c (n+20)→Q v H'
theorem len_new_block (h:sp_new_block K vs H Q E):vs.length=4:=by
 obtain⟨_,_,_,_,_,_,_,_,rfl,_⟩:=h
 rfl
def N_new_block:List Str:= ["_law_pen","_law_tracks","_law_bound","_law_words","_law_own","_law_track","_law_order","_law_ends"]
def t_new_block (K:Kf) (E:XK):TS:=
 (tSeq (yPar 4 5 (tCons (tSl (zSlL K) (tLst (tCons (tC (.str "x")) (tCons (tC (.str "y")) (tCons (tC (.str "z")) tNil)))) tNoPart (tPart (yVar 2))) (tCons (yCall (sp_pick K) E0 (tCons (yVar 0) (tCons (yVar 1) tNil))) tNil)))
    (tSeq (yIf (yAnd (yTst (tOp zEq (yVar 2) (tC (.int 3)))) (yTst (tOp zEq (yCall (sp_draw K) E0 (tCons (yVar 0) (tCons (tC (.int 2)) tNil))) (tC (.int 0))))) (tSeq (tAsg (tTup (tCons (tC (.str "and")) (tCons (tTup (tCons (tC (.str "ahead")) (tCons (tC (.str "x")) (tCons (tC (.str "y")) tNil)))) (tCons (tTup (tCons (tC (.str "ahead")) (tCons (tC (.str "y")) (tCons (tC (.str "z")) tNil)))) tNil)))) (gName 6))
    (tSeq (tAsg (tTup (tCons (tC (.str "and")) (tCons (tTup (tCons (tC (.str "filled")) (tCons (tC (.str "x")) (tCons (yVar 5) tNil)))) (tCons (tTup (tCons (tC (.str "filled")) (tCons (tC (.str "z")) (tCons (yVar 5) tNil)))) tNil)))) (gName 7))
    (tRet (tTup (tCons (tC (.str "all")) (tCons (yVar 4) (tCons (tTup (tCons (tC (.str "or")) (tCons (tTup (tCons (tC (.str "not")) (tCons (tTup (tCons (tC (.str "and")) (tCons (yVar 6) (tCons (yVar 7) tNil)))) tNil))) (tCons (tTup (tCons (tC (.str "filled")) (tCons (tC (.str "y")) (tCons (yVar 5) tNil)))) tNil)))) tNil))))))) tNext)
    (tRet (tTup (tCons (yCall (sp_pick K) E0 (tCons (yVar 0) (tCons (tLst (tCons (tC (.str "all")) (tCons (tC (.str "some")) tNil))) tNil))) (tCons (yVar 4) (tCons (yCall (sp_new_claim K) E0 (tCons (yVar 0) (tCons (yVar 1) (tCons (tOp zCatL (tOp zCatL (yVar 4) (yVar 4)) (yVar 3)) tNil)))) tNil)))))))
theorem pure_new_block (h:sp_new_block K vs H Q E):t_new_block K E (dEnd Q) (start N_new_block vs) H:=by
 obtain⟨p,c,tl,wl,n,b,trs,ws,rfl,P,hn,ht,hw,t0,t3,w1,wh,b1,b3,q⟩:=h
 have tpos:0<(trs.map V.str).length:=by rw[z8];exact List.length_pos_iff.mpr t0
 have tbig:(trs.map V.str).length<1000000000:=by rw[z8];omega
 have ob:=own_len b3
 refine⟨(show 3≤sizeLine by decide),fun L0 n0=> ?_⟩
 have k0:=Ext.new (o:= .lst [.str "x",.str "y",.str "z"]) n0
 have g0:(upd H L0 (.lst [.str "x",.str "y",.str "z"])) L0=some (.lst (OWN3.map V.str)):=upd_same
 generalize upd H L0 (.lst [.str "x",.str "y",.str "z"])=H1 at k0 g0⊢
 refine⟨_,rfl,_,SqL.of g0,fun O nO=> ?_⟩
 rw[cutV_to (xs:=OWN3.map V.str) (by rw[z8];exact b3),←List.map_take]
 have kO:=Ext.new (o:= .lst ((OWN3.take b).map V.str)) nO
 have gO:(upd H1 O (.lst ((OWN3.take b).map V.str))) O=some (.lst ((OWN3.take b).map V.str)):=upd_same
 generalize upd H1 O (.lst ((OWN3.take b).map V.str))=H2 at kO gO⊢
 have e2:=k0.trans kO
 refine⟨p,c,tl,n,trs.map V.str,rfl,P.ext e2,by omega,e2 _ _ ht,tpos,tbig,fun vt G hvt k3 P3=> ?_⟩
 obtain⟨tr,htr,rfl⟩:=pick_str hvt
 have kG:=(Kp.of e2).trans k3
 have gO3:=k3.lst gO
 have claim:∀(G1:Hp) (x6 x7:Option V),Kp G G1→PenAt G1 p c (n+2)→tRet (tTup (tCons (yCall (sp_pick K) E0 (tCons (yVar 0) (tCons (tLst (tCons (tC (.str "all")) (tCons (tC (.str "some")) tNil))) tNil))) (tCons (yVar 4) (tCons (yCall (sp_new_claim K) E0 (tCons (yVar 0) (tCons (yVar 1) (tCons (tOp zCatL (tOp zCatL (yVar 4) (yVar 4)) (yVar 3)) tNil)))) tNil)))) (dEnd Q) [some (.ref p),some (.ref tl),some (.int (b:Nat)),some (.ref wl),some (.ref O),some (.str tr),x6,x7] G1:=by
  intro G1 x6 x7 k1 P1
  refine⟨(show 2≤sizeLine by decide),fun l nl=> ?_⟩
  have el:=Ext.new (o:= .lst [.str "all",.str "some"]) nl
  have gl:(upd G1 l (.lst [.str "all",.str "some"])) l=some (.lst ((["all","some"]:List Str).map V.str)):=upd_same
  generalize upd G1 l (.lst [.str "all",.str "some"])=G2 at el gl⊢
  refine⟨p,c,l,n+2,_,rfl,P1.ext el,by omega,gl,by decide,by decide,fun vk G3 hvk k3 P3=> ?_⟩
  obtain⟨k,hk,rfl⟩:=pick_str hvk
  have hk2:k= "all" ∨k= "some":=by
   simpa using hk
  have k13:=(k1.trans (Kp.of el)).trans k3
  have gO4:=k13.lst gO3
  have gw4:=(kG.trans k13).lst hw
  refine⟨_,_,gO4,gO4,by rw[z8,ob,sizeLine_eq];omega,fun l1 n1=> ?_⟩
  have e1:=Ext.new (o:= .lst ((OWN3.take b).map V.str++(OWN3.take b).map V.str)) n1
  have g1:(upd G3 l1 (.lst ((OWN3.take b).map V.str++(OWN3.take b).map V.str))) l1=some (.lst ((OWN3.take b++OWN3.take b).map V.str)):=by rw[upd_same,z16]
  generalize upd G3 l1 (.lst ((OWN3.take b).map V.str++(OWN3.take b).map V.str))=G4 at e1 g1⊢
  refine⟨_,_,g1,e1 _ _ gw4,by rw[z8,z8,z17,ob,sizeLine_eq];omega,fun l2 n2=> ?_⟩
  have e2':=Ext.new (o:= .lst ((OWN3.take b++OWN3.take b).map V.str++ws.map V.str)) n2
  have g2:(upd G4 l2 (.lst ((OWN3.take b++OWN3.take b).map V.str++ws.map V.str))) l2=some (.lst ((OWN3.take b++OWN3.take b++ws).map V.str)):=by rw[upd_same,z16 (l₁:=OWN3.take b++OWN3.take b)]
  generalize upd G4 l2 (.lst ((OWN3.take b++OWN3.take b).map V.str++ws.map V.str))=G5 at e2' g2⊢
  have x35:=e1.trans e2'
  have k15:=k13.trans (Kp.of x35)
  have mem:∀x∈OWN3.take b++OWN3.take b++ws,x∈(("here":Str)::OWN3.take b):=fun x hx=>by
   rcases z36.mp hx with z|z
   ·exact z23 _ ((z36.mp z).elim id id)
   ·rw[wh x z];exact z31 ..
  have w0:OWN3.take b++OWN3.take b++ws≠ []:=fun z=>by
   have:=congrArg List.length z
   rw[z17,z17,ob,List.length_nil] at this
   omega
  refine⟨p,c,tl,l2,n+3,trs,_,rfl,P3.ext x35,by omega,(kG.trans k15).lst ht,g2,t0,w0,t3,by rw[z17,z17,ob];omega,fun x hx=> ?_,fun v t G6 hs hc k6 P6=>⟨(show 3≤sizeLine by decide),fun T nT=> ?_⟩⟩
  ·rcases List.mem_cons.mp (mem x hx) with z|z
   ·rw[z];exact z31 ..
   ·exact z23 _ (List.mem_of_mem_take z)
  ·have eT:=Ext.new (o:= .tup [.str k,.ref O,v]) nT
   have PT:=P6.new (o:= .tup [.str k,.ref O,v]) nT
   have kF:=k15.trans k6
   refine q _ (.blk k (OWN3.take b) t) _ (.blk upd_same (eT _ _ (kF.lst gO3)) (hs.ext eT)) ?_ ((kG.trans kF).trans (Kp.of eT)) (PT.mono (by omega))
   have z:=hc.blk hk2 (own_take b1 b3) mem
   rw[ob] at z
   exact z.le (by unfold LF;split<;>omega) (by omega) (by omega) (by omega) (z34 _)
 refine brD (fun hb=> ?_) fun hb=>brF rfl (claim G _ _ (Kp.refl _) (P3.mono (by omega)))
 have hb:b=3:=by omega
 subst hb
 refine⟨p,c,n+1,2,rfl,P3,by omega,by decide,by decide,fun r G1 r0 r1 k1 P1=> ?_⟩
 refine brD (fun _=> ?_) fun _=>claim G1 _ _ k1 P1
 refine⟨(show 3≤sizeLine by decide),fun a1 n1=>⟨(show 3≤sizeLine by decide),fun a2 n2=>⟨(show 3≤sizeLine by decide),fun a3 n3=>⟨(show 3≤sizeLine by decide),fun a4 n4=>⟨(show 3≤sizeLine by decide),fun a5 n5=>⟨(show 3≤sizeLine by decide),fun a6 n6=> ?_⟩⟩⟩⟩⟩⟩
 have g1:(upd G1 a1 (.tup [.str "ahead",.str "x",.str "y"])) a1=some (.tup [.str "ahead",.str "x",.str "y"]):=upd_same
 have e1:=Ext.new (o:= .tup [.str "ahead",.str "x",.str "y"]) n1
 generalize upd G1 a1 (.tup [.str "ahead",.str "x",.str "y"])=J1 at*
 have g2:(upd J1 a2 (.tup [.str "ahead",.str "y",.str "z"])) a2=some (.tup [.str "ahead",.str "y",.str "z"]):=upd_same
 have e2':=Ext.new (o:= .tup [.str "ahead",.str "y",.str "z"]) n2
 generalize upd J1 a2 (.tup [.str "ahead",.str "y",.str "z"])=J2 at*
 have g3:(upd J2 a3 (.tup [.str "and",.ref a1,.ref a2])) a3=some (.tup [.str "and",.ref a1,.ref a2]):=upd_same
 have e3:=Ext.new (o:= .tup [.str "and",.ref a1,.ref a2]) n3
 generalize upd J2 a3 (.tup [.str "and",.ref a1,.ref a2])=J3 at*
 have g4:(upd J3 a4 (.tup [.str "filled",.str "x",.str tr])) a4=some (.tup [.str "filled",.str "x",.str tr]):=upd_same
 have e4:=Ext.new (o:= .tup [.str "filled",.str "x",.str tr]) n4
 generalize upd J3 a4 (.tup [.str "filled",.str "x",.str tr])=J4 at*
 have g5:(upd J4 a5 (.tup [.str "filled",.str "z",.str tr])) a5=some (.tup [.str "filled",.str "z",.str tr]):=upd_same
 have e5:=Ext.new (o:= .tup [.str "filled",.str "z",.str tr]) n5
 generalize upd J4 a5 (.tup [.str "filled",.str "z",.str tr])=J5 at*
 have g6:(upd J5 a6 (.tup [.str "and",.ref a4,.ref a5])) a6=some (.tup [.str "and",.ref a4,.ref a5]):=upd_same
 have e6:=Ext.new (o:= .tup [.str "and",.ref a4,.ref a5]) n6
 generalize upd J5 a6 (.tup [.str "and",.ref a4,.ref a5])=J6 at*
 refine⟨(show 3≤sizeLine by decide),fun b1 m1=>⟨(show 2≤sizeLine by decide),fun b2 m2=>⟨(show 3≤sizeLine by decide),fun b3 m3=>⟨(show 3≤sizeLine by decide),fun b4 m4=>⟨(show 3≤sizeLine by decide),fun b5 m5=> ?_⟩⟩⟩⟩⟩
 have h1:(upd J6 b1 (.tup [.str "and",.ref a3,.ref a6])) b1=some (.tup [.str "and",.ref a3,.ref a6]):=upd_same
 have f1:=Ext.new (o:= .tup [.str "and",.ref a3,.ref a6]) m1
 generalize upd J6 b1 (.tup [.str "and",.ref a3,.ref a6])=I1 at*
 have h2:(upd I1 b2 (.tup [.str "not",.ref b1])) b2=some (.tup [.str "not",.ref b1]):=upd_same
 have f2:=Ext.new (o:= .tup [.str "not",.ref b1]) m2
 generalize upd I1 b2 (.tup [.str "not",.ref b1])=I2 at*
 have h3:(upd I2 b3 (.tup [.str "filled",.str "y",.str tr])) b3=some (.tup [.str "filled",.str "y",.str tr]):=upd_same
 have f3:=Ext.new (o:= .tup [.str "filled",.str "y",.str tr]) m3
 generalize upd I2 b3 (.tup [.str "filled",.str "y",.str tr])=I3 at*
 have h4:(upd I3 b4 (.tup [.str "or",.ref b2,.ref b3])) b4=some (.tup [.str "or",.ref b2,.ref b3]):=upd_same
 have f4:=Ext.new (o:= .tup [.str "or",.ref b2,.ref b3]) m4
 generalize upd I3 b4 (.tup [.str "or",.ref b2,.ref b3])=I4 at*
 have h5:(upd I4 b5 (.tup [.str "all",.ref O,.ref b4])) b5=some (.tup [.str "all",.ref O,.ref b4]):=upd_same
 have f5:=Ext.new (o:= .tup [.str "all",.ref O,.ref b4]) m5
 generalize upd I4 b5 (.tup [.str "all",.ref O,.ref b4])=I5 at*
 have y3:Ext I3 I5:=f4.trans f5
 have y2:Ext I2 I5:=f3.trans y3
 have y1:Ext I1 I5:=f2.trans y2
 have x6:Ext J6 I5:=f1.trans y1
 have x5:Ext J5 I5:=e6.trans x6
 have x4:Ext J4 I5:=e5.trans x5
 have x3:Ext J3 I5:=e4.trans x4
 have x2:Ext J2 I5:=e3.trans x3
 have x1:Ext J1 I5:=e2'.trans x2
 have x0:Ext G1 I5:=e1.trans x1
 have kF:=k1.trans (Kp.of x0)
 refine q _ (.blk "all" OWN3 (.bin "or" (.neg (.bin "and" (.bin "and" (.cmp "ahead" "x" "y") (.cmp "ahead" "y" "z")) (.bin "and" (.fil "x" tr) (.fil "z" tr)))) (.fil "y" tr))) I5
  (.blk h5 (kF.lst gO3) (.bin (f5 _ _ h4) (.neg (y2 _ _ h2) (.bin (y1 _ _ h1) (.bin (x3 _ _ g3) (.cmp (x1 _ _ g1)) (.cmp (x2 _ _ g2))) (.bin (x6 _ _ g6) (.fil (x4 _ _ g4)) (.fil (x5 _ _ g5))))) (.fil (y3 _ _ h3))))
  ?_ (kG.trans kF) ((P1.ext x0).mono (by omega))
 refine⟨⟨rfl,by decide+kernel,.inr (.inr rfl),⟨.inr rfl,⟨.inl rfl,⟨.inl rfl,⟨.inl rfl,?_⟩,.inl rfl,?_⟩,.inl rfl,⟨?_,?_,htr⟩,?_,?_,htr⟩,?_,?_,htr⟩⟩,Nat.le_of_ble_eq_true rfl,Nat.le_of_ble_eq_true rfl,Nat.le_of_ble_eq_true rfl,Nat.le_of_ble_eq_true rfl,Nat.le_of_ble_eq_true rfl,rfl⟩<;>decide+kernel
theorem len_new_saying (h:sp_new_saying N K vs H Q E):vs.length=5:=by
 obtain⟨_,_,_,_,_,_,_,_,_,rfl,_⟩:=h
 rfl
theorem nil_new_saying (h:sp_new_saying 0 K vs H Q E):False:=by
 obtain⟨_,_,_,_,_,_,_,_,_,_,_,_,_,_,_,_,_,_,_,_,_,h1,h2,_⟩:=h
 omega
def N_new_saying:List Str:= ["_law_pen","_law_tracks","_law_bound","_law_words","_law_blocks","_law_first","_law_block","_law_rest"]
def t_new_saying (N:Nat) (K:Kf) (E:XK):TS:=
 (tSeq (yIf (yTst (tOp zEq (yVar 2) (tC (.int 0)))) (tRet (yCall (sp_new_claim K) E0 (tCons (yVar 0) (tCons (yVar 1) (tCons (yVar 3) tNil))))) tNext)
    (tSeq (tAsg (yIfE (yOr (yTst (tOp zEq (yVar 4) (tC (.int 1)))) (yTst (tOp zEq (yVar 2) (tC (.int 1))))) (yVar 2) (tOp zAdd (tC (.int 1)) (yCall (sp_draw K) E0 (tCons (yVar 0) (tCons (tCB zMin (tCons (tCB zInt (tCons (yVar 2) tNil)) (tCons (tC (.int 3)) tNil))) tNil))))) (gName 5))
    (tSeq (tAsg (yCall (sp_new_block K) E0 (tCons (yVar 0) (tCons (yVar 1) (tCons (yVar 5) (tCons (yVar 3) tNil))))) (gName 6))
    (tSeq (yIf (yTst (tOp zEq (yVar 5) (yVar 2))) (tSeq (yIf (yAnd (yTst (tOp (zNeD K) (yVar 3) (tLst tNil))) (yTst (tOp zEq (yCall (sp_draw K) E0 (tCons (yVar 0) (tCons (tC (.int 3)) tNil))) (tC (.int 0))))) (tRet (tTup (tCons (yCall (sp_pick K) E0 (tCons (yVar 0) (tCons (tLst (tCons (tC (.str "and")) (tCons (tC (.str "or")) tNil))) tNil))) (tCons (yVar 6) (tCons (tTup (tCons (tC (.str "filled")) (tCons (tC (.str "here")) (tCons (yCall (sp_pick K) E0 (tCons (yVar 0) (tCons (yVar 1) tNil))) tNil)))) tNil))))) tNext)
    (tRet (yCall (sp_pick K) E0 (tCons (yVar 0) (tCons (tLst (tCons (yVar 6) (tCons (yVar 6) (tCons (tTup (tCons (tC (.str "not")) (tCons (yVar 6) tNil))) tNil)))) tNil))))) tNext)
    (tSeq (tAsg (yCall (sp_new_saying N K) E0 (tCons (yVar 0) (tCons (yVar 1) (tCons (tOp zSub (yVar 2) (yVar 5)) (tCons (yVar 3) (tCons (tOp zSub (yVar 4) (tC (.int 1))) tNil)))))) (gName 7))
    (tRet (tTup (tCons (yCall (sp_pick K) E0 (tCons (yVar 0) (tCons (tLst (tCons (tC (.str "and")) (tCons (tC (.str "or")) tNil))) tNil))) (tCons (yVar 6) (tCons (yVar 7) tNil))))))))))
theorem pure_new_saying (h:sp_new_saying (N+1) K vs H Q E):t_new_saying N K E (dEnd Q) (start N_new_saying vs) H:=by
 obtain⟨p,c,tl,wl,n,b,k,trs,ws,rfl,P,hn,ht,hw,t0,t3,w1,wh,wb,bk,k3,k1,kN,q⟩:=h
 have tpos:0<(trs.map V.str).length:=by rw[z8];exact List.length_pos_iff.mpr t0
 have tbig:(trs.map V.str).length<1000000000:=by rw[z8];omega
 have laid:(ws.map V.str).all okV=true:=List.all_eq_true.mpr fun z hz=>by
  obtain⟨y,hy,rfl⟩:=z37.mp hz
  rw[wh y hy]
  decide+kernel
 refine brD (fun hb=> ?_) fun hb=> ?_
 ·have hb:b=0:=by omega
  subst hb
  refine⟨p,c,tl,wl,n,trs,ws,rfl,P,by omega,ht,hw,t0,wb rfl,t3,by omega,fun x hx=>by rw[wh x hx];exact z31 ..,fun v t G hs hc kG PG=> ?_⟩
  refine q v t G hs ⟨hc.rd none fun x hx=>by rw[wh x hx];exact z31 ..,?_,?_,?_,?_,by rw[hc.bl];exact z35 _,hc.bn⟩ kG (PG.mono (by omega))
  ·have:=hc.parts;show t.parts≤0+k+1;omega
  ·have:=hc.dep;omega
  ·have:=hc.op;omega
  ·have:=hc.fu;omega
 have hb1:1≤b:=by omega
 have main:∀(f:Nat) (G:Hp),1≤f→f≤3→f≤b→(k=1→f=b)→(b=1→f=b)→Kp H G→PenAt G p c (n+1)→
  (tSeq (tAsg (yCall (sp_new_block K) E0 (tCons (yVar 0) (tCons (yVar 1) (tCons (yVar 5) (tCons (yVar 3) tNil))))) (gName 6))
  (tSeq (yIf (yTst (tOp zEq (yVar 5) (yVar 2))) (tSeq (yIf (yAnd (yTst (tOp (zNeD K) (yVar 3) (tLst tNil))) (yTst (tOp zEq (yCall (sp_draw K) E0 (tCons (yVar 0) (tCons (tC (.int 3)) tNil))) (tC (.int 0))))) (tRet (tTup (tCons (yCall (sp_pick K) E0 (tCons (yVar 0) (tCons (tLst (tCons (tC (.str "and")) (tCons (tC (.str "or")) tNil))) tNil))) (tCons (yVar 6) (tCons (tTup (tCons (tC (.str "filled")) (tCons (tC (.str "here")) (tCons (yCall (sp_pick K) E0 (tCons (yVar 0) (tCons (yVar 1) tNil))) tNil)))) tNil))))) tNext)
  (tRet (yCall (sp_pick K) E0 (tCons (yVar 0) (tCons (tLst (tCons (yVar 6) (tCons (yVar 6) (tCons (tTup (tCons (tC (.str "not")) (tCons (yVar 6) tNil))) tNil)))) tNil))))) tNext)
  (tSeq (tAsg (yCall (sp_new_saying N K) E0 (tCons (yVar 0) (tCons (yVar 1) (tCons (tOp zSub (yVar 2) (yVar 5)) (tCons (yVar 3) (tCons (tOp zSub (yVar 4) (tC (.int 1))) tNil)))))) (gName 7))
  (tRet (tTup (tCons (yCall (sp_pick K) E0 (tCons (yVar 0) (tCons (tLst (tCons (tC (.str "and")) (tCons (tC (.str "or")) tNil))) tNil))) (tCons (yVar 6) (tCons (yVar 7) tNil)))))))) (dEnd Q) [some (.ref p),some (.ref tl),some (.int (b:Nat)),some (.ref wl),some (.int (k:Nat)),some (.int (f:Nat)),none,none] G:=by
  intro f G f1 f3 fb fk fb1 kG PG
  refine⟨p,c,tl,wl,n+1,f,trs,ws,rfl,PG,by omega,kG.lst ht,kG.lst hw,t0,t3,w1,wh,f1,f3,fun vb tb G1 hs1 sy1 k2 P1=> ?_⟩
  obtain⟨bp,rfl⟩:=hs1.isref
  have kG1:=kG.trans k2
  refine brD (fun he=> ?_) fun hne=> ?_
  ·have he:f=b:=by omega
   subst he
   have hp:LF f+1≤PP f k:=by
        unfold LF PP
        split<;>split<;>omega
   have three:∀G2,Kp G1 G2→PenAt G2 p c (n+22)→(tRet (yCall (sp_pick K) E0 (tCons (yVar 0) (tCons (tLst (tCons (yVar 6) (tCons (yVar 6) (tCons (tTup (tCons (tC (.str "not")) (tCons (yVar 6) tNil))) tNil)))) tNil)))) (dEnd Q) [some (.ref p),some (.ref tl),some (.int (f:Nat)),some (.ref wl),some (.int (k:Nat)),some (.int (f:Nat)),some (.ref bp),none] G2:=by
        intro G2 k4 P2
        refine⟨(show 2≤sizeLine by decide),fun a1 n1=>⟨(show 3≤sizeLine by decide),fun l2 n2=> ?_⟩⟩
        have g1:(upd G2 a1 (.tup [.str "not",.ref bp])) a1=some (.tup [.str "not",.ref bp]):=upd_same
        have e1:=Ext.new (o:= .tup [.str "not",.ref bp]) n1
        generalize upd G2 a1 (.tup [.str "not",.ref bp])=G3 at*
        have g2:(upd G3 l2 (.lst [.ref bp,.ref bp,.ref a1])) l2=some (.lst [.ref bp,.ref bp,.ref a1]):=upd_same
        have e2:=Ext.new (o:= .lst [.ref bp,.ref bp,.ref a1]) n2
        generalize upd G3 l2 (.lst [.ref bp,.ref bp,.ref a1])=G4 at*
        have e12:=e1.trans e2
        refine⟨p,c,l2,n+22,_,rfl,P2.ext e12,by omega,g2,(show 0<3 by decide),(show 3<1000000000 by decide),fun v G5 hv k5 P5=> ?_⟩
        have s4:=(hs1.kp k4).ext e12
        have kF:=((kG1.trans k4).trans (Kp.of e12)).trans k5
        have key:∃t,LSayAt G4 v t∧SyT trs t (PP f k) (10+k) (6+k) (8+k) k f:=by
         simp only[List.mem_cons,z13,or_false] at hv
         rcases hv with rfl|rfl|rfl
         ·exact⟨tb,s4,sy1.le (by omega) (by omega) (by omega) (by omega) k1⟩
         ·exact⟨tb,s4,sy1.le (by omega) (by omega) (by omega) (by omega) k1⟩
         ·exact⟨.neg tb,.neg (e2 _ _ g1) s4,sy1.neg.le (by omega) (by omega) (by omega) (by omega) k1⟩
        obtain⟨t,h1,h2⟩:=key
        exact q v t G5 (h1.kp k5) h2 kF (P5.mono (by omega))
   refine⟨z35 _,fun L nL=> ?_⟩
   have eL:=Ext.new (o:= .lst []) nL
   have gL:(upd G1 L (.lst [])) L=some (.lst (([]:List Str).map V.str)):=upd_same
   generalize upd G1 L (.lst [])=G2 at eL gL⊢
   refine⟨_,_,.lst (SqL.of (eL _ _ (kG1.lst hw))) (dpAll_flat flat_strs),.lst (SqL.of gL) (dpAll_flat flat_strs),shaped_flatL laid,rfl,?_⟩
   rw[eqvL]
   refine brN (fun hne=> ?_) fun _=>brF rfl (three G2 (Kp.of eL) ((P1.ext eL).mono (by omega)))
   refine⟨p,c,n+1+20,3,rfl,P1.ext eL,by omega,by decide,by decide,fun r G3 r0 r1 k4 P3=> ?_⟩
   have k14:=(Kp.of eL).trans k4
   refine brD (fun _=> ?_) fun _=>three G3 k14 (P3.mono (by omega))
   refine⟨(show 2≤sizeLine by decide),fun l nl=> ?_⟩
   have el:=Ext.new (o:= .lst [.str "and",.str "or"]) nl
   have gl:(upd G3 l (.lst [.str "and",.str "or"])) l=some (.lst ((["and","or"]:List Str).map V.str)):=upd_same
   generalize upd G3 l (.lst [.str "and",.str "or"])=G4 at el gl⊢
   refine⟨p,c,l,n+22,_,rfl,(P3.mono (by omega)).ext el,by omega,gl,by decide,by decide,fun vk G5 hvk k5 P5=> ?_⟩
   obtain⟨kw,hk,rfl⟩:=pick_str hvk
   have hk2:kw= "and" ∨kw= "or":=by simpa using hk
   have k15:=(k14.trans (Kp.of el)).trans k5
   refine⟨p,c,tl,n+23,trs.map V.str,rfl,P5,by omega,(kG1.trans k15).lst ht,tpos,tbig,fun vt G6 hvt k6 P6=> ?_⟩
   obtain⟨tr,htr,rfl⟩:=pick_str hvt
   refine⟨(show 3≤sizeLine by decide),fun a1 n1=>⟨(show 3≤sizeLine by decide),fun a2 n2=> ?_⟩⟩
   have g1:(upd G6 a1 (.tup [.str "filled",.str "here",.str tr])) a1=some (.tup [.str "filled",.str "here",.str tr]):=upd_same
   have e1:=Ext.new (o:= .tup [.str "filled",.str "here",.str tr]) n1
   generalize upd G6 a1 (.tup [.str "filled",.str "here",.str tr])=G7 at*
   have g2:(upd G7 a2 (.tup [.str kw,.ref bp,.ref a1])) a2=some (.tup [.str kw,.ref bp,.ref a1]):=upd_same
   have e2:=Ext.new (o:= .tup [.str kw,.ref bp,.ref a1]) n2
   generalize upd G7 a2 (.tup [.str kw,.ref bp,.ref a1])=G8 at*
   have k16:=k15.trans k6
   have e12:=e1.trans e2
   have syh:SyT trs (.fil "here" tr) 1 1 0 1 0 0:=⟨⟨by decide+kernel,z31 ..,htr⟩,z34 _,z34 _,z34 _,z34 _,z34 _,rfl⟩
   exact q _ (.bin kw tb (.fil "here" tr)) G8 (.bin g2 ((hs1.kp k16).ext e12) (.fil (e2 _ _ g1))) ((sy1.bin hk2 syh).le hp (by omega) (by omega) (by omega) k1) ((kG1.trans k16).trans (Kp.of e12)) ((P6.ext e12).mono (by omega))
  ·have hlt:f<b:=by omega
   have hk1:2≤k:=by
        rcases Nat.lt_or_ge k 2 with z|z
        ·exact absurd (fk (by omega)) (by omega)
        ·exact z
   have eb:((b:Nat):Int)- ((f:Nat):Int)=((b-f:Nat):Int):=by omega
   have ek:((k:Nat):Int)-1=((k-1:Nat):Int):=by omega
   refine⟨p,c,tl,wl,n+1+20,b-f,k-1,trs,ws,by show [V.ref p,V.ref tl,V.int (((b:Nat):Int)- ((f:Nat):Int)),V.ref wl,V.int (((k:Nat):Int)-1)]=_;rw[eb,ek],P1,by omega,kG1.lst ht,kG1.lst hw,t0,t3,w1,wh,fun z=>absurd z (by omega),by omega,by omega,by omega,by omega,fun vr u G2 hs2 sy2 k4 P2=> ?_⟩
   refine⟨(show 2≤sizeLine by decide),fun l nl=> ?_⟩
   have el:=Ext.new (o:= .lst [.str "and",.str "or"]) nl
   have gl:(upd G2 l (.lst [.str "and",.str "or"])) l=some (.lst ((["and","or"]:List Str).map V.str)):=upd_same
   generalize upd G2 l (.lst [.str "and",.str "or"])=G4 at el gl⊢
   refine⟨p,c,l,_,_,rfl,P2.ext el,by omega,gl,by decide,by decide,fun vk G5 hvk k5 P5=> ?_⟩
   obtain⟨kw,hk,rfl⟩:=pick_str hvk
   have hk2:kw= "and" ∨kw= "or":=by simpa using hk
   refine⟨(show 3≤sizeLine by decide),fun a2 n2=> ?_⟩
   have g2:(upd G5 a2 (.tup [.str kw,.ref bp,vr])) a2=some (.tup [.str kw,.ref bp,vr]):=upd_same
   have e2:=Ext.new (o:= .tup [.str kw,.ref bp,vr]) n2
   generalize upd G5 a2 (.tup [.str kw,.ref bp,vr])=G8 at*
   have k25:=(Kp.of el).trans k5
   have z:=sy1.bin hk2 sy2
   rw[show f+(b-f)=b by omega] at z
   refine q _ (.bin kw tb u) G8 (.bin g2 ((hs1.kp (k4.trans k25)).ext e2) ((hs2.kp k25).ext e2)) (z.le ?_ (by omega) (by omega) (by omega) (by omega)) (((kG1.trans k4).trans k25).trans (Kp.of e2)) ((P5.ext e2).mono (by omega))
   unfold LF PP
   split<;>split<;>split<;>omega
 refine brD (fun hk=>brT rfl (main b H hb1 (by omega) (z34 _) (fun _=>rfl) (fun _=>rfl) (Kp.refl _) (P.mono (by omega)))) fun hk=>brD (fun h1=>main b H hb1 (by omega) (z34 _) (fun _=>rfl) (fun _=>rfl) (Kp.refl _) (P.mono (by omega))) fun h1=> ?_
 refine⟨p,c,n,_,rfl,P,by omega,?_,?_,fun r G r0 r1 kG PG=> ?_⟩
 ·split<;>omega
 ·split<;>first|decide|exact log_small (by omega)
 ·obtain⟨ri,rfl⟩:∃i:Nat,r=(i:Int):=⟨r.toNat,by omega⟩
  have hr:1+ri≤3∧1+ri≤b:=by
   revert r1
   split<;>omega
  have e:(1:Int)+((ri:Nat):Int)=((1+ri:Nat):Int):=by omega
  have z:=main (1+ri) G (by omega) hr.1 hr.2 (fun z=>absurd (by omega) hk) (fun z=>absurd (by omega) h1) kG PG
  rw[←e] at z
  exact z
end
section
variable {P:Program} {w:World} {K:Kf} {mg:Str→Option Value} {base:Heap}
abbrev s_new_claim:Stmt:=top 47
theorem sc_new_claim:FnScope N_new_claim ["_law_pen","_law_tracks","_law_words"] (defScope s_new_claim):=⟨rfl,rfl,rfl,by decide+kernel,rfl,by decide+kernel,by decide+kernel⟩
theorem ok_new_claim {f:Addr} {fd:FuncData} (B:Blt mg) (j1:Cal P w K mg base "_law_pick" (2) ["_law_pen","_law_options"] (sp_pick K)) (j2:Cal P w K mg base "_law_draw" (1) ["_law_pen","_law_span"] (sp_draw K)) (F:FunD K "_law_new_claim" "_law_new_claim" (defArgs s_new_claim) (defBody s_new_claim) (defScope s_new_claim) [] [] f fd):FnOk P w K mg base (L2.CX P w) (3) f fd ["_law_pen","_law_tracks","_law_words"] (sp_new_claim K):=by
 refine F.ok sc_new_claim (fun vs H Q E h=>len_new_claim h) (fun cdv A outer s H vs Q E hr h=>⟨t_new_claim K E,?_,pure_new_claim h⟩)
 have po:=passes_of (X:=cxOf (L2.CX P w) P w K mg base N_new_claim "_law_new_claim" (defScope s_new_claim) f cdv A outer s H E) rfl
 exact(pss_cons (ps_set (i:=3) sc_new_claim.nd rfl (by first|exact Or.inl rfl|exact Or.inr rfl) (pe_lst pa_nil))
  (pss_cons (ys_for po rfl (j_rng rfl B.range pe_int) (pg_name (i:=4) sc_new_claim.nd rfl (by first|exact Or.inl rfl|exact Or.inr rfl)) (pss_cons (ps_set (i:=5) sc_new_claim.nd rfl (by first|exact Or.inl rfl|exact Or.inr rfl) (ye_call j1 (hr.mono (by decide)) rfl (pa_cons (yv 0) (pa_cons (yv 2) pa_nil))))
  (pss_cons (ys_par (ps_par (i:=6) (j:=7) (by rfl) sc_new_claim.nd rfl rfl (by decide) rfl rfl (PA.up (pa_cons (ye_lc (own:= [("_law_word",9)]) (g:=(gName 9)) (tt:=(yTst (tOp zNe (yVar 9) (yVar 5)))) rfl sc_new_claim.nd (j_lst (yv 2)) (blkOk_by (N:=N_new_claim) (sc:=defScope s_new_claim) (by decide+kernel)) (fun _ _ _ _ _=>(pg_name (i:=9) sc_new_claim.nd rfl (by first|exact Or.inl rfl|exact Or.inr rfl))) (fun _ _ _ _ _=>(pts_one (yt_cmp op_zNe (yv 9) (yv 5) (by rfl)))) (fun _ _ _ _ _=>(yv 9))) (pa_cons (ye_call j2 (hr.mono (by decide)) rfl (pa_cons (yv 0) (pa_cons pe_int pa_nil))) pa_nil))) (by rfl)))
  (pss_cons (ps_set (i:=8) sc_new_claim.nd rfl (by first|exact Or.inl rfl|exact Or.inr rfl) (pe_tup (pa_cons pe_str (pa_cons (yv 5) (pa_cons (ye_call j1 (hr.mono (by decide)) rfl (pa_cons (yv 0) (pa_cons (yv 1) pa_nil))) pa_nil)))))
  (ys_cut (ys_if (PW.pt (yt_and (yt_cmp op_zGt (yv 7) pe_int (by rfl)) (pw_and1 (yt_cmp (op_zNeD hr.units) (yv 6) (pe_lst pa_nil) (by rfl))))) (pss_one (ps_set (i:=8) sc_new_claim.nd rfl (by first|exact Or.inl rfl|exact Or.inr rfl) (pe_tup (pa_cons (pe_ix ix_zIxL (pe_lst (pa_cons pe_str (pa_cons pe_str pa_nil))) (pe_op op_zSub (yv 7) pe_int) (fun _ _=>rfl)) (pa_cons (yv 5) (pa_cons (ye_call j1 (hr.mono (by decide)) rfl (pa_cons (yv 0) (pa_cons (yv 6) pa_nil))) pa_nil)))))) pss_nil)
  (pss_one (ps_expr (pe_bm PySem.F.plainAttrs_list PySem.F.slot_list_append PySem.F.type_list_append mt_zApp (yv 3) (pa_cons (yv 8) pa_nil)))))))))
  (pss_cons (ps_asg (yv 3) (pg_lst rfl (pgs_cons (pg_name (i:=10) sc_new_claim.nd rfl (by first|exact Or.inl rfl|exact Or.inr rfl)) (pgs_cons (pg_name (i:=11) sc_new_claim.nd rfl (by first|exact Or.inl rfl|exact Or.inr rfl)) pgs_nil))))
  (pss_cons (ps_set (i:=12) sc_new_claim.nd rfl (by first|exact Or.inl rfl|exact Or.inr rfl) (pe_lst (pa_cons (yv 10) (pa_cons (pe_tup (pa_cons pe_str (pa_cons (yv 10) pa_nil))) (pa_cons (pe_tup (pa_cons pe_str (pa_cons (yv 10) (pa_cons (pe_tup (pa_cons pe_str (pa_cons (yv 11) pa_nil))) pa_nil)))) (pa_cons (pe_tup (pa_cons pe_str (pa_cons (pe_tup (pa_cons pe_str (pa_cons (yv 10) pa_nil))) (pa_cons (yv 11) pa_nil)))) (pa_cons (pe_tup (pa_cons pe_str (pa_cons (yv 10) (pa_cons (yv 11) pa_nil)))) pa_nil)))))))
  (pss_one (ps_ret (ye_call j1 (hr.mono (by decide)) rfl (pa_cons (yv 0) (pa_cons (pe_op op_zCatL (yv 12) (pe_lst (pa_cons (pe_tup (pa_cons pe_str (pa_cons (yv 10) (pa_cons (yv 11) pa_nil)))) pa_nil))) pa_nil)))))))))
abbrev s_new_block:Stmt:=top 48
theorem sc_new_block:FnScope N_new_block ["_law_pen","_law_tracks","_law_bound","_law_words"] (defScope s_new_block):=⟨rfl,rfl,rfl,by decide+kernel,rfl,by decide+kernel,by decide+kernel⟩
theorem ok_new_block {f:Addr} {fd:FuncData} (B:Blt mg) (j2:Cal P w K mg base "_law_pick" (2) ["_law_pen","_law_options"] (sp_pick K)) (j3:Cal P w K mg base "_law_draw" (1) ["_law_pen","_law_span"] (sp_draw K)) (j1:Cal P w K mg base "_law_new_claim" (3) ["_law_pen","_law_tracks","_law_words"] (sp_new_claim K)) (F:FunD K "_law_new_block" "_law_new_block" (defArgs s_new_block) (defBody s_new_block) (defScope s_new_block) [] [] f fd):FnOk P w K mg base (L2.CX P w) (4) f fd ["_law_pen","_law_tracks","_law_bound","_law_words"] (sp_new_block K):=by
 refine F.ok sc_new_block (fun vs H Q E h=>len_new_block h) (fun cdv A outer s H vs Q E hr h=>⟨t_new_block K E,?_,pure_new_block h⟩)
 exact(pss_cons (ys_par (ps_par (i:=4) (j:=5) (by rfl) sc_new_block.nd rfl rfl (by decide) rfl rfl (PA.up (pa_cons (pe_slice sl_zL (pe_lst (pa_cons pe_str (pa_cons pe_str (pa_cons pe_str pa_nil)))) po_none (po_some (yv 2))) (pa_cons (ye_call j2 (hr.mono (by decide)) rfl (pa_cons (yv 0) (pa_cons (yv 1) pa_nil))) pa_nil))) (by rfl)))
  (pss_cons (ys_if (PW.pt (yt_and (yt_cmp op_zEq (yv 2) pe_int (by rfl)) (pw_and1 (yt_cmp op_zEq (ye_call j3 (hr.mono (by decide)) rfl (pa_cons (yv 0) (pa_cons pe_int pa_nil))) pe_int (by rfl))))) (pss_cons (ps_set (i:=6) sc_new_block.nd rfl (by first|exact Or.inl rfl|exact Or.inr rfl) (pe_tup (pa_cons pe_str (pa_cons (pe_tup (pa_cons pe_str (pa_cons pe_str (pa_cons pe_str pa_nil)))) (pa_cons (pe_tup (pa_cons pe_str (pa_cons pe_str (pa_cons pe_str pa_nil)))) pa_nil)))))
  (pss_cons (ps_set (i:=7) sc_new_block.nd rfl (by first|exact Or.inl rfl|exact Or.inr rfl) (pe_tup (pa_cons pe_str (pa_cons (pe_tup (pa_cons pe_str (pa_cons pe_str (pa_cons (yv 5) pa_nil)))) (pa_cons (pe_tup (pa_cons pe_str (pa_cons pe_str (pa_cons (yv 5) pa_nil)))) pa_nil)))))
  (pss_one (ps_ret (pe_tup (pa_cons pe_str (pa_cons (yv 4) (pa_cons (pe_tup (pa_cons pe_str (pa_cons (pe_tup (pa_cons pe_str (pa_cons (pe_tup (pa_cons pe_str (pa_cons (yv 6) (pa_cons (yv 7) pa_nil)))) pa_nil))) (pa_cons (pe_tup (pa_cons pe_str (pa_cons pe_str (pa_cons (yv 5) pa_nil)))) pa_nil)))) pa_nil)))))))) pss_nil)
  (pss_one (ps_ret (pe_tup (pa_cons (ye_call j2 (hr.mono (by decide)) rfl (pa_cons (yv 0) (pa_cons (pe_lst (pa_cons pe_str (pa_cons pe_str pa_nil))) pa_nil))) (pa_cons (yv 4) (pa_cons (ye_call j1 (hr.mono (by decide)) rfl (pa_cons (yv 0) (pa_cons (yv 1) (pa_cons (pe_op op_zCatL (pe_op op_zCatL (yv 4) (yv 4)) (yv 3)) pa_nil)))) pa_nil))))))))
abbrev s_new_saying:Stmt:=top 49
theorem sc_new_saying:FnScope N_new_saying ["_law_pen","_law_tracks","_law_bound","_law_words","_law_blocks"] (defScope s_new_saying):=⟨rfl,rfl,rfl,by decide+kernel,rfl,by decide+kernel,by decide+kernel⟩
theorem ok_new_saying {N:Nat} {f:Addr} {fd:FuncData} (B:Blt mg) (j3:Cal P w K mg base "_law_new_claim" (3) ["_law_pen","_law_tracks","_law_words"] (sp_new_claim K)) (j5:Cal P w K mg base "_law_draw" (1) ["_law_pen","_law_span"] (sp_draw K)) (j4:Cal P w K mg base "_law_new_block" (4) ["_law_pen","_law_tracks","_law_bound","_law_words"] (sp_new_block K)) (j1:Cal P w K mg base "_law_pick" (2) ["_law_pen","_law_options"] (sp_pick K)) (j2:Cal P w K mg base "_law_new_saying" (N+8) ["_law_pen","_law_tracks","_law_bound","_law_words","_law_blocks"] (sp_new_saying N K)) (F:FunD K "_law_new_saying" "_law_new_saying" (defArgs s_new_saying) (defBody s_new_saying) (defScope s_new_saying) [] [] f fd):FnOk P w K mg base (L2.CX P w) (N+9) f fd ["_law_pen","_law_tracks","_law_bound","_law_words","_law_blocks"] (sp_new_saying (N+1) K):=by
 refine F.ok sc_new_saying (fun vs H Q E h=>len_new_saying h) (fun cdv A outer s H vs Q E hr h=>⟨t_new_saying N K E,?_,pure_new_saying h⟩)
 exact(pss_cons (ys_if (yt_cmp op_zEq (yv 2) pe_int (by rfl)) (pss_one (ps_ret (ye_call j3 (hr.mono (by omega)) rfl (pa_cons (yv 0) (pa_cons (yv 1) (pa_cons (yv 3) pa_nil)))))) pss_nil)
  (pss_cons (ps_set (i:=5) sc_new_saying.nd rfl (by first|exact Or.inl rfl|exact Or.inr rfl) (ye_if (PW.pt (yt_or (yt_cmp op_zEq (yv 4) pe_int (by rfl)) (pw_or1 (yt_cmp op_zEq (yv 2) pe_int (by rfl))))) (yv 2) (pe_op op_zAdd pe_int (ye_call j5 (hr.mono (by omega)) rfl (pa_cons (yv 0) (pa_cons (pe_callB (cr_min rfl) rfl B.min (by decide+kernel) (pa_cons (pe_callTy cr_int rfl B.int boot_int (pa_cons (yv 2) pa_nil)) (pa_cons pe_int pa_nil))) pa_nil))))))
  (pss_cons (ps_set (i:=6) sc_new_saying.nd rfl (by first|exact Or.inl rfl|exact Or.inr rfl) (ye_call j4 (hr.mono (by omega)) rfl (pa_cons (yv 0) (pa_cons (yv 1) (pa_cons (yv 5) (pa_cons (yv 3) pa_nil))))))
  (pss_cons (ys_if (yt_cmp op_zEq (yv 5) (yv 2) (by rfl)) (pss_cons (ys_if (PW.pt (yt_and (yt_cmp (op_zNeD hr.units) (yv 3) (pe_lst pa_nil) (by rfl)) (pw_and1 (yt_cmp op_zEq (ye_call j5 (hr.mono (by omega)) rfl (pa_cons (yv 0) (pa_cons pe_int pa_nil))) pe_int (by rfl))))) (pss_one (ps_ret (pe_tup (pa_cons (ye_call j1 (hr.mono (by omega)) rfl (pa_cons (yv 0) (pa_cons (pe_lst (pa_cons pe_str (pa_cons pe_str pa_nil))) pa_nil))) (pa_cons (yv 6) (pa_cons (pe_tup (pa_cons pe_str (pa_cons pe_str (pa_cons (ye_call j1 (hr.mono (by omega)) rfl (pa_cons (yv 0) (pa_cons (yv 1) pa_nil))) pa_nil)))) pa_nil)))))) pss_nil)
  (pss_one (ps_ret (ye_call j1 (hr.mono (by omega)) rfl (pa_cons (yv 0) (pa_cons (pe_lst (pa_cons (yv 6) (pa_cons (yv 6) (pa_cons (pe_tup (pa_cons pe_str (pa_cons (yv 6) pa_nil))) pa_nil)))) pa_nil)))))) pss_nil)
  (pss_cons (ps_set (i:=7) sc_new_saying.nd rfl (by first|exact Or.inl rfl|exact Or.inr rfl) (ye_call j2 (hr.mono (by omega)) rfl (pa_cons (yv 0) (pa_cons (yv 1) (pa_cons (pe_op op_zSub (yv 2) (yv 5)) (pa_cons (yv 3) (pa_cons (pe_op op_zSub (yv 4) pe_int) pa_nil)))))))
  (pss_one (ps_ret (pe_tup (pa_cons (ye_call j1 (hr.mono (by omega)) rfl (pa_cons (yv 0) (pa_cons (pe_lst (pa_cons pe_str (pa_cons pe_str pa_nil))) pa_nil))) (pa_cons (yv 6) (pa_cons (yv 7) pa_nil)))))))))))
end
section
variable {trs trs' ws:List Str} (h:∀i,wd ws i= "filled" →(wd ws (i+1)∈trs↔wd ws (i+1)∈trs'))
include h
theorem spart_trs (bd:Option (List Str)) (s:SSt):spartOf trs ws bd s=spartOf trs' ws bd s:=by
 unfold spartOf
 split
 ·rfl
 ·split
  ·rfl
  ·split
   ·rfl
   ·rename_i k s2 h2
    obtain⟨b1,_,_,_,_,_,b7⟩:=stakeIf_good h2
    split
    ·rename_i hk
     have:decide (wd ws s2.sp∈trs)=decide (wd ws s2.sp∈trs'):=by
      rw[b1]
      exact decide_eq_decide.mpr (h _ (by rw[←b7];exact hk))
     rw[this]
    ·rfl
theorem ssingle_trs:∀n,ssingle trs ws n=ssingle trs' ws n
 |0=>rfl
 |n+1=>by
  funext bd s
  unfold ssingle
  rw[ssingle_trs n]
  have:spob (ssingle trs' ws n) trs ws bd s=spob (ssingle trs' ws n) trs' ws bd s:=by
   unfold spob
   rw[spart_trs h]
  rw[this]
theorem swhole_trs (s:SSt):swholeOf trs ws s=swholeOf trs' ws s:=by
 unfold swholeOf
 rw[ssingle_trs h]
end
def Behind (t:Str) (ws:List Str):Bool:=(List.range ws.length).all fun i=>wd ws i != "filled"||decide (wd ws (i+1)∈([t,"strange","","("]:List Str))
theorem behind_ok {t:Str} {trs ws:List Str} (ht:t∈trs) (hn:∀x∈trs,x∈NAMES) (h:Behind t ws=true):∀i,wd ws i= "filled" →(wd ws (i+1)∈trs↔wd ws (i+1)∈([t]:List Str)):=by
 intro i hi
 have lt:=wd_lt hi (by decide+kernel)
 unfold Behind at h
 rw[List.all_eq_true] at h
 have:=h i (List.mem_range.mpr lt)
 rw[hi] at this
 have h3:wd ws (i+1)∈([t,"strange","","("]:List Str):=by
  simp only[bne_self_eq_false,Bool.false_or,decide_eq_true_eq] at this
  exact this
 have no:∀x,x∈(["strange","","("]:List Str)→x∉NAMES:=by decide+kernel
 rcases List.mem_cons.mp h3 with e|e
 ·rw[e]
  exact⟨fun _=>z32.mpr rfl,fun _=>ht⟩
 ·have n:=no _ e
  refine⟨fun z=>absurd (hn _ z) n,fun z=> ?_⟩
  rw[z32.mp z] at n
  exact absurd (hn _ ht) n
def partW (t:Str):List Str:=(["here","filled",t]:List Str)
def eightW (t:Str):List Str:=(List.replicate 7 (partW t++(["and"]:List Str))).flatten++partW t
def blockW:List Str:=(["all","x","y","(","x","ahead","y",")"]:List Str)
abbrev nL (n:Nat) (w:Str):List Str:=(List.replicate n [w]).flatten
def deepW:List Str:=(((["all","x","("]:List Str)++nL 10 "(")++(["x","is","x"]:List Str))++nL 11 ")"
def rowsA (t:Str):RowT:= [(eightW t,none),((eightW t++(["or"]:List Str))++partW t,some 32),((nL 10 "(" ++partW t)++nL 10 ")",none)]
def rowsB (t:Str):RowT:= [((nL 11 "(" ++partW t)++nL 11 ")",some 10),(nL 10 "not" ++partW t,none),(nL 11 "not" ++partW t,some 10)]
def rowsC:RowT:= [(blockW,none),(((["some","z","("]:List Str)++blockW)++([")"]:List Str),some 3),((["all","x","x"]:List Str)++blockW.drop 3,some 2)]
def rowsD:RowT:= [((List.replicate 2 (blockW++(["and"]:List Str))).flatten++blockW,none),((List.replicate 3 (blockW++(["and"]:List Str))).flatten++blockW,some 27)]
def rowsE:RowT:= [((["some","x","y","z"]:List Str)++blockW.drop 3,none),((["some","x","y","z","w"]:List Str)++blockW.drop 3,some 4)]
def rowsF (t:Str):RowT:= [((["x","filled",t]:List Str),some 0),((["here","ahead","x"]:List Str),some 2),((["here","filled","strange"]:List Str),some 2)]
def rowsG (t:Str):RowT:= [(blockW++(["and","x","filled",t]:List Str),some 9),((["here","has",t]:List Str),some 1),(partW t++([")"]:List Str),some 3)]
def rowsH:RowT:= [((["here"]:List Str),some 1),((["not"]:List Str),some 1),((["all","x"]:List Str),some 2),((["all","here","("]:List Str),some 1),((["all","("]:List Str),some 1)]
def rowsI (t:Str):RowT:= [((["all","x","(",")"]:List Str),some 3),(((nL 9 "not" ++(["(","("]:List Str))++partW t)++([")",")"]:List Str),some 10),(([""]:List Str),some 0)]
def rowsJ (t:Str):RowT:= [(deepW,none),((["not"]:List Str)++deepW,some 13),(eightW t++(["and","not","(","here"]:List Str),some 34)]
def rowsK (t:Str):RowT:= [(eightW t++(["or","all","x","(","x"]:List Str),some 35)]
def rowsL:RowT:= [((["all","x","(","x","is","x",")","and","some","y","(","x","is","y",")"]:List Str),some 11)]
def notsW:List Str:=(["not","not","(","here","is","here",")"]:List Str)
def rowsM:RowT:= [((List.replicate 4 (notsW++(["and"]:List Str))).flatten++notsW,none)]
def BARW:List Str:=((["left","right","up","down","first","last","jump","go","swap","fill","clear","flip","take"]:List Str)++(["to","hold","insert","delete","if","else","end","times","filled","edge","on","at"]:List Str))++(["ahead","behind","held","is","here","all","some","and","or","not"]:List Str)
def lastW:List Str:=BARW++(["qqqqqqqqqqqqq","A","x1"]:List Str)
def rowsN:RowT:=lastW.map fun w=>((["all",w,"(","here","is","here",")"]:List Str),some 1)
def rowsAll (t:Str):RowT:=((((((((((((rowsA t++rowsB t)++rowsC)++rowsD)++rowsE)++rowsF t)++rowsG t)++rowsH)++rowsI t)++rowsJ t)++rowsK t)++rowsL)++rowsM)++rowsN
def rowOkB (t:Str) (r:List Str × Option Nat):Bool:=(decide (r.1=([""]:List Str))&&decide (r.2=some 0))||(Behind t r.1&&decide (badW [t] r.1=r.2)&&decide (r.1≠ [])&&decide (r.1≠([""]:List Str)))
theorem rows_ok:∀t∈NAMES,(rowsAll t).all (rowOkB t)=true:=by decide+kernel
def wordOkB (w:Str):Bool:=decide (NoSp w)&&decide (w.length≤30)&&decide (okV (.str w)=true)
theorem rows_words:∀t∈NAMES,(rowsAll t).all (fun r=>decide (r.1≠ [])&&decide (r.1.length≤100)&&r.1.all wordOkB)=true:=by decide+kernel
theorem rows_bad {t:Str} {trs:List Str} (ht:t∈trs) (hn:∀x∈trs,x∈NAMES):∀r∈rowsAll t,badOf trs r.1=r.2∧r.1≠ []∧r.1.length≤100∧∀w∈r.1,NoSp w∧w.length≤30:=by
 intro r hr
 have h1:=List.all_eq_true.mp (rows_ok t (hn t ht)) r hr
 have h2:=List.all_eq_true.mp (rows_words t (hn t ht)) r hr
 simp only[Bool.and_eq_true,decide_eq_true_eq,List.all_eq_true,wordOkB] at h2
 obtain⟨⟨h2,h3⟩,h4⟩:=h2
 have h4':∀w∈r.1,NoSp w∧w.length≤30:=fun w hw=>(h4 w hw).1
 refine⟨?_,h2,h3,h4'⟩
 unfold rowOkB at h1
 rw[Bool.or_eq_true] at h1
 rcases h1 with h1|h1
 ·rw[Bool.and_eq_true,decide_eq_true_eq,decide_eq_true_eq] at h1
  rw[h1.1,h1.2]
  rfl
 ·simp only[Bool.and_eq_true,decide_eq_true_eq] at h1
  obtain⟨⟨⟨b,e⟩,_⟩,n1⟩:=h1
  rw[badOf_eq h2 n1 fun w hw=>(h4' w hw).1]
  unfold badW
  rw[swhole_trs (behind_ok ht hn b)]
  exact e
def Ref1 (K:Kf) (Q:VK) (x f t:Str) (cls:Value) (d:Option Addr) (H':Hp):Prop:=cls= .ref (He.ga K x)∧∃dd v,d=some dd∧H' dd=some (.xd [(f,v)])∧∀p,H' p=none→Q (.ref p) (upd H' p (.tup [.str t,v]))
def RefE (K:Kf) (Q:VK):XK:=fun cls d H'=>(cls= .ref (He.ga K "OtherTracks")∧d=none∧∀p,H' p=none→Q (.ref p) (upd H' p (.tup [.str "tracks",.non])))∨
    Ref1 K Q "NoTrack" "name" "track" cls d H'∨Ref1 K Q "NoColumn" "column" "column" cls d H'∨Ref1 K Q "BadTracks" "index" "index" cls d H'
def TT_refused (K:Kf):LTT:=fun tl H Q=>XFs K ERR∧tl (RefE K Q) H fun _ H'=>Q .non H'
section
variable {K:Kf} {vs:List V} {H:Hp} {Q:VK} {E:XK}
def N_refused:List Str:= ["_law_call","e"]
def t_refused (K:Kf) (E:XK) (f c':Addr) (qL:Str) (tl:XK→Hp→VK→Prop):TS:=
 (tSeq (yTry K (fun W=>(tDrop (yAct f c' qL tl 2 W))) W0 ((.ref (He.ga K "OtherTracks"),(fun a cls d=>(tRet (tTup (tCons (tC (.str "tracks")) (tCons (tC .non) tNil))))))::((.ref (He.ga K "NoTrack"),asTs 1 (fun a cls d=>(tRet (tTup (tCons (tC (.str "track")) (tCons (yXf K a cls d "name" (yVar 1)) tNil))))))::((.ref (He.ga K "NoColumn"),asTs 1 (fun a cls d=>(tRet (tTup (tCons (tC (.str "column")) (tCons (yXf K a cls d "column" (yVar 1)) tNil))))))::((.ref (He.ga K "BadTracks"),asTs 1 (fun a cls d=>(tRet (tTup (tCons (tC (.str "index")) (tCons (yXf K a cls d "index" (yVar 1)) tNil))))))::[])))))
    (tRet (tC .non)))
abbrev s_refused:Stmt:=top 53
theorem sc_refused:FnScope N_refused ["_law_call"] (defScope s_refused):=⟨rfl,rfl,rfl,by decide+kernel,rfl,by decide+kernel,by decide+kernel⟩
theorem two_slots {σ:L2.St} (h:σ.length=2):∃x0 x1,σ= [x0,x1]:=match σ,h with
 |[x0,x1],_=>⟨x0,x1,rfl⟩
theorem pure_refused {tl:XK→Hp→VK→Prop} {f c':Addr} {qL:Str} (h:TT_refused K tl H Q) (hc:H c'=some (LamX.CodeO c' qL)):t_refused K E0 f c' qL tl {nx:=fun _ H'=>Q .non H',rt:=Q} (L2.start N_refused [.ref f]) H:=by
 obtain⟨XF,h⟩:=h
 obtain⟨o1,o2,o3,o4,o5⟩:=XF ("OtherTracks","tracks") (by decide)
 obtain⟨n1,n2,n3,n4,n5⟩:=XF ("NoTrack","name") (by decide)
 obtain⟨c1,c2,c3,c4,c5⟩:=XF ("NoColumn","column") (by decide)
 obtain⟨t1,t2,t3,t4,t5⟩:=XF ("BadTracks","index") (by decide)
 refine⟨_,?_,rfl,hc,h⟩
 rintro cls d σ' H' (⟨rfl,rfl,q⟩|⟨rfl,dd,v,rfl,hd,q⟩|⟨rfl,dd,v,rfl,hd,q⟩|⟨rfl,dd,v,rfl,hd,q⟩) hl
 ·obtain⟨x0,x1,rfl⟩:=two_slots hl
  refine⟨true,o5 ("OtherTracks","tracks") (by decide),fun _ a na=> ?_,fun z=>by cases z⟩
  exact⟨(show 2≤sizeLine by decide),q⟩
 ·obtain⟨x0,x1,rfl⟩:=two_slots hl
  refine⟨false,n5 ("OtherTracks","tracks") (by decide),(fun z=>by cases z),fun _=>⟨true,n5 ("NoTrack","name") (by decide),fun _ a na=> ?_,fun z=>by cases z⟩⟩
  exact⟨rfl,_,dd,_,v,rfl,n1,rfl,hd,rfl,(show 2≤sizeLine by decide),q⟩
 ·obtain⟨x0,x1,rfl⟩:=two_slots hl
  refine⟨false,c5 ("OtherTracks","tracks") (by decide),(fun z=>by cases z),fun _=>⟨false,c5 ("NoTrack","name") (by decide),(fun z=>by cases z),fun _=>⟨true,c5 ("NoColumn","column") (by decide),fun _ a na=> ?_,fun z=>by cases z⟩⟩⟩
  exact⟨rfl,_,dd,_,v,rfl,c1,rfl,hd,rfl,(show 2≤sizeLine by decide),q⟩
 ·obtain⟨x0,x1,rfl⟩:=two_slots hl
  refine⟨false,t5 ("OtherTracks","tracks") (by decide),(fun z=>by cases z),fun _=>⟨false,t5 ("NoTrack","name") (by decide),(fun z=>by cases z),fun _=>⟨false,t5 ("NoColumn","column") (by decide),(fun z=>by cases z),fun _=>⟨true,t5 ("BadTracks","index") (by decide),fun _ a na=> ?_,fun z=>by cases z⟩⟩⟩⟩
  exact⟨rfl,_,dd,_,v,rfl,t1,rfl,hd,rfl,(show 2≤sizeLine by decide),q⟩
theorem due_ne (a b:Option Nat):sEq (dueV a) (dueV b)=some (decide (a=b)):=by
 cases a<;>cases b<;>simp[dueV,sEq]<;>omega
theorem len_bad (h:sp_bad K vs H Q E):vs.length=2:=by
 obtain⟨_,_,_,_,rfl,_⟩:=h
 rfl
def N_bad:List Str:= ["_law_tracks","_law_words","e"]
def t_bad (K:Kf) (E:XK):TS:=
 (tSeq (yTry K (fun W=>(tDrop (yNew (He.ga K "Saying") (sp_Saying_init K) W (tCons (yVar 0) (tCons (tBM K "str" (zJoin K) (tC (.str " ")) (tCons (yVar 1) tNil)) tNil))))) W0 ((.ref (He.ga K "BadSaying"),asTs 2 (fun a cls d=>(tRet (yIfE (yAnd (yTst (tCB (zIsS K a cls d) (tCons (yVar 2) (tCons (tC (.ref (He.ga K "EdgeError"))) tNil)))) (yTst (tCB (zIsS K a cls d) (tCons (yVar 2) (tCons (tC (.ty "ValueError")) tNil))))) (yXf K a cls d "index" (yVar 2)) (tC (.str "odd"))))))::[]))
    (tRet (tC .non)))
theorem tj_le {s:Str}:∀{ws:List Str},(Txt.join s ws).length≤(ws.map (·.length)).sum+ws.length*s.length
 |[]=>by show("":Str).length≤_;have:("":Str).length=0:=by decide+kernel
         omega
 |a::r=>by have:=tj_len (s:=s) (ws:=a::r) (by simp);omega
theorem pure_bad (h:sp_bad K vs H Q E):t_bad K E (dEnd Q) (start N_bad vs) H:=by
 obtain⟨tl,wl,ys,ws,rfl,F,XF,tk,ht,hw,hl,q⟩:=h
 obtain⟨b1,b2,b3,b4,b5⟩:=XF ("BadSaying","index") (by decide)
 have l1:(" ":Str).length=1:=by decide+kernel
 have lj:=tj_le (s:= " ") (ws:=ws)
 rw[l1] at lj
 refine⟨tyS,ws,.inl (SqL.of hw),by rw[l1];omega,fun x dx nx nd hne=> ?_⟩
 have e0:Ext H (upd (upd H dx (.own x)) x (.ins (He.ga K "Saying") dx [])):=(Ext.new nd).mut nx
 refine⟨H,x,dx,tl,ys,_,rfl,upd_same,e0,nx,.inl (e0 _ _ ht),fun y hy=>by have:=tk.short y hy;omega,by omega,F.mc,fun i hi=>(by rw[trk_right tk] at hi;cases hi),fun _ n hn d H' e nd' hd=> ?_,fun _ u hu H' e S=>⟨rfl,?_⟩⟩
 ·have hb:badOf ys ws=some n:=by unfold badOf;rw[hn]
  rw[hb] at q
  refine⟨true,b5 ("BadSaying","index") (by decide),fun _ a na=> ?_,fun z=>by cases z⟩
  exact⟨_,true,rfl,b2,.inr ⟨d,_,rfl,hd⟩,.inl ⟨_,rfl,b3⟩,brT rfl ⟨_,true,rfl,b2,.inr ⟨d,_,rfl,hd⟩,.inr ⟨_,rfl,b4⟩,brT rfl ⟨rfl,_,d,_,_,rfl,b1,rfl,hd,rfl,q H' e⟩⟩⟩
 ·have:badOf ys ws=none:=by unfold badOf;rw[hu]
  rw[this] at q
  exact q H' e
end
theorem giv_refused {X:Cx} {fd:FuncData} (B:Blt X.mg) (GC:∀x∈clsN,X.mg x=some (.ref (He.ga X.K x))) (F:FunD X.K "_law_refused" "_law_refused" (defArgs s_refused) (defBody s_refused) (defScope s_refused) [] [] (He.ga X.K "_law_refused") fd) (g:X.mg "_law_refused"=some (.ref (He.ga X.K "_law_refused"))):Giv X "_law_refused" "_law_call" (TT_refused X.K):=by
 refine giv_of F g sc_refused rfl (by first|exact Or.inl rfl|exact Or.inr (Or.inl rfl)) (fun _ _ _ _ _ _ us hl=>match us,hl with|[_],_=>rfl) (fun cdv qL f c' s H Q tl act hc h=>⟨t_refused X.K E0 f c' qL tl,?_,pure_refused h hc⟩)
 exact(pss_cons (ys_try rfl rfl sc_refused.nd tk0 (fun W pn xe tk po=>(pss_one (ps_expr (ye_act (n:=2) fun EA hW=>act _ pn xe EA _ _ (takes_len tk) hW)))) (HdsN.plain ⟨rfl,by decide,.inl (GC "OtherTracks" (by decide))⟩ (fun a oe cls d pn hz hf=>(pss_one (ps_ret (pe_tup (pa_cons pe_str (pa_cons pe_non pa_nil)))))) (HdsN.named (i:=1) rfl rfl ⟨rfl,by decide,.inl (GC "NoTrack" (by decide))⟩ (fun a oe cls d pn hz hf=>(pss_one (ps_ret (pe_tup (pa_cons pe_str (pa_cons (ye_xf hz hf (yv 1)) pa_nil)))))) (HdsN.named (i:=1) rfl rfl ⟨rfl,by decide,.inl (GC "NoColumn" (by decide))⟩ (fun a oe cls d pn hz hf=>(pss_one (ps_ret (pe_tup (pa_cons pe_str (pa_cons (ye_xf hz hf (yv 1)) pa_nil)))))) (HdsN.named (i:=1) rfl rfl ⟨rfl,by decide,.inl (GC "BadTracks" (by decide))⟩ (fun a oe cls d pn hz hf=>(pss_one (ps_ret (pe_tup (pa_cons pe_str (pa_cons (ye_xf hz hf (yv 1)) pa_nil)))))) HdsN.nil)))))
  (pss_one (ps_ret pe_non)))
def MkwA (H0:Hp) (σ:L2.St) (ta:TA) (P:Hp→List V→Prop):Prop:=∀(H:Hp) (Q:List V→Hp→Prop),Ext H0 H→(∀v H',Ext H H'→P H' v→Q v H')→ta σ H Q
section
variable {H0 H H':Hp} {σ:L2.St} {te tb tc td:TE} {ta:TA} {P R:Hp→V→Prop} {K:Kf}
theorem AllR.app {α:Type} {R:α→V→Prop} {rs us:List α} {vs ws:List V} (h:AllR R vs rs) (g:AllR R ws us):AllR R (vs++ws) (rs++us):=by
 induction h with
 |nil=>exact g
 |cons h _ ih=>exact .cons h ih
theorem mwS_v {x:Str} {i:Nat} {ws:List Str} (hi:σ[i]?=some (some (.str x))) (h:MkwS σ ta ws):MkwS σ (tCons (yVar i) ta) (x::ws):=fun H Q q=>yVar_at (v:= .str x) hi (h H _ q)
theorem mw_cat {ws us:List Str} (h:Mkw H0 σ te (WP ws)) (g:Mkw H0 σ tb (WP us)) (hl:ws.length+us.length≤1000):Mkw H0 σ (tOp zCatL te tb) (WP (ws++us)):=fun H Q e q=>
 h H _ e fun v H1 e1 h1=>g H1 _ (e.trans e1) fun w H2 e2 h2=>by
   obtain⟨a,rfl,a1⟩:=h1.ext e2
   obtain⟨b,rfl,b1⟩:=h2
   exact⟨_,_,a1,b1,by rw[z8,z8,sizeLine_eq];omega,fun p np=>q _ _ ((e1.trans e2).trans (Ext.new np)) ⟨p,rfl,by rw[upd_same,z16]⟩⟩
theorem mw_rep {ws:List Str} {k:Nat} (h:Mkw H0 σ te (WP ws)) (hl:ws.length*k≤1000) (hk:k≤1000):Mkw H0 σ (tOp zRepL te (tC (.int (k:Nat)))) (WP (List.replicate k ws).flatten):=fun H Q e q=>
 h H _ e fun v H1 e1 h1=>by
   obtain⟨a,rfl,a1⟩:=h1
   refine⟨_,a1,by omega,by omega,by rw[Int.toNat_natCast,z8,sizeLine_eq];omega,fun p np=>q _ _ (e1.trans (Ext.new np)) ⟨p,rfl,?_⟩⟩
   rw[upd_same,Int.toNat_natCast,List.map_flatten,List.map_replicate]
theorem mw_rep' {ws us:List Str} {k:Int} (n:Nat) (hk:k=(n:Nat)) (h:Mkw H0 σ te (WP ws)) (hl:ws.length*n≤1000) (hn:n≤1000) (hu:us=(List.replicate n ws).flatten):Mkw H0 σ (tOp zRepL te (tC (.int k))) (WP us):=by
 subst hk hu
 exact mw_rep h hl hn
theorem cutV_3 {ws:List Str}:cutV (ws.map V.str) (some 3) none=(ws.drop 3).map V.str:=by
 unfold cutV
 rw[show(3:Int)=((3:Nat):Int) from rfl,HT.sIx_nat,HT.sIx_none,z8]
 rcases Nat.lt_or_ge ws.length 3 with z|z
 ·rw[Nat.min_eq_right (by omega),Nat.sub_self,List.take_zero,List.drop_eq_nil_of_le (by omega)]
  rfl
 ·rw[Nat.min_eq_left z,←List.map_drop,List.take_of_length_le (by simp)]
theorem mw_cut {ws:List Str} (h:Mkw H0 σ te (WP ws)):Mkw H0 σ (tSl (zSlL K) te (tPart (tC (.int 3))) tNoPart) (WP (ws.drop 3)):=fun H Q e q=>
 h H _ e fun v H1 e1 h1=>by
   obtain⟨a,rfl,a1⟩:=h1
   exact⟨_,rfl,_,SqL.of a1,fun p np=>q _ _ (e1.trans (Ext.new np)) ⟨p,rfl,by rw[upd_same,cutV_3]⟩⟩
theorem mw_row {ws:List Str} {d:Option Nat} {x:V} (h:Mkw H0 σ te (WP ws)) (hx:x=dueV d):Mkw H0 σ (tTup (tCons te (tCons (tC x) tNil))) (RowP (ws,d)):=fun H Q e q=>
 h H _ e fun v H1 e1 ⟨a,hv,ha⟩=>by
   subst hv hx
   exact⟨(show 2≤sizeLine by decide),fun p np=>q _ _ (e1.trans (Ext.new np)) ⟨p,a,rfl,upd_same,Ext.new np _ _ ha⟩⟩
theorem mwR_nil:MkwA H0 σ tNil (fun H vs=>RowL H vs []):=fun H Q e q=>q [] H (Ext.refl _) .nil
theorem mwR_cons {r:List Str × Option Nat} {rs:RowT} (h:Mkw H0 σ te (RowP r)) (g:MkwA H0 σ ta (fun H vs=>RowL H vs rs)):MkwA H0 σ (tCons te ta) (fun H vs=>RowL H vs (r::rs)):=fun H Q e q=>
 h H _ e fun v H1 e1 h1=>g H1 _ (e.trans e1) fun vs H2 e2 h2=>q _ _ (e1.trans e2) (.cons (h1.ext e2) h2)
theorem mw_rows {rs:RowT} (g:MkwA H0 σ ta (fun H vs=>RowL H vs rs)) (hl:rs.length≤100):Mkw H0 σ (tLst ta) (RsP rs):=fun H Q e q=>
 g H _ e fun vs H1 e1 h1=>⟨by rw[AllR.len h1,sizeLine_eq];omega,fun p np=>q _ _ (e1.trans (Ext.new np)) ⟨p,vs,rfl,upd_same,rowL_ext h1 (Ext.new np)⟩⟩
theorem mw_varR {i:Nat} {v:V} {rs:RowT} (hi:σ[i]?=some (some v)) (h:RsP rs H0 v):Mkw H0 σ (yVar i) (RsP rs):=fun H Q e q=>yVar_at (v:=v) hi (q v H (Ext.refl _) (h.ext e))
theorem mw_rcat {rs us:RowT} (h:Mkw H0 σ te (RsP rs)) (g:Mkw H0 σ tb (RsP us)) (hl:rs.length+us.length≤1000):Mkw H0 σ (tOp zCatL te tb) (RsP (rs++us)):=fun H Q e q=>
 h H _ e fun v H1 e1 h1=>g H1 _ (e.trans e1) fun w H2 e2 h2=>by
   obtain⟨a,vs,rfl,a1,a2⟩:=h1.ext e2
   obtain⟨b,ws,rfl,b1,b2⟩:=h2
   exact⟨vs,ws,a1,b1,by rw[AllR.len a2,AllR.len b2,sizeLine_eq];omega,fun p np=>q _ _ ((e1.trans e2).trans (Ext.new np)) ⟨p,_,rfl,upd_same,rowL_ext (AllR.app a2 b2) (Ext.new np)⟩⟩
theorem mw_split {x:Str} {ws:List Str} (hl:x.length≤1000) (e:Txt.split x " "=ws):Mkw H0 σ (tBM K "str" zSplit (tC (.str x)) (tCons (tC (.str " ")) tNil)) (WP ws):=fun H Q _ q=>
 ⟨tyS,(by decide+kernel),by rw[sizeLine_eq];omega,fun p np=>q _ _ (Ext.new np) ⟨p,rfl,by rw[upd_same,e]⟩⟩
theorem mw_sj {x:Str} {zs ws:List Str} (h:Mkw H0 σ te (WP zs)) (hl:(zs.map (·.length)).sum+zs.length*x.length≤10000) (h2:(Txt.join x zs).length≤10000) (e:Txt.split (Txt.join x zs) " "=ws):
 Mkw H0 σ (tBM K "str" zSplit (tBM K "str" (zJoin K) (tC (.str x)) (tCons te tNil)) (tCons (tC (.str " ")) tNil)) (WP ws):=fun H Q e0 q=>
 ⟨tyS,h H _ e0 fun v H1 e1 ⟨a,hv,ha⟩=>by
  subst hv
  exact⟨zs,.inl (SqL.of ha),by omega,tyS,(by decide+kernel),by rw[sizeLine_eq];omega,fun p np=>q _ _ (e1.trans (Ext.new np)) ⟨p,rfl,by rw[upd_same,e]⟩⟩⟩
end
section
variable {H:Hp} {σ:L2.St} {te tb:TE} {P R:Hp→V→Prop} {rest:TS} {D:Ends} {i j:Nat}
theorem seq_mw (h:Mkw H σ te P) (q:∀v H',Ext H H'→P H' v→rest D (σ.set i (some v)) H'):tSeq (tAsg te (gName i)) rest D σ H:=h H _ (Ext.refl _) q
theorem seq_mwS (σ':V→L2.St) (h:Mkw H σ te P) (q:∀v H',Ext H H'→P H' v→rest D (σ' v) H') (hs:∀v,σ.set i (some v)=σ' v):tSeq (tAsg te (gName i)) rest D σ H:=seq_mw h fun v H' e hp=>by
 rw[hs]
 exact q v H' e hp
theorem seq_parS (σ':V→V→L2.St) (h:Mkw H σ te P) (g:∀H',Ext H H'→Mkw H' σ tb R) (hs:∀v w,(σ.set i (some v)).set j (some w)=σ' v w) (q:∀v w H1 H2,Ext H H1→P H1 v→Ext H1 H2→R H2 w→rest D (σ' v w) H2):tSeq (yPar i j (tCons te (tCons tb tNil))) rest D σ H:=
 h H _ (Ext.refl _) fun v H1 e1 h1=>g H1 e1 H1 _ (Ext.refl _) fun w H2 e2 h2=>by
   have z:=q v w H1 H2 e1 h1 e2 h2
   rw[←hs] at z
   exact z
theorem ret_mw (h:Mkw H σ te P) (q:∀v H',Ext H H'→P H' v→D.rt v H'):tRet te D σ H:=h H _ (Ext.refl _) q
end
theorem eq_nil {K:Kf} {H:Hp} {a b:Addr} {Q:VK} (h1:H a=some (.lst [])) (h2:H b=some (.lst [])) (q:Q (.bl true) H):zEqD K (.ref a) (.ref b) H Q:=
 ⟨.list [],.list [],.lst (SqL.of h1) .nil,.lst (SqL.of h2) .nil,rfl,rfl,q⟩
section
variable {K:Kf} {vs:List V} {H:Hp} {Q:VK} {E:XK}
def sp_barred (_:Kf):Sp:=fun vs H Q _=>vs= []∧∀(a:Addr) (H':Hp),Ext H H'→H' a=some (.lst (BARW.map V.str))→Q (.ref a) H'
theorem len_barred (h:sp_barred K vs H Q E):vs.length=0:=by
 obtain⟨rfl,_⟩:=h
 rfl
def N_barred:List Str:= ["_law_found"]
def t_barred (K:Kf) (E:XK):TS:=
 (tSeq (tAsg (tLst (tCons (tC (.str "left")) (tCons (tC (.str "right")) (tCons (tC (.str "up")) (tCons (tC (.str "down")) (tCons (tC (.str "first")) (tCons (tC (.str "last")) (tCons (tC (.str "jump")) (tCons (tC (.str "go")) (tCons (tC (.str "swap")) (tCons (tC (.str "fill")) (tCons (tC (.str "clear")) (tCons (tC (.str "flip")) (tCons (tC (.str "take")) tNil)))))))))))))) (gName 0))
    (tSeq (tAsg (tOp zCatL (yVar 0) (tLst (tCons (tC (.str "to")) (tCons (tC (.str "hold")) (tCons (tC (.str "insert")) (tCons (tC (.str "delete")) (tCons (tC (.str "if")) (tCons (tC (.str "else")) (tCons (tC (.str "end")) (tCons (tC (.str "times")) (tCons (tC (.str "filled")) (tCons (tC (.str "edge")) (tCons (tC (.str "on")) (tCons (tC (.str "at")) tNil)))))))))))))) (gName 0))
    (tRet (tOp zCatL (yVar 0) (tLst (tCons (tC (.str "ahead")) (tCons (tC (.str "behind")) (tCons (tC (.str "held")) (tCons (tC (.str "is")) (tCons (tC (.str "here")) (tCons (tC (.str "all")) (tCons (tC (.str "some")) (tCons (tC (.str "and")) (tCons (tC (.str "or")) (tCons (tC (.str "not")) tNil)))))))))))))))
theorem pure_barred (h:sp_barred K vs H Q E):t_barred K E (dEnd Q) (start N_barred vs) H:=by
 obtain⟨rfl,q⟩:=h
 unfold t_barred
 refine seq_mw (P:=WP (["left","right","up","down","first","last","jump","go","swap","fill","clear","flip","take"]:List Str)) (by repeat' (first|exact mwS_nil|exact mwR_nil|assumption|refine mwS_c ?_|refine mwS_v rfl ?_|refine mwR_cons ?_ ?_|refine mw_row ?_ rfl|refine mw_var rfl ?_|refine mw_varR rfl ?_|refine mw_words ?_ (Nat.le_of_ble_eq_true rfl)|refine mw_rows ?_ (Nat.le_of_ble_eq_true rfl)|refine mw_cut ?_|refine mw_rep' _ rfl ?_ (Nat.le_of_ble_eq_true rfl) (Nat.le_of_ble_eq_true rfl) rfl|refine mw_split (Nat.le_of_ble_eq_true rfl) (by decide+kernel)|refine mw_sj ?_ (Nat.le_of_ble_eq_true rfl) (Nat.le_of_ble_eq_true rfl) (by decide+kernel)|refine mw_cat ?_ ?_ (Nat.le_of_ble_eq_true rfl)|refine mw_rcat ?_ ?_ (Nat.le_of_ble_eq_true rfl))) fun v1 H1 e1 h1=> ?_
 refine seq_mw (P:=WP ((["left","right","up","down","first","last","jump","go","swap","fill","clear","flip","take"]:List Str)++(["to","hold","insert","delete","if","else","end","times","filled","edge","on","at"]:List Str))) (by repeat' (first|exact mwS_nil|exact mwR_nil|assumption|refine mwS_c ?_|refine mwS_v rfl ?_|refine mwR_cons ?_ ?_|refine mw_row ?_ rfl|refine mw_var rfl ?_|refine mw_varR rfl ?_|refine mw_words ?_ (Nat.le_of_ble_eq_true rfl)|refine mw_rows ?_ (Nat.le_of_ble_eq_true rfl)|refine mw_cut ?_|refine mw_rep' _ rfl ?_ (Nat.le_of_ble_eq_true rfl) (Nat.le_of_ble_eq_true rfl) rfl|refine mw_split (Nat.le_of_ble_eq_true rfl) (by decide+kernel)|refine mw_sj ?_ (Nat.le_of_ble_eq_true rfl) (Nat.le_of_ble_eq_true rfl) (by decide+kernel)|refine mw_cat ?_ ?_ (Nat.le_of_ble_eq_true rfl)|refine mw_rcat ?_ ?_ (Nat.le_of_ble_eq_true rfl))) fun v2 H2 e2 h2=> ?_
 refine ret_mw (P:=WP (((["left","right","up","down","first","last","jump","go","swap","fill","clear","flip","take"]:List Str)++(["to","hold","insert","delete","if","else","end","times","filled","edge","on","at"]:List Str))++(["ahead","behind","held","is","here","all","some","and","or","not"]:List Str))) (by repeat' (first|exact mwS_nil|exact mwR_nil|assumption|refine mwS_c ?_|refine mwS_v rfl ?_|refine mwR_cons ?_ ?_|refine mw_row ?_ rfl|refine mw_var rfl ?_|refine mw_varR rfl ?_|refine mw_words ?_ (Nat.le_of_ble_eq_true rfl)|refine mw_rows ?_ (Nat.le_of_ble_eq_true rfl)|refine mw_cut ?_|refine mw_rep' _ rfl ?_ (Nat.le_of_ble_eq_true rfl) (Nat.le_of_ble_eq_true rfl) rfl|refine mw_split (Nat.le_of_ble_eq_true rfl) (by decide+kernel)|refine mw_sj ?_ (Nat.le_of_ble_eq_true rfl) (Nat.le_of_ble_eq_true rfl) (by decide+kernel)|refine mw_cat ?_ ?_ (Nat.le_of_ble_eq_true rfl)|refine mw_rcat ?_ ?_ (Nat.le_of_ble_eq_true rfl))) fun v3 H3 e3 h3=> ?_
 obtain⟨a,rfl,ha⟩:=h3
 exact q a H3 ((e1.trans e2).trans e3) ha
end
theorem row_0 {H:Hp} {σ:L2.St} {t:Str} {v2 v3 v4:V} (s1:σ[1]?=some (some (.str t))) (s2:σ[2]?=some (some v2)) (s3:σ[3]?=some (some v3)) (s4:σ[4]?=some (some v4)) (h2:WP (partW t) H v2) (h3:WP (eightW t) H v3) (h4:WP blockW H v4):Mkw H σ (tLst (tCons (tTup (tCons (yVar 3) (tCons (tC .non) tNil))) (tCons (tTup (tCons (tOp zCatL (tOp zCatL (yVar 3) (tLst (tCons (tC (.str "or")) tNil))) (yVar 2)) (tCons (tC (.int 32)) tNil))) (tCons (tTup (tCons (tOp zCatL (tOp zCatL (tOp zRepL (tLst (tCons (tC (.str "(")) tNil)) (tC (.int 10))) (yVar 2)) (tOp zRepL (tLst (tCons (tC (.str ")")) tNil)) (tC (.int 10)))) (tCons (tC .non) tNil))) tNil)))) (RsP (rowsA t)):=
 (mw_rows (mwR_cons (mw_row (mw_var s3 h3) rfl) (mwR_cons (mw_row (mw_cat (mw_cat (mw_var s3 h3) (mw_words (mwS_c mwS_nil) (Nat.le_of_ble_eq_true rfl)) (Nat.le_of_ble_eq_true rfl)) (mw_var s2 h2) (Nat.le_of_ble_eq_true rfl)) rfl) (mwR_cons (mw_row (mw_cat (mw_cat (mw_rep' 10 rfl (mw_words (mwS_c mwS_nil) (Nat.le_of_ble_eq_true rfl)) (Nat.le_of_ble_eq_true rfl) (Nat.le_of_ble_eq_true rfl) rfl) (mw_var s2 h2) (Nat.le_of_ble_eq_true rfl)) (mw_rep' 10 rfl (mw_words (mwS_c mwS_nil) (Nat.le_of_ble_eq_true rfl)) (Nat.le_of_ble_eq_true rfl) (Nat.le_of_ble_eq_true rfl) rfl) (Nat.le_of_ble_eq_true rfl)) rfl) mwR_nil))) (Nat.le_of_ble_eq_true rfl))
theorem row_1 {H:Hp} {σ:L2.St} {t:Str} {v2 v3 v4:V} {v5:V} {rs:RowT} (s1:σ[1]?=some (some (.str t))) (s2:σ[2]?=some (some v2)) (s3:σ[3]?=some (some v3)) (s4:σ[4]?=some (some v4)) (h2:WP (partW t) H v2) (h3:WP (eightW t) H v3) (h4:WP blockW H v4) (s5:σ[5]?=some (some v5)) (h5:RsP rs H v5) (hl:rs.length≤900):Mkw H σ (tOp zCatL (yVar 5) (tLst (tCons (tTup (tCons (tOp zCatL (tOp zCatL (tOp zRepL (tLst (tCons (tC (.str "(")) tNil)) (tC (.int 11))) (yVar 2)) (tOp zRepL (tLst (tCons (tC (.str ")")) tNil)) (tC (.int 11)))) (tCons (tC (.int 10)) tNil))) (tCons (tTup (tCons (tOp zCatL (tOp zRepL (tLst (tCons (tC (.str "not")) tNil)) (tC (.int 10))) (yVar 2)) (tCons (tC .non) tNil))) (tCons (tTup (tCons (tOp zCatL (tOp zRepL (tLst (tCons (tC (.str "not")) tNil)) (tC (.int 11))) (yVar 2)) (tCons (tC (.int 10)) tNil))) tNil))))) (RsP (rs++rowsB t)):=
 mw_rcat (mw_varR s5 h5) (mw_rows (mwR_cons (mw_row (mw_cat (mw_cat (mw_rep' 11 rfl (mw_words (mwS_c mwS_nil) (Nat.le_of_ble_eq_true rfl)) (Nat.le_of_ble_eq_true rfl) (Nat.le_of_ble_eq_true rfl) rfl) (mw_var s2 h2) (Nat.le_of_ble_eq_true rfl)) (mw_rep' 11 rfl (mw_words (mwS_c mwS_nil) (Nat.le_of_ble_eq_true rfl)) (Nat.le_of_ble_eq_true rfl) (Nat.le_of_ble_eq_true rfl) rfl) (Nat.le_of_ble_eq_true rfl)) rfl) (mwR_cons (mw_row (mw_cat (mw_rep' 10 rfl (mw_words (mwS_c mwS_nil) (Nat.le_of_ble_eq_true rfl)) (Nat.le_of_ble_eq_true rfl) (Nat.le_of_ble_eq_true rfl) rfl) (mw_var s2 h2) (Nat.le_of_ble_eq_true rfl)) rfl) (mwR_cons (mw_row (mw_cat (mw_rep' 11 rfl (mw_words (mwS_c mwS_nil) (Nat.le_of_ble_eq_true rfl)) (Nat.le_of_ble_eq_true rfl) (Nat.le_of_ble_eq_true rfl) rfl) (mw_var s2 h2) (Nat.le_of_ble_eq_true rfl)) rfl) mwR_nil))) (Nat.le_of_ble_eq_true rfl)) (Nat.le_trans (Nat.add_le_add_right hl _) (Nat.le_of_ble_eq_true rfl))
theorem row_2 {H:Hp} {σ:L2.St} {K:Kf} {t:Str} {v2 v3 v4:V} {v5:V} {rs:RowT} (s1:σ[1]?=some (some (.str t))) (s2:σ[2]?=some (some v2)) (s3:σ[3]?=some (some v3)) (s4:σ[4]?=some (some v4)) (h2:WP (partW t) H v2) (h3:WP (eightW t) H v3) (h4:WP blockW H v4) (s5:σ[5]?=some (some v5)) (h5:RsP rs H v5) (hl:rs.length≤900):Mkw H σ (tOp zCatL (yVar 5) (tLst (tCons (tTup (tCons (yVar 4) (tCons (tC .non) tNil))) (tCons (tTup (tCons (tOp zCatL (tOp zCatL (tLst (tCons (tC (.str "some")) (tCons (tC (.str "z")) (tCons (tC (.str "(")) tNil)))) (yVar 4)) (tLst (tCons (tC (.str ")")) tNil))) (tCons (tC (.int 3)) tNil))) (tCons (tTup (tCons (tOp zCatL (tLst (tCons (tC (.str "all")) (tCons (tC (.str "x")) (tCons (tC (.str "x")) tNil)))) (tSl (zSlL K) (yVar 4) (tPart (tC (.int 3))) tNoPart)) (tCons (tC (.int 2)) tNil))) tNil))))) (RsP (rs++rowsC)):=
 mw_rcat (mw_varR s5 h5) (mw_rows (mwR_cons (mw_row (mw_var s4 h4) rfl) (mwR_cons (mw_row (mw_cat (mw_cat (mw_words (mwS_c (mwS_c (mwS_c mwS_nil))) (Nat.le_of_ble_eq_true rfl)) (mw_var s4 h4) (Nat.le_of_ble_eq_true rfl)) (mw_words (mwS_c mwS_nil) (Nat.le_of_ble_eq_true rfl)) (Nat.le_of_ble_eq_true rfl)) rfl) (mwR_cons (mw_row (mw_cat (mw_words (mwS_c (mwS_c (mwS_c mwS_nil))) (Nat.le_of_ble_eq_true rfl)) (mw_cut (mw_var s4 h4)) (Nat.le_of_ble_eq_true rfl)) rfl) mwR_nil))) (Nat.le_of_ble_eq_true rfl)) (Nat.le_trans (Nat.add_le_add_right hl _) (Nat.le_of_ble_eq_true rfl))
theorem row_3 {H:Hp} {σ:L2.St} {t:Str} {v2 v3 v4:V} {v5:V} {rs:RowT} (s1:σ[1]?=some (some (.str t))) (s2:σ[2]?=some (some v2)) (s3:σ[3]?=some (some v3)) (s4:σ[4]?=some (some v4)) (h2:WP (partW t) H v2) (h3:WP (eightW t) H v3) (h4:WP blockW H v4) (s5:σ[5]?=some (some v5)) (h5:RsP rs H v5) (hl:rs.length≤900):Mkw H σ (tOp zCatL (yVar 5) (tLst (tCons (tTup (tCons (tOp zCatL (tOp zRepL (tOp zCatL (yVar 4) (tLst (tCons (tC (.str "and")) tNil))) (tC (.int 2))) (yVar 4)) (tCons (tC .non) tNil))) (tCons (tTup (tCons (tOp zCatL (tOp zRepL (tOp zCatL (yVar 4) (tLst (tCons (tC (.str "and")) tNil))) (tC (.int 3))) (yVar 4)) (tCons (tC (.int 27)) tNil))) tNil)))) (RsP (rs++rowsD)):=
 mw_rcat (mw_varR s5 h5) (mw_rows (mwR_cons (mw_row (mw_cat (mw_rep' 2 rfl (mw_cat (mw_var s4 h4) (mw_words (mwS_c mwS_nil) (Nat.le_of_ble_eq_true rfl)) (Nat.le_of_ble_eq_true rfl)) (Nat.le_of_ble_eq_true rfl) (Nat.le_of_ble_eq_true rfl) rfl) (mw_var s4 h4) (Nat.le_of_ble_eq_true rfl)) rfl) (mwR_cons (mw_row (mw_cat (mw_rep' 3 rfl (mw_cat (mw_var s4 h4) (mw_words (mwS_c mwS_nil) (Nat.le_of_ble_eq_true rfl)) (Nat.le_of_ble_eq_true rfl)) (Nat.le_of_ble_eq_true rfl) (Nat.le_of_ble_eq_true rfl) rfl) (mw_var s4 h4) (Nat.le_of_ble_eq_true rfl)) rfl) mwR_nil)) (Nat.le_of_ble_eq_true rfl)) (Nat.le_trans (Nat.add_le_add_right hl _) (Nat.le_of_ble_eq_true rfl))
theorem row_4 {H:Hp} {σ:L2.St} {K:Kf} {t:Str} {v2 v3 v4:V} {v5:V} {rs:RowT} (s1:σ[1]?=some (some (.str t))) (s2:σ[2]?=some (some v2)) (s3:σ[3]?=some (some v3)) (s4:σ[4]?=some (some v4)) (h2:WP (partW t) H v2) (h3:WP (eightW t) H v3) (h4:WP blockW H v4) (s5:σ[5]?=some (some v5)) (h5:RsP rs H v5) (hl:rs.length≤900):Mkw H σ (tOp zCatL (yVar 5) (tLst (tCons (tTup (tCons (tOp zCatL (tLst (tCons (tC (.str "some")) (tCons (tC (.str "x")) (tCons (tC (.str "y")) (tCons (tC (.str "z")) tNil))))) (tSl (zSlL K) (yVar 4) (tPart (tC (.int 3))) tNoPart)) (tCons (tC .non) tNil))) (tCons (tTup (tCons (tOp zCatL (tLst (tCons (tC (.str "some")) (tCons (tC (.str "x")) (tCons (tC (.str "y")) (tCons (tC (.str "z")) (tCons (tC (.str "w")) tNil)))))) (tSl (zSlL K) (yVar 4) (tPart (tC (.int 3))) tNoPart)) (tCons (tC (.int 4)) tNil))) tNil)))) (RsP (rs++rowsE)):=
 mw_rcat (mw_varR s5 h5) (mw_rows (mwR_cons (mw_row (mw_cat (mw_words (mwS_c (mwS_c (mwS_c (mwS_c mwS_nil)))) (Nat.le_of_ble_eq_true rfl)) (mw_cut (mw_var s4 h4)) (Nat.le_of_ble_eq_true rfl)) rfl) (mwR_cons (mw_row (mw_cat (mw_words (mwS_c (mwS_c (mwS_c (mwS_c (mwS_c mwS_nil))))) (Nat.le_of_ble_eq_true rfl)) (mw_cut (mw_var s4 h4)) (Nat.le_of_ble_eq_true rfl)) rfl) mwR_nil)) (Nat.le_of_ble_eq_true rfl)) (Nat.le_trans (Nat.add_le_add_right hl _) (Nat.le_of_ble_eq_true rfl))
theorem row_5 {H:Hp} {σ:L2.St} {t:Str} {v2 v3 v4:V} {v5:V} {rs:RowT} (s1:σ[1]?=some (some (.str t))) (s2:σ[2]?=some (some v2)) (s3:σ[3]?=some (some v3)) (s4:σ[4]?=some (some v4)) (h2:WP (partW t) H v2) (h3:WP (eightW t) H v3) (h4:WP blockW H v4) (s5:σ[5]?=some (some v5)) (h5:RsP rs H v5) (hl:rs.length≤900):Mkw H σ (tOp zCatL (yVar 5) (tLst (tCons (tTup (tCons (tLst (tCons (tC (.str "x")) (tCons (tC (.str "filled")) (tCons (yVar 1) tNil)))) (tCons (tC (.int 0)) tNil))) (tCons (tTup (tCons (tLst (tCons (tC (.str "here")) (tCons (tC (.str "ahead")) (tCons (tC (.str "x")) tNil)))) (tCons (tC (.int 2)) tNil))) (tCons (tTup (tCons (tLst (tCons (tC (.str "here")) (tCons (tC (.str "filled")) (tCons (tC (.str "strange")) tNil)))) (tCons (tC (.int 2)) tNil))) tNil))))) (RsP (rs++rowsF t)):=
 mw_rcat (mw_varR s5 h5) (mw_rows (mwR_cons (mw_row (mw_words (mwS_c (mwS_c (mwS_v s1 mwS_nil))) (Nat.le_of_ble_eq_true rfl)) rfl) (mwR_cons (mw_row (mw_words (mwS_c (mwS_c (mwS_c mwS_nil))) (Nat.le_of_ble_eq_true rfl)) rfl) (mwR_cons (mw_row (mw_words (mwS_c (mwS_c (mwS_c mwS_nil))) (Nat.le_of_ble_eq_true rfl)) rfl) mwR_nil))) (Nat.le_of_ble_eq_true rfl)) (Nat.le_trans (Nat.add_le_add_right hl _) (Nat.le_of_ble_eq_true rfl))
theorem row_6 {H:Hp} {σ:L2.St} {t:Str} {v2 v3 v4:V} {v5:V} {rs:RowT} (s1:σ[1]?=some (some (.str t))) (s2:σ[2]?=some (some v2)) (s3:σ[3]?=some (some v3)) (s4:σ[4]?=some (some v4)) (h2:WP (partW t) H v2) (h3:WP (eightW t) H v3) (h4:WP blockW H v4) (s5:σ[5]?=some (some v5)) (h5:RsP rs H v5) (hl:rs.length≤900):Mkw H σ (tOp zCatL (yVar 5) (tLst (tCons (tTup (tCons (tOp zCatL (yVar 4) (tLst (tCons (tC (.str "and")) (tCons (tC (.str "x")) (tCons (tC (.str "filled")) (tCons (yVar 1) tNil)))))) (tCons (tC (.int 9)) tNil))) (tCons (tTup (tCons (tLst (tCons (tC (.str "here")) (tCons (tC (.str "has")) (tCons (yVar 1) tNil)))) (tCons (tC (.int 1)) tNil))) (tCons (tTup (tCons (tOp zCatL (yVar 2) (tLst (tCons (tC (.str ")")) tNil))) (tCons (tC (.int 3)) tNil))) tNil))))) (RsP (rs++rowsG t)):=
 mw_rcat (mw_varR s5 h5) (mw_rows (mwR_cons (mw_row (mw_cat (mw_var s4 h4) (mw_words (mwS_c (mwS_c (mwS_c (mwS_v s1 mwS_nil)))) (Nat.le_of_ble_eq_true rfl)) (Nat.le_of_ble_eq_true rfl)) rfl) (mwR_cons (mw_row (mw_words (mwS_c (mwS_c (mwS_v s1 mwS_nil))) (Nat.le_of_ble_eq_true rfl)) rfl) (mwR_cons (mw_row (mw_cat (mw_var s2 h2) (mw_words (mwS_c mwS_nil) (Nat.le_of_ble_eq_true rfl)) (Nat.le_of_ble_eq_true rfl)) rfl) mwR_nil))) (Nat.le_of_ble_eq_true rfl)) (Nat.le_trans (Nat.add_le_add_right hl _) (Nat.le_of_ble_eq_true rfl))
theorem row_7 {H:Hp} {σ:L2.St} {t:Str} {v2 v3 v4:V} {v5:V} {rs:RowT} (s1:σ[1]?=some (some (.str t))) (s2:σ[2]?=some (some v2)) (s3:σ[3]?=some (some v3)) (s4:σ[4]?=some (some v4)) (h2:WP (partW t) H v2) (h3:WP (eightW t) H v3) (h4:WP blockW H v4) (s5:σ[5]?=some (some v5)) (h5:RsP rs H v5) (hl:rs.length≤900):Mkw H σ (tOp zCatL (yVar 5) (tLst (tCons (tTup (tCons (tLst (tCons (tC (.str "here")) tNil)) (tCons (tC (.int 1)) tNil))) (tCons (tTup (tCons (tLst (tCons (tC (.str "not")) tNil)) (tCons (tC (.int 1)) tNil))) (tCons (tTup (tCons (tLst (tCons (tC (.str "all")) (tCons (tC (.str "x")) tNil))) (tCons (tC (.int 2)) tNil))) (tCons (tTup (tCons (tLst (tCons (tC (.str "all")) (tCons (tC (.str "here")) (tCons (tC (.str "(")) tNil)))) (tCons (tC (.int 1)) tNil))) (tCons (tTup (tCons (tLst (tCons (tC (.str "all")) (tCons (tC (.str "(")) tNil))) (tCons (tC (.int 1)) tNil))) tNil))))))) (RsP (rs++rowsH)):=
 mw_rcat (mw_varR s5 h5) (mw_rows (mwR_cons (mw_row (mw_words (mwS_c mwS_nil) (Nat.le_of_ble_eq_true rfl)) rfl) (mwR_cons (mw_row (mw_words (mwS_c mwS_nil) (Nat.le_of_ble_eq_true rfl)) rfl) (mwR_cons (mw_row (mw_words (mwS_c (mwS_c mwS_nil)) (Nat.le_of_ble_eq_true rfl)) rfl) (mwR_cons (mw_row (mw_words (mwS_c (mwS_c (mwS_c mwS_nil))) (Nat.le_of_ble_eq_true rfl)) rfl) (mwR_cons (mw_row (mw_words (mwS_c (mwS_c mwS_nil)) (Nat.le_of_ble_eq_true rfl)) rfl) mwR_nil))))) (Nat.le_of_ble_eq_true rfl)) (Nat.le_trans (Nat.add_le_add_right hl _) (Nat.le_of_ble_eq_true rfl))
theorem row_8 {H:Hp} {σ:L2.St} {t:Str} {v2 v3 v4:V} {v5:V} {rs:RowT} (s1:σ[1]?=some (some (.str t))) (s2:σ[2]?=some (some v2)) (s3:σ[3]?=some (some v3)) (s4:σ[4]?=some (some v4)) (h2:WP (partW t) H v2) (h3:WP (eightW t) H v3) (h4:WP blockW H v4) (s5:σ[5]?=some (some v5)) (h5:RsP rs H v5) (hl:rs.length≤900):Mkw H σ (tOp zCatL (yVar 5) (tLst (tCons (tTup (tCons (tLst (tCons (tC (.str "all")) (tCons (tC (.str "x")) (tCons (tC (.str "(")) (tCons (tC (.str ")")) tNil))))) (tCons (tC (.int 3)) tNil))) (tCons (tTup (tCons (tOp zCatL (tOp zCatL (tOp zCatL (tOp zRepL (tLst (tCons (tC (.str "not")) tNil)) (tC (.int 9))) (tLst (tCons (tC (.str "(")) (tCons (tC (.str "(")) tNil)))) (yVar 2)) (tLst (tCons (tC (.str ")")) (tCons (tC (.str ")")) tNil)))) (tCons (tC (.int 10)) tNil))) (tCons (tTup (tCons (tLst (tCons (tC (.str "")) tNil)) (tCons (tC (.int 0)) tNil))) tNil))))) (RsP (rs++rowsI t)):=
 mw_rcat (mw_varR s5 h5) (mw_rows (mwR_cons (mw_row (mw_words (mwS_c (mwS_c (mwS_c (mwS_c mwS_nil)))) (Nat.le_of_ble_eq_true rfl)) rfl) (mwR_cons (mw_row (mw_cat (mw_cat (mw_cat (mw_rep' 9 rfl (mw_words (mwS_c mwS_nil) (Nat.le_of_ble_eq_true rfl)) (Nat.le_of_ble_eq_true rfl) (Nat.le_of_ble_eq_true rfl) rfl) (mw_words (mwS_c (mwS_c mwS_nil)) (Nat.le_of_ble_eq_true rfl)) (Nat.le_of_ble_eq_true rfl)) (mw_var s2 h2) (Nat.le_of_ble_eq_true rfl)) (mw_words (mwS_c (mwS_c mwS_nil)) (Nat.le_of_ble_eq_true rfl)) (Nat.le_of_ble_eq_true rfl)) rfl) (mwR_cons (mw_row (mw_words (mwS_c mwS_nil) (Nat.le_of_ble_eq_true rfl)) rfl) mwR_nil))) (Nat.le_of_ble_eq_true rfl)) (Nat.le_trans (Nat.add_le_add_right hl _) (Nat.le_of_ble_eq_true rfl))
theorem row_deep {H:Hp} {σ:L2.St} {t:Str} {v2 v3 v4:V} (s1:σ[1]?=some (some (.str t))) (s2:σ[2]?=some (some v2)) (s3:σ[3]?=some (some v3)) (s4:σ[4]?=some (some v4)) (h2:WP (partW t) H v2) (h3:WP (eightW t) H v3) (h4:WP blockW H v4):Mkw H σ (tOp zCatL (tOp zCatL (tOp zCatL (tLst (tCons (tC (.str "all")) (tCons (tC (.str "x")) (tCons (tC (.str "(")) tNil)))) (tOp zRepL (tLst (tCons (tC (.str "(")) tNil)) (tC (.int 10)))) (tLst (tCons (tC (.str "x")) (tCons (tC (.str "is")) (tCons (tC (.str "x")) tNil))))) (tOp zRepL (tLst (tCons (tC (.str ")")) tNil)) (tC (.int 11)))) (WP deepW):=
 (mw_cat (mw_cat (mw_cat (mw_words (mwS_c (mwS_c (mwS_c mwS_nil))) (Nat.le_of_ble_eq_true rfl)) (mw_rep' 10 rfl (mw_words (mwS_c mwS_nil) (Nat.le_of_ble_eq_true rfl)) (Nat.le_of_ble_eq_true rfl) (Nat.le_of_ble_eq_true rfl) rfl) (Nat.le_of_ble_eq_true rfl)) (mw_words (mwS_c (mwS_c (mwS_c mwS_nil))) (Nat.le_of_ble_eq_true rfl)) (Nat.le_of_ble_eq_true rfl)) (mw_rep' 11 rfl (mw_words (mwS_c mwS_nil) (Nat.le_of_ble_eq_true rfl)) (Nat.le_of_ble_eq_true rfl) (Nat.le_of_ble_eq_true rfl) rfl) (Nat.le_of_ble_eq_true rfl))
theorem row_10 {H:Hp} {σ:L2.St} {t:Str} {v2 v3 v4:V} {v5:V} {rs:RowT} {v6:V} (s1:σ[1]?=some (some (.str t))) (s2:σ[2]?=some (some v2)) (s3:σ[3]?=some (some v3)) (s4:σ[4]?=some (some v4)) (h2:WP (partW t) H v2) (h3:WP (eightW t) H v3) (h4:WP blockW H v4) (s5:σ[5]?=some (some v5)) (h5:RsP rs H v5) (hl:rs.length≤900) (s6:σ[6]?=some (some v6)) (h6:WP deepW H v6):Mkw H σ (tOp zCatL (yVar 5) (tLst (tCons (tTup (tCons (yVar 6) (tCons (tC .non) tNil))) (tCons (tTup (tCons (tOp zCatL (tLst (tCons (tC (.str "not")) tNil)) (yVar 6)) (tCons (tC (.int 13)) tNil))) (tCons (tTup (tCons (tOp zCatL (yVar 3) (tLst (tCons (tC (.str "and")) (tCons (tC (.str "not")) (tCons (tC (.str "(")) (tCons (tC (.str "here")) tNil)))))) (tCons (tC (.int 34)) tNil))) tNil))))) (RsP (rs++rowsJ t)):=
 mw_rcat (mw_varR s5 h5) (mw_rows (mwR_cons (mw_row (mw_var s6 h6) rfl) (mwR_cons (mw_row (mw_cat (mw_words (mwS_c mwS_nil) (Nat.le_of_ble_eq_true rfl)) (mw_var s6 h6) (Nat.le_of_ble_eq_true rfl)) rfl) (mwR_cons (mw_row (mw_cat (mw_var s3 h3) (mw_words (mwS_c (mwS_c (mwS_c (mwS_c mwS_nil)))) (Nat.le_of_ble_eq_true rfl)) (Nat.le_of_ble_eq_true rfl)) rfl) mwR_nil))) (Nat.le_of_ble_eq_true rfl)) (Nat.le_trans (Nat.add_le_add_right hl _) (Nat.le_of_ble_eq_true rfl))
theorem row_11 {H:Hp} {σ:L2.St} {t:Str} {v2 v3 v4:V} {v5:V} {rs:RowT} (s1:σ[1]?=some (some (.str t))) (s2:σ[2]?=some (some v2)) (s3:σ[3]?=some (some v3)) (s4:σ[4]?=some (some v4)) (h2:WP (partW t) H v2) (h3:WP (eightW t) H v3) (h4:WP blockW H v4) (s5:σ[5]?=some (some v5)) (h5:RsP rs H v5) (hl:rs.length≤900):Mkw H σ (tOp zCatL (yVar 5) (tLst (tCons (tTup (tCons (tOp zCatL (yVar 3) (tLst (tCons (tC (.str "or")) (tCons (tC (.str "all")) (tCons (tC (.str "x")) (tCons (tC (.str "(")) (tCons (tC (.str "x")) tNil))))))) (tCons (tC (.int 35)) tNil))) tNil))) (RsP (rs++rowsK t)):=
 mw_rcat (mw_varR s5 h5) (mw_rows (mwR_cons (mw_row (mw_cat (mw_var s3 h3) (mw_words (mwS_c (mwS_c (mwS_c (mwS_c (mwS_c mwS_nil))))) (Nat.le_of_ble_eq_true rfl)) (Nat.le_of_ble_eq_true rfl)) rfl) mwR_nil) (Nat.le_of_ble_eq_true rfl)) (Nat.le_trans (Nat.add_le_add_right hl _) (Nat.le_of_ble_eq_true rfl))
theorem row_12 {H:Hp} {σ:L2.St} {K:Kf} {t:Str} {v2 v3 v4:V} {v5:V} {rs:RowT} (s1:σ[1]?=some (some (.str t))) (s2:σ[2]?=some (some v2)) (s3:σ[3]?=some (some v3)) (s4:σ[4]?=some (some v4)) (h2:WP (partW t) H v2) (h3:WP (eightW t) H v3) (h4:WP blockW H v4) (s5:σ[5]?=some (some v5)) (h5:RsP rs H v5) (hl:rs.length≤900):Mkw H σ (tOp zCatL (yVar 5) (tLst (tCons (tTup (tCons (tBM K "str" zSplit (tC (.str "all x ( x is x ) and some y ( x is y )")) (tCons (tC (.str " ")) tNil)) (tCons (tC (.int 11)) tNil))) tNil))) (RsP (rs++rowsL)):=
 mw_rcat (mw_varR s5 h5) (mw_rows (mwR_cons (mw_row (mw_split (Nat.le_of_ble_eq_true rfl) (by decide+kernel)) rfl) mwR_nil) (Nat.le_of_ble_eq_true rfl)) (Nat.le_trans (Nat.add_le_add_right hl _) (Nat.le_of_ble_eq_true rfl))
theorem row_13 {H:Hp} {σ:L2.St} {K:Kf} {t:Str} {v2 v3 v4:V} {v5:V} {rs:RowT} (s1:σ[1]?=some (some (.str t))) (s2:σ[2]?=some (some v2)) (s3:σ[3]?=some (some v3)) (s4:σ[4]?=some (some v4)) (h2:WP (partW t) H v2) (h3:WP (eightW t) H v3) (h4:WP blockW H v4) (s5:σ[5]?=some (some v5)) (h5:RsP rs H v5) (hl:rs.length≤900):Mkw H σ (tOp zCatL (yVar 5) (tLst (tCons (tTup (tCons (tBM K "str" zSplit (tBM K "str" (zJoin K) (tC (.str " and ")) (tCons (tOp zRepL (tLst (tCons (tC (.str "not not ( here is here )")) tNil)) (tC (.int 5))) tNil)) (tCons (tC (.str " ")) tNil)) (tCons (tC .non) tNil))) tNil))) (RsP (rs++rowsM)):=
 mw_rcat (mw_varR s5 h5) (mw_rows (mwR_cons (mw_row (mw_sj (mw_rep' 5 rfl (mw_words (mwS_c mwS_nil) (Nat.le_of_ble_eq_true rfl)) (Nat.le_of_ble_eq_true rfl) (Nat.le_of_ble_eq_true rfl) rfl) (Nat.le_of_ble_eq_true rfl) (Nat.le_of_ble_eq_true rfl) (by decide+kernel)) rfl) mwR_nil) (Nat.le_of_ble_eq_true rfl)) (Nat.le_trans (Nat.add_le_add_right hl _) (Nat.le_of_ble_eq_true rfl))
section
variable {K:Kf} {vs:List V} {H:Hp} {Q:VK} {E:XK}
theorem len_hand_right (h:sp_hand_right K vs H Q E):vs.length=1:=by
 obtain⟨_,_,rfl,_⟩:=h
 rfl
def N_hand_right:List Str:= ["_law_tracks","_law_track","_law_part","_law_eight","_law_block","_law_rows","_law_deep","_law_word","_law_words","_law_due"]
def t_hand_right (K:Kf) (E:XK):TS:=
 (tSeq (tAsg (tOp (zIxL K) (yVar 0) (tC (.int 0))) (gName 1))
    (tSeq (tAsg (tLst (tCons (tC (.str "here")) (tCons (tC (.str "filled")) (tCons (yVar 1) tNil)))) (gName 2))
    (tSeq (yPar 3 4 (tCons (tOp zCatL (tOp zRepL (tOp zCatL (yVar 2) (tLst (tCons (tC (.str "and")) tNil))) (tC (.int 7))) (yVar 2)) (tCons (tLst (tCons (tC (.str "all")) (tCons (tC (.str "x")) (tCons (tC (.str "y")) (tCons (tC (.str "(")) (tCons (tC (.str "x")) (tCons (tC (.str "ahead")) (tCons (tC (.str "y")) (tCons (tC (.str ")")) tNil))))))))) tNil)))
    (tSeq (tAsg (tLst (tCons (tTup (tCons (yVar 3) (tCons (tC .non) tNil))) (tCons (tTup (tCons (tOp zCatL (tOp zCatL (yVar 3) (tLst (tCons (tC (.str "or")) tNil))) (yVar 2)) (tCons (tC (.int 32)) tNil))) (tCons (tTup (tCons (tOp zCatL (tOp zCatL (tOp zRepL (tLst (tCons (tC (.str "(")) tNil)) (tC (.int 10))) (yVar 2)) (tOp zRepL (tLst (tCons (tC (.str ")")) tNil)) (tC (.int 10)))) (tCons (tC .non) tNil))) tNil)))) (gName 5))
    (tSeq (tAsg (tOp zCatL (yVar 5) (tLst (tCons (tTup (tCons (tOp zCatL (tOp zCatL (tOp zRepL (tLst (tCons (tC (.str "(")) tNil)) (tC (.int 11))) (yVar 2)) (tOp zRepL (tLst (tCons (tC (.str ")")) tNil)) (tC (.int 11)))) (tCons (tC (.int 10)) tNil))) (tCons (tTup (tCons (tOp zCatL (tOp zRepL (tLst (tCons (tC (.str "not")) tNil)) (tC (.int 10))) (yVar 2)) (tCons (tC .non) tNil))) (tCons (tTup (tCons (tOp zCatL (tOp zRepL (tLst (tCons (tC (.str "not")) tNil)) (tC (.int 11))) (yVar 2)) (tCons (tC (.int 10)) tNil))) tNil))))) (gName 5))
    (tSeq (tAsg (tOp zCatL (yVar 5) (tLst (tCons (tTup (tCons (yVar 4) (tCons (tC .non) tNil))) (tCons (tTup (tCons (tOp zCatL (tOp zCatL (tLst (tCons (tC (.str "some")) (tCons (tC (.str "z")) (tCons (tC (.str "(")) tNil)))) (yVar 4)) (tLst (tCons (tC (.str ")")) tNil))) (tCons (tC (.int 3)) tNil))) (tCons (tTup (tCons (tOp zCatL (tLst (tCons (tC (.str "all")) (tCons (tC (.str "x")) (tCons (tC (.str "x")) tNil)))) (tSl (zSlL K) (yVar 4) (tPart (tC (.int 3))) tNoPart)) (tCons (tC (.int 2)) tNil))) tNil))))) (gName 5))
    (tSeq (tAsg (tOp zCatL (yVar 5) (tLst (tCons (tTup (tCons (tOp zCatL (tOp zRepL (tOp zCatL (yVar 4) (tLst (tCons (tC (.str "and")) tNil))) (tC (.int 2))) (yVar 4)) (tCons (tC .non) tNil))) (tCons (tTup (tCons (tOp zCatL (tOp zRepL (tOp zCatL (yVar 4) (tLst (tCons (tC (.str "and")) tNil))) (tC (.int 3))) (yVar 4)) (tCons (tC (.int 27)) tNil))) tNil)))) (gName 5))
    (tSeq (tAsg (tOp zCatL (yVar 5) (tLst (tCons (tTup (tCons (tOp zCatL (tLst (tCons (tC (.str "some")) (tCons (tC (.str "x")) (tCons (tC (.str "y")) (tCons (tC (.str "z")) tNil))))) (tSl (zSlL K) (yVar 4) (tPart (tC (.int 3))) tNoPart)) (tCons (tC .non) tNil))) (tCons (tTup (tCons (tOp zCatL (tLst (tCons (tC (.str "some")) (tCons (tC (.str "x")) (tCons (tC (.str "y")) (tCons (tC (.str "z")) (tCons (tC (.str "w")) tNil)))))) (tSl (zSlL K) (yVar 4) (tPart (tC (.int 3))) tNoPart)) (tCons (tC (.int 4)) tNil))) tNil)))) (gName 5))
    (tSeq (tAsg (tOp zCatL (yVar 5) (tLst (tCons (tTup (tCons (tLst (tCons (tC (.str "x")) (tCons (tC (.str "filled")) (tCons (yVar 1) tNil)))) (tCons (tC (.int 0)) tNil))) (tCons (tTup (tCons (tLst (tCons (tC (.str "here")) (tCons (tC (.str "ahead")) (tCons (tC (.str "x")) tNil)))) (tCons (tC (.int 2)) tNil))) (tCons (tTup (tCons (tLst (tCons (tC (.str "here")) (tCons (tC (.str "filled")) (tCons (tC (.str "strange")) tNil)))) (tCons (tC (.int 2)) tNil))) tNil))))) (gName 5))
    (tSeq (tAsg (tOp zCatL (yVar 5) (tLst (tCons (tTup (tCons (tOp zCatL (yVar 4) (tLst (tCons (tC (.str "and")) (tCons (tC (.str "x")) (tCons (tC (.str "filled")) (tCons (yVar 1) tNil)))))) (tCons (tC (.int 9)) tNil))) (tCons (tTup (tCons (tLst (tCons (tC (.str "here")) (tCons (tC (.str "has")) (tCons (yVar 1) tNil)))) (tCons (tC (.int 1)) tNil))) (tCons (tTup (tCons (tOp zCatL (yVar 2) (tLst (tCons (tC (.str ")")) tNil))) (tCons (tC (.int 3)) tNil))) tNil))))) (gName 5))
    (tSeq (tAsg (tOp zCatL (yVar 5) (tLst (tCons (tTup (tCons (tLst (tCons (tC (.str "here")) tNil)) (tCons (tC (.int 1)) tNil))) (tCons (tTup (tCons (tLst (tCons (tC (.str "not")) tNil)) (tCons (tC (.int 1)) tNil))) (tCons (tTup (tCons (tLst (tCons (tC (.str "all")) (tCons (tC (.str "x")) tNil))) (tCons (tC (.int 2)) tNil))) (tCons (tTup (tCons (tLst (tCons (tC (.str "all")) (tCons (tC (.str "here")) (tCons (tC (.str "(")) tNil)))) (tCons (tC (.int 1)) tNil))) (tCons (tTup (tCons (tLst (tCons (tC (.str "all")) (tCons (tC (.str "(")) tNil))) (tCons (tC (.int 1)) tNil))) tNil))))))) (gName 5))
    (tSeq (tAsg (tOp zCatL (yVar 5) (tLst (tCons (tTup (tCons (tLst (tCons (tC (.str "all")) (tCons (tC (.str "x")) (tCons (tC (.str "(")) (tCons (tC (.str ")")) tNil))))) (tCons (tC (.int 3)) tNil))) (tCons (tTup (tCons (tOp zCatL (tOp zCatL (tOp zCatL (tOp zRepL (tLst (tCons (tC (.str "not")) tNil)) (tC (.int 9))) (tLst (tCons (tC (.str "(")) (tCons (tC (.str "(")) tNil)))) (yVar 2)) (tLst (tCons (tC (.str ")")) (tCons (tC (.str ")")) tNil)))) (tCons (tC (.int 10)) tNil))) (tCons (tTup (tCons (tLst (tCons (tC (.str "")) tNil)) (tCons (tC (.int 0)) tNil))) tNil))))) (gName 5))
    (tSeq (tAsg (tOp zCatL (tOp zCatL (tOp zCatL (tLst (tCons (tC (.str "all")) (tCons (tC (.str "x")) (tCons (tC (.str "(")) tNil)))) (tOp zRepL (tLst (tCons (tC (.str "(")) tNil)) (tC (.int 10)))) (tLst (tCons (tC (.str "x")) (tCons (tC (.str "is")) (tCons (tC (.str "x")) tNil))))) (tOp zRepL (tLst (tCons (tC (.str ")")) tNil)) (tC (.int 11)))) (gName 6))
    (tSeq (tAsg (tOp zCatL (yVar 5) (tLst (tCons (tTup (tCons (yVar 6) (tCons (tC .non) tNil))) (tCons (tTup (tCons (tOp zCatL (tLst (tCons (tC (.str "not")) tNil)) (yVar 6)) (tCons (tC (.int 13)) tNil))) (tCons (tTup (tCons (tOp zCatL (yVar 3) (tLst (tCons (tC (.str "and")) (tCons (tC (.str "not")) (tCons (tC (.str "(")) (tCons (tC (.str "here")) tNil)))))) (tCons (tC (.int 34)) tNil))) tNil))))) (gName 5))
    (tSeq (tAsg (tOp zCatL (yVar 5) (tLst (tCons (tTup (tCons (tOp zCatL (yVar 3) (tLst (tCons (tC (.str "or")) (tCons (tC (.str "all")) (tCons (tC (.str "x")) (tCons (tC (.str "(")) (tCons (tC (.str "x")) tNil))))))) (tCons (tC (.int 35)) tNil))) tNil))) (gName 5))
    (tSeq (tAsg (tOp zCatL (yVar 5) (tLst (tCons (tTup (tCons (tBM K "str" zSplit (tC (.str "all x ( x is x ) and some y ( x is y )")) (tCons (tC (.str " ")) tNil)) (tCons (tC (.int 11)) tNil))) tNil))) (gName 5))
    (tSeq (tAsg (tOp zCatL (yVar 5) (tLst (tCons (tTup (tCons (tBM K "str" zSplit (tBM K "str" (zJoin K) (tC (.str " and ")) (tCons (tOp zRepL (tLst (tCons (tC (.str "not not ( here is here )")) tNil)) (tC (.int 5))) tNil)) (tCons (tC (.str " ")) tNil)) (tCons (tC .non) tNil))) tNil))) (gName 5))
    (tSeq (tAsg (tOp zCatL (yVar 5) (yLc (jLst K (tOp zCatL (yCall (sp_barred K) E0 tNil) (tLst (tCons (tOp zRepS (tC (.str "q")) (tC (.int 13))) (tCons (tC (.str "A")) (tCons (tC (.str "x1")) tNil)))))) (gName 7) tYes (tTup (tCons (tLst (tCons (tC (.str "all")) (tCons (yVar 7) (tCons (tC (.str "(")) (tCons (tC (.str "here")) (tCons (tC (.str "is")) (tCons (tC (.str "here")) (tCons (tC (.str ")")) tNil)))))))) (tCons (tC (.int 1)) tNil))) [7])) (gName 5))
    (tRet (tOp (zEqD K) (yLc (jLst K (yVar 5)) (gTup K 2 (gCons (gName 8) (gCons (gName 9) gNil))) (yTst (tOp zNe (yCall (sp_bad K) E0 (tCons (yVar 0) (tCons (yVar 8) tNil))) (yVar 9))) (yVar 8) [8,9]) (tLst tNil)))))))))))))))))))))
def barR (x:Str):List Str × Option Nat:=(["all",x,"(","here","is","here",")"],some 1)
theorem a9:repS "q" 13= "qqqqqqqqqqqqq":=by decide+kernel
theorem take_snocR {α:Type} {l:List α} {i:Nat} {x:α} (h:l[i]?=some x):l.take (i+1)=l.take i++ [x]:=by
 rw[List.take_add_one,h]
 rfl
theorem barred_rows {σ:L2.St} {te:TE} (hs:∀(G:Hp) (x:Str) (Q':VK),(∀v G',Ext G G'→(∀D o,G D=some o→RowF D (barR x) G' v)→Q' v G')→te ((wipe σ [7]).set 7 (some (.str x))) G Q')
 (hw:∀x,wipe ((wipe σ [7]).set 7 (some x)) [7]=wipe σ [7]):Mkw H σ (yLc (jLst K (tOp zCatL (yCall (sp_barred K) E0 tNil) (tLst (tCons (tOp zRepS (tC (.str "q")) (tC (.int 13))) (tCons (tC (.str "A")) (tCons (tC (.str "x1")) tNil)))))) (gName 7) tYes te [7]) (RsP rowsN):=by
 intro G Q e0 q
 refine⟨rfl,fun a1 G1 e1 h1=>⟨by decide,by decide,by decide+kernel,(show 3≤sizeLine by decide),fun L nL=> ?_⟩⟩
 have eL:=Ext.new (o:= .lst [.str (repS "q" (13:Int).toNat),.str "A",.str "x1"]) nL
 refine⟨_,_,eL _ _ h1,upd_same,by rw[z8];decide,fun M nM=> ?_⟩
 have eM:=Ext.new (o:= .lst (BARW.map V.str++ [.str (repS "q" (13:Int).toNat),.str "A",.str "x1"])) nM
 have hM:(upd (upd G1 L (.lst [.str (repS "q" (13:Int).toNat),.str "A",.str "x1"])) M (.lst (BARW.map V.str++ [.str (repS "q" (13:Int).toNat),.str "A",.str "x1"]))) M=some (.lst (lastW.map V.str)):=by
  rw[upd_same,show(13:Int).toNat=13 from rfl,a9]
  rfl
 have eAll:=(e1.trans eL).trans eM
 generalize upd (upd G1 L (.lst [.str (repS "q" (13:Int).toNat),.str "A",.str "x1"])) M (.lst (BARW.map V.str++ [.str (repS "q" (13:Int).toNat),.str "A",.str "x1"]))=G3 at*
 refine⟨_,SqL.of hM,fun D nD=>⟨fun k acc G'=>AllR (fun r v=>RowF D r G' v) acc (rowsN.take k)∧Ext G3 G'∧G' D=some (.lst acc),⟨by rw[List.take_zero];exact .nil,Ext.new nD,upd_same⟩,?_,?_,?_⟩⟩
 ·rintro k acc G' hk ⟨c1,c2,c3⟩
  refine⟨SqL.of (c2 _ _ hM),c3,?_⟩
  rw[AllR.len c1,z22,sizeLine_eq]
  have:rowsN.length=38:=rfl
  omega
 ·rintro k x acc G0 G' hk ⟨c1,c2,c3⟩ ⟨eG,hx⟩
  subst eG
  rw[z10] at hx
  obtain⟨y,hy,rfl⟩:=z30.mp hx
  refine⟨hw _,brT rfl (hs _ y _ fun v G4 e4 hf=> ?_)⟩
  have hD:=e4 _ _ c3
  refine⟨hD,?_,(c2.trans e4).mut nD,upd_same⟩
  rw[take_snocR (x:=barR y) (by unfold rowsN;rw[z10,hy];rfl)]
  exact AllR.app (c1.imp fun r v z=>(z.ext e4).mut) (.cons (hf D _ c3).mut .nil)
 ·rintro acc G' ⟨c1,c2,c3⟩
  rw[show(lastW.map V.str).length=rowsN.length from rfl,List.take_length] at c1
  exact q _ _ (eAll.trans c2) ⟨D,acc,rfl,c3,c1.imp fun r v ⟨p,a,z1,z2,z3,_⟩=>⟨p,a,z1,z2,z3⟩⟩
theorem tup2_id {te:TE} {x:V} {σ:L2.St} {G:Hp} {Q':VK} (h:te σ G fun v H1=>2≤sizeLine∧∀p,H1 p=none→Q' (.ref p) (upd H1 p (.tup [v,x]))):tTup (tCons te (tCons (tC x) tNil)) σ G Q':=h
theorem sum_30:∀{ws:List Str},(∀w∈ws,w.length≤30)→(ws.map (·.length)).sum≤ws.length*30
 |[],_=>z34 _
 |a::r,h=>by
  have h1:=h a (z31 ..)
  have h2:=sum_30 fun w hw=>h w (z23 _ hw)
  rw[List.map_cons,List.sum_cons,z27]
  omega
theorem bar_te {σ:L2.St} {G:Hp} {x:Str} {Q':VK} (h7:σ[7]?=some (some (.str x))) (q':∀v G',Ext G G'→(∀D o,G D=some o→RowF D (barR x) G' v)→Q' v G'):
 tTup (tCons (tLst (tCons (tC (.str "all")) (tCons (yVar 7) (tCons (tC (.str "(")) (tCons (tC (.str "here")) (tCons (tC (.str "is")) (tCons (tC (.str "here")) (tCons (tC (.str ")")) tNil)))))))) (tCons (tC (.int 1)) tNil)) σ G Q':=by
 refine tup2_id (mwS_c (mwS_v h7 (mwS_c (mwS_c (mwS_c (mwS_c (mwS_c mwS_nil)))))) G _ ⟨Nat.le_of_ble_eq_true rfl,fun l nl=>⟨(show 2≤sizeLine by decide),fun p np=>q' _ _ ((Ext.new nl).trans (Ext.new np)) fun D o hD=> ?_⟩⟩)
 have e1:=Ext.new (o:= .lst ((["all",x,"(","here","is","here",")"]:List Str).map V.str)) nl
 have h1:(upd G l (.lst ((["all",x,"(","here","is","here",")"]:List Str).map V.str))) l=some (.lst ((["all",x,"(","here","is","here",")"]:List Str).map V.str)):=upd_same
 exact⟨p,l,rfl,upd_same,Ext.new np _ _ h1,fun z=>(by rw[z,e1 _ _ hD] at np;cases np),fun z=>(by rw[z,hD] at nl;cases nl)⟩
theorem ret_eqnil {te:TE} {D:Ends} {σ:L2.St} (h:∀Q:VK,(∀a H',Ext H H'→H' a=some (.lst [])→Q (.ref a) H')→te σ H Q) (q:∀H',Ext H H'→D.rt (.bl true) H'):tRet (tOp (zEqD K) te (tLst tNil)) D σ H:=
 h _ fun a H1 e1 ha=>⟨z35 _,fun p np=>eq_nil (Ext.new np _ _ ha) upd_same (q _ (e1.trans (Ext.new np)))⟩
theorem rows_none {σ:L2.St} {tl:Addr} {ys:List Str} {rs:RowT} {v:V} {te:TE} (F:FS K) (XF:XFs K ERR) (tk:Trk ys) (ht:H tl=some (.lst (ys.map V.str))) (h5:σ[5]?=some (some v)) (rr:RsP rs H v)
 (good:∀r∈rs,badOf ys r.1=r.2∧(r.1.map (·.length)).sum+r.1.length≤2000000) (g:∀x y:V,(((wipe σ [8,9]).set 8 (some x)).set 9 (some y))[0]?=some (some (.ref tl))∧(((wipe σ [8,9]).set 8 (some x)).set 9 (some y))[8]?=some (some x)∧(((wipe σ [8,9]).set 8 (some x)).set 9 (some y))[9]?=some (some y)∧wipe (((wipe σ [8,9]).set 8 (some x)).set 9 (some y)) [8,9]=wipe σ [8,9])
 (q:∀a H',Ext H H'→H' a=some (.lst [])→Q (.ref a) H'):yLc (jLst K (yVar 5)) (gTup K 2 (gCons (gName 8) (gCons (gName 9) gNil))) (yTst (tOp zNe (yCall (sp_bad K) E0 (tCons (yVar 0) (tCons (yVar 8) tNil))) (yVar 9))) te [8,9] σ H Q:=by
 obtain⟨a,xs,rfl,ha,hx⟩:=rr
 dsimp only[yLc,jLst]
 refine yVar_at (v:= .ref a) h5 ⟨xs,SqL.of ha,fun D nD=> ?_⟩
 refine lc_empty nD (fun H' e=>SqL.of (e _ _ ha)) (fun k x G G' C hk eG hY hC=> ?_) fun H' e d=>q D H' e d
 obtain⟨rfl,hk⟩:=hY
 obtain⟨r,hr,p,w,rfl,hp,hw⟩:=AllR.get hx hk
 obtain⟨g1,g2,g3,g4⟩:=g (.ref w) (dueV r.2)
 obtain⟨b1,b2⟩:=good r hr
 refine⟨p,_,rfl,SqT.of (eG _ _ hp),rfl,_,_,rfl,_,_,rfl,rfl,g4,?_⟩
 dsimp only[yTst,tOp,yCall,tCons,tNil]
 refine yVar_at g1 (yVar_at g2 ⟨tl,w,ys,r.1,rfl,F,XF,tk,eG _ _ ht,eG _ _ hw,b2,fun G2 e2=>yVar_at g3 ?_⟩)
 rw[b1]
 unfold zNe
 rw[due_ne,decide_eq_true rfl]
 exact hC _ _ e2
theorem pure_hand_right (h:sp_hand_right K vs H Q E):t_hand_right K E (dEnd Q) (start N_hand_right vs) H:=by
 obtain⟨tl,ys,rfl,F,XF,tk,nm,ht,q⟩:=h
 obtain⟨t,r,rfl⟩:∃t r,ys=t::r:=by
  cases ys with
  |nil=>exact absurd tk.n1 (by decide)
  |cons t r=>exact⟨t,r,rfl⟩
 unfold t_hand_right
 refine seq_id ⟨_,.str t,.inl (SqL.of ht),atI_nat (j:=0) rfl,?_⟩
 refine seq_mwS (P:=WP (partW t)) (fun v=> [some (.ref tl),some (.str t),some v,none,none,none,none,none,none,none]) (mw_words (mwS_c (mwS_c (mwS_v rfl mwS_nil))) (Nat.le_of_ble_eq_true rfl)) (fun v2 H1 e1 h2=> ?_) (fun _=>rfl)
 refine seq_parS (P:=WP (eightW t)) (R:=WP blockW) (fun v w=> [some (.ref tl),some (.str t),some v2,some v,some w,none,none,none,none,none]) (mw_cat (mw_rep' 7 rfl (mw_cat (mw_var rfl h2) (mw_words (mwS_c mwS_nil) (Nat.le_of_ble_eq_true rfl)) (Nat.le_of_ble_eq_true rfl)) (Nat.le_of_ble_eq_true rfl) (Nat.le_of_ble_eq_true rfl) rfl) (mw_var rfl h2) (Nat.le_of_ble_eq_true rfl)) (fun H' e'=>mw_words (mwS_c (mwS_c (mwS_c (mwS_c (mwS_c (mwS_c (mwS_c (mwS_c mwS_nil)))))))) (Nat.le_of_ble_eq_true rfl)) (fun _ _=>rfl) fun v3 v4 H2 H3 e2 h3 e3 h4=> ?_
 replace h2:=(h2.ext e2).ext e3
 replace h3:=h3.ext e3
 have e03:=(e1.trans e2).trans e3
 refine seq_mwS (fun v=> [some (.ref tl),some (.str t),some v2,some v3,some v4,some v,none,none,none,none]) (row_0 rfl rfl rfl rfl h2 h3 h4) (fun vr4 H4 e4 rr4=> ?_) (fun _=>rfl)
 replace h2:=h2.ext e4
 replace h3:=h3.ext e4
 replace h4:=h4.ext e4
 replace e03:=e03.trans e4
 refine seq_mwS (fun v=> [some (.ref tl),some (.str t),some v2,some v3,some v4,some v,none,none,none,none]) (row_1 rfl rfl rfl rfl h2 h3 h4 rfl rr4 (Nat.le_of_ble_eq_true rfl)) (fun vr5 H5 e5 rr5=> ?_) (fun _=>rfl)
 replace h2:=h2.ext e5
 replace h3:=h3.ext e5
 replace h4:=h4.ext e5
 replace e03:=e03.trans e5
 refine seq_mwS (fun v=> [some (.ref tl),some (.str t),some v2,some v3,some v4,some v,none,none,none,none]) (row_2 rfl rfl rfl rfl h2 h3 h4 rfl rr5 (Nat.le_of_ble_eq_true rfl)) (fun vr6 H6 e6 rr6=> ?_) (fun _=>rfl)
 replace h2:=h2.ext e6
 replace h3:=h3.ext e6
 replace h4:=h4.ext e6
 replace e03:=e03.trans e6
 refine seq_mwS (fun v=> [some (.ref tl),some (.str t),some v2,some v3,some v4,some v,none,none,none,none]) (row_3 rfl rfl rfl rfl h2 h3 h4 rfl rr6 (Nat.le_of_ble_eq_true rfl)) (fun vr7 H7 e7 rr7=> ?_) (fun _=>rfl)
 replace h2:=h2.ext e7
 replace h3:=h3.ext e7
 replace h4:=h4.ext e7
 replace e03:=e03.trans e7
 refine seq_mwS (fun v=> [some (.ref tl),some (.str t),some v2,some v3,some v4,some v,none,none,none,none]) (row_4 rfl rfl rfl rfl h2 h3 h4 rfl rr7 (Nat.le_of_ble_eq_true rfl)) (fun vr8 H8 e8 rr8=> ?_) (fun _=>rfl)
 replace h2:=h2.ext e8
 replace h3:=h3.ext e8
 replace h4:=h4.ext e8
 replace e03:=e03.trans e8
 refine seq_mwS (fun v=> [some (.ref tl),some (.str t),some v2,some v3,some v4,some v,none,none,none,none]) (row_5 rfl rfl rfl rfl h2 h3 h4 rfl rr8 (Nat.le_of_ble_eq_true rfl)) (fun vr9 H9 e9 rr9=> ?_) (fun _=>rfl)
 replace h2:=h2.ext e9
 replace h3:=h3.ext e9
 replace h4:=h4.ext e9
 replace e03:=e03.trans e9
 refine seq_mwS (fun v=> [some (.ref tl),some (.str t),some v2,some v3,some v4,some v,none,none,none,none]) (row_6 rfl rfl rfl rfl h2 h3 h4 rfl rr9 (Nat.le_of_ble_eq_true rfl)) (fun vr10 H10 e10 rr10=> ?_) (fun _=>rfl)
 replace h2:=h2.ext e10
 replace h3:=h3.ext e10
 replace h4:=h4.ext e10
 replace e03:=e03.trans e10
 refine seq_mwS (fun v=> [some (.ref tl),some (.str t),some v2,some v3,some v4,some v,none,none,none,none]) (row_7 rfl rfl rfl rfl h2 h3 h4 rfl rr10 (Nat.le_of_ble_eq_true rfl)) (fun vr11 H11 e11 rr11=> ?_) (fun _=>rfl)
 replace h2:=h2.ext e11
 replace h3:=h3.ext e11
 replace h4:=h4.ext e11
 replace e03:=e03.trans e11
 refine seq_mwS (fun v=> [some (.ref tl),some (.str t),some v2,some v3,some v4,some v,none,none,none,none]) (row_8 rfl rfl rfl rfl h2 h3 h4 rfl rr11 (Nat.le_of_ble_eq_true rfl)) (fun vr12 H12 e12 rr12=> ?_) (fun _=>rfl)
 replace h2:=h2.ext e12
 replace h3:=h3.ext e12
 replace h4:=h4.ext e12
 replace e03:=e03.trans e12
 refine seq_mwS (fun v=> [some (.ref tl),some (.str t),some v2,some v3,some v4,some vr12,some v,none,none,none]) (row_deep rfl rfl rfl rfl h2 h3 h4) (fun v6 H13 e13 h6=> ?_) (fun _=>rfl)
 have rr13:=rr12.ext e13
 replace h2:=h2.ext e13
 replace h3:=h3.ext e13
 replace h4:=h4.ext e13
 replace e03:=e03.trans e13
 refine seq_mwS (fun v=> [some (.ref tl),some (.str t),some v2,some v3,some v4,some v,some v6,none,none,none]) (row_10 rfl rfl rfl rfl h2 h3 h4 rfl rr13 (Nat.le_of_ble_eq_true rfl) rfl h6) (fun vr14 H14 e14 rr14=> ?_) (fun _=>rfl)
 replace h2:=h2.ext e14
 replace h3:=h3.ext e14
 replace h4:=h4.ext e14
 replace h6:=h6.ext e14
 replace e03:=e03.trans e14
 refine seq_mwS (fun v=> [some (.ref tl),some (.str t),some v2,some v3,some v4,some v,some v6,none,none,none]) (row_11 rfl rfl rfl rfl h2 h3 h4 rfl rr14 (Nat.le_of_ble_eq_true rfl)) (fun vr15 H15 e15 rr15=> ?_) (fun _=>rfl)
 replace h2:=h2.ext e15
 replace h3:=h3.ext e15
 replace h4:=h4.ext e15
 replace h6:=h6.ext e15
 replace e03:=e03.trans e15
 refine seq_mwS (fun v=> [some (.ref tl),some (.str t),some v2,some v3,some v4,some v,some v6,none,none,none]) (row_12 rfl rfl rfl rfl h2 h3 h4 rfl rr15 (Nat.le_of_ble_eq_true rfl)) (fun vr16 H16 e16 rr16=> ?_) (fun _=>rfl)
 replace h2:=h2.ext e16
 replace h3:=h3.ext e16
 replace h4:=h4.ext e16
 replace h6:=h6.ext e16
 replace e03:=e03.trans e16
 refine seq_mwS (fun v=> [some (.ref tl),some (.str t),some v2,some v3,some v4,some v,some v6,none,none,none]) (row_13 rfl rfl rfl rfl h2 h3 h4 rfl rr16 (Nat.le_of_ble_eq_true rfl)) (fun vr17 H17 e17 rr17=> ?_) (fun _=>rfl)
 replace h2:=h2.ext e17
 replace h3:=h3.ext e17
 replace h4:=h4.ext e17
 replace h6:=h6.ext e17
 replace e03:=e03.trans e17
 refine seq_mwS (P:=RsP (((((((((((((rowsA t++rowsB t)++rowsC)++rowsD)++rowsE)++rowsF t)++rowsG t)++rowsH)++rowsI t)++rowsJ t)++rowsK t)++rowsL)++rowsM)++rowsN)) (fun v=> [some (.ref tl),some (.str t),some v2,some v3,some v4,some v,some v6,none,none,none]) (mw_rcat (mw_varR rfl rr17) (barred_rows (fun G x Q' q'=>bar_te rfl q') (fun _=>rfl)) (Nat.le_of_ble_eq_true rfl)) (fun vr18 H18 e18 rr18=> ?_) (fun _=>rfl)
 replace e03:=e03.trans e18
 refine ret_eqnil (fun Q2 q2=>rows_none F XF tk (e03 _ _ ht) rfl rr18 (fun r hr=> ?_) (fun _ _=>⟨rfl,rfl,rfl,rfl⟩) q2) fun H' e=>q H' (e03.trans e)
 obtain⟨b1,b2,b3,b4⟩:=rows_bad (z31 ..) nm r hr
 refine⟨b1,?_⟩
 have:=sum_30 fun w hw=>(b4 w hw).2
 omega
end
def eqTk:STree→STree→Bool
 | .bin k a b,.bin l c d=>decide (k=l)&& (eqTk a c&&eqTk b d)
 | .neg a,.neg c=>eqTk a c
 | .fil x w,.fil y v=>decide (x=y)&&decide (w=v)
 | .cmp k x y,.cmp l u v=>decide (k=l)&& (decide (x=u)&&decide (y=v))
 |_,_=>false
theorem eqTk_ok:∀{a b:STree},eqTk a b=true→a=b
 | .bin k a b,.bin l c d,h=>by
   simp only[eqTk,Bool.and_eq_true,decide_eq_true_eq] at h
   rw[h.1,eqTk_ok h.2.1,eqTk_ok h.2.2]
 | .neg a,.neg c,h=>by
   simp only[eqTk] at h
   rw[eqTk_ok h]
 | .fil x w,.fil y v,h=>by
   simp only[eqTk,Bool.and_eq_true,decide_eq_true_eq] at h
   rw[h.1,h.2]
 | .cmp k x y,.cmp l u v,h=>by
   simp only[eqTk,Bool.and_eq_true,decide_eq_true_eq] at h
   rw[h.1,h.2.1,h.2.2]
def cellT (t:Str):Str:= "here filled " ++t
def rk1 (t:Str):Str:=cellT t++ " or here is here and not here is here"
def rk2 (t:Str):Str:=(("not " ++cellT t)++ " or ")++cellT t
def rk3 (t:Str):Str:=("not here is here and " ++cellT t)++ " or here is here"
def rk4 (t:Str):Str:= "not here ahead here and " ++cellT t
def isHH:STree:= .cmp "is" "here" "here"
def rt1 (t:Str):STree:= .bin "or" (.fil "here" t) (.bin "and" isHH (.neg isHH))
def rt2 (t:Str):STree:= .bin "or" (.neg (.fil "here" t)) (.fil "here" t)
def rt3 (t:Str):STree:= .bin "or" (.bin "and" (.neg isHH) (.fil "here" t)) isHH
def rt4 (t:Str):STree:= .bin "and" (.neg (.cmp "ahead" "here" "here")) (.fil "here" t)
def rdB (trs ws:List Str) (u:STree):Bool:=match swholeOf trs ws ⟨0,8,0,3⟩ with
 | .inl _=>false
 | .inr (v,_)=>eqTk v u
def rkB (t x:Str) (u:STree):Bool:=Behind t (sayWs x)&&rdB [t] (sayWs x) u&&decide (x.length≤200)
theorem ranks_ok:∀t∈NAMES,(rkB t (rk1 t) (rt1 t)&&rkB t (rk2 t) (rt2 t)&&rkB t (rk3 t) (rt3 t)&&rkB t (rk4 t) (rt4 t))=true:=by decide+kernel
theorem rk_read {t x:Str} {u:STree} {ys:List Str} (ht:t∈ys) (hn:∀x∈ys,x∈NAMES) (h:rkB t x u=true):sayOf ys x= .inr u∧x.length≤200:=by
 unfold rkB at h
 simp only[Bool.and_eq_true,decide_eq_true_eq] at h
 obtain⟨⟨h1,h2⟩,h3⟩:=h
 refine⟨?_,h3⟩
 unfold sayOf
 rw[swhole_trs (behind_ok ht hn h1)]
 unfold rdB at h2
 cases hw:swholeOf [t] (sayWs x) ⟨0,8,0,3⟩ with
 |inl n=>rw[hw] at h2;cases h2
 |inr q=>
  obtain⟨v,s⟩:=q
  rw[hw] at h2
  rw[show v=u from eqTk_ok h2]
section
variable {ys ss:List Str} {m:Nat} {f:Str→Nat} {a b:STree} {x:Str}
theorem says_or:saysT ys ss m (.bin "or" a b) f=(saysT ys ss m a f||saysT ys ss m b f):=if_neg (by decide+kernel)
theorem says_and:saysT ys ss m (.bin "and" a b) f=(saysT ys ss m a f&&saysT ys ss m b f):=if_pos rfl
theorem says_neg:saysT ys ss m (.neg a) f= !saysT ys ss m a f:=rfl
theorem says_is:saysT ys ss m (.cmp "is" x x) f=true:=by
 show(if("is":Str)= "ahead" then _ else decide (f x=f x))=true
 rw[if_neg (by decide+kernel)]
 exact decide_eq_true rfl
theorem says_ahead:saysT ys ss m (.cmp "ahead" x x) f=false:=by
 show(if("ahead":Str)= "ahead" then decide (f x<f x) else _)=false
 rw[if_pos rfl]
 exact decide_eq_false (Nat.lt_irrefl _)
end
def rowsR (t:Str) (b:Bool):BrT:=([(rk1 t,b),(rk2 t,true)]++ [(rk3 t,true)])++ [(rk4 t,b)]
theorem rowsR_ok {t:Str} {ys ss:List Str} {m:Nat} {f:Str→Nat} (ht:t∈ys) (hn:∀x∈ys,x∈NAMES):∀r∈rowsR t (saysT ys ss m (.fil "here" t) f),∃u,sayOf ys r.1= .inr u∧saysT ys ss m u f=r.2∧r.1.length≤200:=by
 have h:=ranks_ok t (hn t ht)
 simp only[Bool.and_eq_true] at h
 obtain⟨⟨⟨h1,h2⟩,h3⟩,h4⟩:=h
 intro r hr
 have hr:r=(rk1 t,saysT ys ss m (.fil "here" t) f)∨r=(rk2 t,true)∨r=(rk3 t,true)∨r=(rk4 t,saysT ys ss m (.fil "here" t) f):=by simpa[rowsR] using hr
 rcases hr with rfl|rfl|rfl|rfl
 ·obtain⟨a,b⟩:=rk_read ht hn h1
  refine⟨_,a,?_,b⟩
  show saysT ys ss m (.bin "or" (.fil "here" t) (.bin "and" (.cmp "is" "here" "here") (.neg (.cmp "is" "here" "here")))) f=_
  rw[says_or,says_and,says_neg,says_is]
  cases saysT ys ss m (.fil "here" t) f<;>rfl
 ·obtain⟨a,b⟩:=rk_read ht hn h2
  refine⟨_,a,?_,b⟩
  show saysT ys ss m (.bin "or" (.neg (.fil "here" t)) (.fil "here" t)) f=_
  rw[says_or,says_neg]
  cases saysT ys ss m (.fil "here" t) f<;>rfl
 ·obtain⟨a,b⟩:=rk_read ht hn h3
  refine⟨_,a,?_,b⟩
  show saysT ys ss m (.bin "or" (.bin "and" (.neg (.cmp "is" "here" "here")) (.fil "here" t)) (.cmp "is" "here" "here")) f=_
  rw[says_or,says_and,says_neg,says_is]
  cases saysT ys ss m (.fil "here" t) f<;>rfl
 ·obtain⟨a,b⟩:=rk_read ht hn h4
  refine⟨_,a,?_,b⟩
  show saysT ys ss m (.bin "and" (.neg (.cmp "ahead" "here" "here")) (.fil "here" t)) f=_
  rw[says_and,says_neg,says_ahead]
  cases saysT ys ss m (.fil "here" t) f<;>rfl
def MkT (σ:L2.St) (te:TE) (x:Str) (n:Nat):Prop:=x.length≤n∧∀(H:Hp) (Q:VK),Q (.str x) H→te σ H Q
section
variable {H0 H H':Hp} {σ:L2.St} {te tb td:TE} {ta:TA} {K:Kf} {x y:Str} {n k:Nat} {d:Bool} {rs us:BrT}
theorem mt_c (h:x.length≤n):MkT σ (tC (.str x)) x n:=⟨h,fun _ _ q=>q⟩
theorem mt_v {i:Nat} (h:x.length≤n) (hi:σ[i]?=some (some (.str x))):MkT σ (yVar i) x n:=⟨h,fun _ _ q=>yVar_at hi q⟩
theorem mt_add (h:MkT σ te x n) (g:MkT σ tb y k) (hl:n+k≤10000):MkT σ (tOp zAdd te tb) (x++y) (n+k):=by
 have h1:=h.1
 have g1:=g.1
 refine⟨by rw[z15];omega,fun H Q q=>h.2 H _ (g.2 H _ ⟨by rw[sizeLine_eq];omega,q⟩)⟩
theorem mb_row (h:MkT σ te x n) (g:∀(H:Hp) (Q:VK),Q (.bl d) H→td σ H Q):Mkw H0 σ (tTup (tCons te (tCons td tNil))) (BrP (x,d)):=fun H Q _ q=>
 h.2 H _ (g H _ ⟨(show 2≤sizeLine by decide),fun p np=>q _ _ (Ext.new np) ⟨p,rfl,upd_same⟩⟩)
theorem mb_nil:MkwA H0 σ tNil (fun H vs=>AllR (fun r v=>BrP r H v) vs []):=fun H Q e q=>q [] H (Ext.refl _) .nil
theorem mb_cons {r:Str × Bool} (h:Mkw H0 σ te (BrP r)) (g:MkwA H0 σ ta (fun H vs=>AllR (fun r v=>BrP r H v) vs rs)):MkwA H0 σ (tCons te ta) (fun H vs=>AllR (fun r v=>BrP r H v) vs (r::rs)):=fun H Q e q=>
 h H _ e fun v H1 e1 h1=>g H1 _ (e.trans e1) fun vs H2 e2 h2=>q _ _ (e1.trans e2) (.cons (h1.ext e2) h2)
theorem mb_rows (g:MkwA H0 σ ta (fun H vs=>AllR (fun r v=>BrP r H v) vs rs)) (hl:rs.length≤100):Mkw H0 σ (tLst ta) (BsP rs):=fun H Q e q=>
 g H _ e fun vs H1 e1 h1=>⟨by rw[AllR.len h1,sizeLine_eq];omega,fun p np=>q _ _ (e1.trans (Ext.new np)) ⟨p,vs,rfl,upd_same,h1.imp fun _ _ z=>z.ext (Ext.new np)⟩⟩
theorem mb_var {i:Nat} {v:V} (hi:σ[i]?=some (some v)) (h:BsP rs H0 v):Mkw H0 σ (yVar i) (BsP rs):=fun H Q e q=>yVar_at (v:=v) hi (q v H (Ext.refl _) (h.ext e))
theorem mb_cat (h:Mkw H0 σ te (BsP rs)) (g:Mkw H0 σ tb (BsP us)) (hl:rs.length+us.length≤1000):Mkw H0 σ (tOp zCatL te tb) (BsP (rs++us)):=fun H Q e q=>
 h H _ e fun v H1 e1 h1=>g H1 _ (e.trans e1) fun w H2 e2 h2=>by
   obtain⟨a,vs,rfl,a1,a2⟩:=h1.ext e2
   obtain⟨b,ws,rfl,b1,b2⟩:=h2
   exact⟨vs,ws,a1,b1,by rw[AllR.len a2,AllR.len b2,sizeLine_eq];omega,fun p np=>q _ _ ((e1.trans e2).trans (Ext.new np)) ⟨p,_,rfl,upd_same,(AllR.app a2 b2).imp fun _ _ z=>z.ext (Ext.new np)⟩⟩
end
section
variable {K:Kf} {vs:List V} {H:Hp} {Q:VK} {E:XK}
theorem len_ranks_right (h:sp_ranks_right K vs H Q E):vs.length=4:=by
 obtain⟨_,_,_,_,_,_,_,_,_,rfl,_⟩:=h
 rfl
def N_ranks_right:List Str:= ["_law_tracks","_law_made","_law_place","_law_is_filled","_law_cell","_law_rows","_law_text","_law_due"]
def t_ranks_right (K:Kf) (E:XK):TS:=
 (tSeq (tAsg (tOp zAdd (tC (.str "here filled ")) (tOp (zIxL K) (yVar 0) (tC (.int 0)))) (gName 4))
    (tSeq (tAsg (tLst (tCons (tTup (tCons (tOp zAdd (yVar 4) (tC (.str " or here is here and not here is here"))) (tCons (yVar 3) tNil))) (tCons (tTup (tCons (tOp zAdd (tOp zAdd (tOp zAdd (tC (.str "not ")) (yVar 4)) (tC (.str " or "))) (yVar 4)) (tCons (tC (.bl true)) tNil))) tNil))) (gName 5))
    (tSeq (tAsg (tOp zCatL (yVar 5) (tLst (tCons (tTup (tCons (tOp zAdd (tOp zAdd (tC (.str "not here is here and ")) (yVar 4)) (tC (.str " or here is here"))) (tCons (tC (.bl true)) tNil))) tNil))) (gName 5))
    (tSeq (tAsg (tOp zCatL (yVar 5) (tLst (tCons (tTup (tCons (tOp zAdd (tC (.str "not here ahead here and ")) (yVar 4)) (tCons (yVar 3) tNil))) tNil))) (gName 5))
    (tRet (tOp (zEqD K) (yLc (jLst K (yVar 5)) (gTup K 2 (gCons (gName 6) (gCons (gName 7) gNil))) (yTst (tOp zNe (tCB zRepr (tCons (yMeth (He.ga K "Saying") "holds" (sp_Saying_holds K) W0 (yNew (He.ga K "Saying") (sp_Saying_init K) W0 (tCons (yVar 0) (tCons (yVar 6) tNil))) (tCons (yVar 1) (tCons (yVar 2) tNil))) tNil)) (tCB zRepr (tCons (yVar 7) tNil)))) (yVar 6) [6,7]) (tLst tNil)))))))
theorem ranks_none {σ:L2.St} {tl a p:Addr} {ys ss:List Str} {m c:Nat} {tr:Str} {rs:BrT} {v:V} {te:TE} (F:FS K) (tk:Trk ys) (ht:H tl=some (.lst (ys.map V.str))) (hsh:SheetAt K H a ys ss) (sj:ShJ ys ss m) (hm:m≤1000000) (hp:SqT K H p [.str tr,.int (c:Nat)]) (htr:tr∈ys) (hc:c<m)
 (h5:σ[5]?=some (some v)) (rr:BsP rs H v) (good:∀r∈rs,∃u,sayOf ys r.1= .inr u∧saysT ys ss m u (fun _=>c)=r.2∧r.1.length≤200)
 (g:∀x y:V,(((wipe σ [6,7]).set 6 (some x)).set 7 (some y))[0]?=some (some (.ref tl))∧(((wipe σ [6,7]).set 6 (some x)).set 7 (some y))[1]?=some (some (.ref a))∧(((wipe σ [6,7]).set 6 (some x)).set 7 (some y))[2]?=some (some (.ref p))∧(((wipe σ [6,7]).set 6 (some x)).set 7 (some y))[6]?=some (some x)∧(((wipe σ [6,7]).set 6 (some x)).set 7 (some y))[7]?=some (some y)∧wipe (((wipe σ [6,7]).set 6 (some x)).set 7 (some y)) [6,7]=wipe σ [6,7])
 (q:∀a H',Ext H H'→H' a=some (.lst [])→Q (.ref a) H'):yLc (jLst K (yVar 5)) (gTup K 2 (gCons (gName 6) (gCons (gName 7) gNil))) (yTst (tOp zNe (tCB zRepr (tCons (yMeth (He.ga K "Saying") "holds" (sp_Saying_holds K) W0 (yNew (He.ga K "Saying") (sp_Saying_init K) W0 (tCons (yVar 0) (tCons (yVar 6) tNil))) (tCons (yVar 1) (tCons (yVar 2) tNil))) tNil)) (tCB zRepr (tCons (yVar 7) tNil)))) te [6,7] σ H Q:=by
 obtain⟨l,xs,rfl,hl,hx⟩:=rr
 dsimp only[yLc,jLst]
 refine yVar_at (v:= .ref l) h5 ⟨xs,SqL.of hl,fun D nD=> ?_⟩
 refine lc_empty nD (fun H' e=>SqL.of (e _ _ hl)) (fun k x G G' C hk eG hY hC=> ?_) fun H' e d=>q D H' e d
 obtain⟨rfl,hk⟩:=hY
 obtain⟨r,hr,w,rfl,hw⟩:=AllR.get hx hk
 obtain⟨g0,g1,g2,g6,g7,gw⟩:=g (.str r.1) (.bl r.2)
 obtain⟨u,b1,b2,b3⟩:=good r hr
 refine⟨w,_,rfl,SqT.of (eG _ _ hw),rfl,_,_,rfl,_,_,rfl,rfl,gw,?_⟩
 dsimp only[yTst,tOp,tCB,tCons,tNil,yMeth,yNew]
 refine yVar_at g0 (yVar_at g6 fun s dx ns nd hne=> ?_)
 have e0:Ext G' (upd (upd G' dx (.own s)) s (.ins (He.ga K "Saying") dx [])):=(Ext.new nd).mut ns
 refine⟨G',s,dx,tl,ys,r.1,rfl,upd_same,e0,ns,.inl (e0 _ _ (eG _ _ ht)),(fun y hy=>by have:=tk.short y hy;omega),by omega,F.mc,fun i hi=>(by rw[trk_right tk] at hi;cases hi),fun _ n hn=>(by rw[b1] at hn;cases hn),fun _ u' hu H3 e3 S3=>⟨rfl,?_⟩⟩
 rw[b1] at hu
 injection hu with hu
 subst hu
 obtain⟨dxs,t2,vt,gs1,gs2,gs3⟩:=S3.ex
 have eA:=eG.trans e3
 refine⟨dxs,_,gs1,rfl,yVar_at g1 (yVar_at g2 ⟨s,a,p,ys,ys,r.1,u,_,ss,m,tr,(c:Nat),rfl,tk,S3,sayOf_ok b1,hsh.ext eA,tk.lay,fun _=>sj,hm,hp.ext eA,(by have:=tk.short tr htr;omega),fun z=>absurd rfl z,fun _ z=>absurd htr z,fun _ _ z=>absurd ⟨by omega,by omega⟩ z,fun _ _ _ _ H4 e4=> ?_⟩)⟩
 rw[Int.toNat_natCast,b2]
 refine repr_bl (yVar_at g7 (repr_bl ?_))
 exact zNe_same (hC _ _ (e3.trans e4))
theorem pure_ranks_right (h:sp_ranks_right K vs H Q E):t_ranks_right K E (dEnd Q) (start N_ranks_right vs) H:=by
 obtain⟨tl,a,p,t,r,ss,m,tr,c,rfl,F,tk,nm,ht,hsh,sj,hm,hp,htr,hc,q⟩:=h
 have hok:=rowsR_ok (ss:=ss) (m:=m) (f:=fun _=>c) (z31 ..) nm
 generalize saysT (t::r) ss m (.fil "here" t) (fun _=>c)=b at hok⊢
 have lt:t.length≤12:=tk.short t (z31 ..)
 unfold t_ranks_right
 refine seq_id ⟨_,.str t,.inl (SqL.of ht),atI_nat (j:=0) rfl,⟨?_,?_⟩⟩
 ·have:("here filled ":Str).length=12:=by decide+kernel
  rw[sizeLine_eq]
  omega
 have lc:(cellT t).length≤30:=by
  unfold cellT
  rw[z15]
  have:("here filled ":Str).length=12:=by decide+kernel
  omega
 refine seq_mwS (P:=BsP [(rk1 t,b),(rk2 t,true)]) (fun v=> [some (.ref tl),some (.ref a),some (.ref p),some (.bl b),some (.str (cellT t)),some v,none,none]) (mb_rows (mb_cons (mb_row (mt_add (mt_v lc rfl) (mt_c (n:=100) (by decide+kernel)) (by omega)) fun _ _ q=>q) (mb_cons (mb_row (mt_add (mt_add (mt_add (mt_c (n:=100) (by decide+kernel)) (mt_v lc rfl) (by omega)) (mt_c (n:=100) (by decide+kernel)) (by omega)) (mt_v lc rfl) (by omega)) fun _ _ q=>q) mb_nil)) (Nat.le_of_ble_eq_true rfl)) (fun v1 H1 e1 r1=> ?_) (fun _=>rfl)
 refine seq_mwS (P:=BsP ([(rk1 t,b),(rk2 t,true)]++ [(rk3 t,true)])) (fun v=> [some (.ref tl),some (.ref a),some (.ref p),some (.bl b),some (.str (cellT t)),some v,none,none]) (mb_cat (mb_var rfl r1) (mb_rows (mb_cons (mb_row (mt_add (mt_add (mt_c (n:=100) (by decide+kernel)) (mt_v lc rfl) (by omega)) (mt_c (n:=100) (by decide+kernel)) (by omega)) fun _ _ q=>q) mb_nil) (Nat.le_of_ble_eq_true rfl)) (Nat.le_of_ble_eq_true rfl)) (fun v2 H2 e2 r2=> ?_) (fun _=>rfl)
 refine seq_mwS (P:=BsP (rowsR t b)) (fun v=> [some (.ref tl),some (.ref a),some (.ref p),some (.bl b),some (.str (cellT t)),some v,none,none]) (mb_cat (mb_var rfl r2) (mb_rows (mb_cons (mb_row (mt_add (mt_c (n:=100) (by decide+kernel)) (mt_v lc rfl) (by omega)) fun _ _ q=>q) mb_nil) (Nat.le_of_ble_eq_true rfl)) (Nat.le_of_ble_eq_true rfl)) (fun v3 H3 e3 r3=> ?_) (fun _=>rfl)
 have e03:=(e1.trans e2).trans e3
 exact ret_eqnil (fun Q2 q2=>ranks_none F tk (e03 _ _ ht) (hsh.ext e03) sj hm (hp.ext e03) htr hc rfl r3 hok (fun _ _=>⟨rfl,rfl,rfl,rfl,rfl,rfl⟩) q2) fun H' e=>q H' (e03.trans e)
end
section
variable {H H':Hp} {K:Kf}
theorem extN_ins (e:LamX.ExtN H H') {a C dx:Addr} {fs:List (Str × V)} (h:H a=some (.ins C dx fs)):H' a=some (.ins C dx fs):=e _ _ h (by intro _ z;cases z)
theorem extN_tup (e:LamX.ExtN H H') {a:Addr} {xs:List V} (h:H a=some (.tup xs)):H' a=some (.tup xs):=e _ _ h (by intro _ z;cases z)
theorem extN_lst (e:LamX.ExtN H H') {a:Addr} {xs:List V} (h:H a=some (.lst xs)):H' a=some (.lst xs):=e _ _ h (by intro _ z;cases z)
theorem extN_code (e:LamX.ExtN H H') {c:Addr} {q:Str} (h:H c=some (LamX.CodeO c q)):H' c=some (LamX.CodeO c q):=e _ _ h (by intro _ z;cases z)
theorem SayAt.growN {a:Addr} {trs:List Str} {txt:Str} {u:STree} {hh:Bool} (h:SayAt K H a trs txt u hh) (k:LamX.ExtN H H'):SayAt K H' a trs txt u hh:=by
 obtain⟨dx,t,v,h1,h2,h3⟩:=h.ex
 exact⟨dx,t,v,extN_ins k h1,extN_tup k h2,h3.keep fun p xs q=>extN_tup k q⟩
theorem SheetAt.growN {a:Addr} {ns ss:List Str} (h:SheetAt K H a ns ss) (k:LamX.ExtN H H'):SheetAt K H' a ns ss:=by
 obtain⟨sx,t1,t2,sd,h1,h2,h3,h4⟩:=h
 exact⟨sx,t1,t2,sd,extN_ins k h1,h2.imp fun o q=>⟨q.1,k _ _ q.2 (by intro _ z;cases z)⟩,k _ _ h3 (by intro _ z;cases z),k _ _ h4 (by intro _ z;cases z)⟩
end
theorem loOf_ne {X:Cx} {L:List LamR}:∀(j:Nat) (f c':Addr) (ps:Array Value),loOf X L j f c'≠ .tbl ps:=by
 intro j f c' ps z
 unfold loOf LamO at z
 split at z<;>cases z
structure Asks (K:Kf) (H:Hp) (tl sy a far:Addr) (ys:List Str) (txt:Str) (u:STree) (hh:Bool) (ss:List Str) (m:Nat):Prop where
 trk:H tl=some (.lst (ys.map V.str))
 say:SayAt K H sy ys txt u hh
 made:SheetAt K H a ys ss
 far:SheetAt K H far ["strange"] ["#"]
theorem Asks.growN {K:Kf} {H H':Hp} {tl sy a far:Addr} {ys:List Str} {txt:Str} {u:STree} {hh:Bool} {ss:List Str} {m:Nat} (h:Asks K H tl sy a far ys txt u hh ss m) (e:LamX.ExtN H H'):Asks K H' tl sy a far ys txt u hh ss m:=
 ⟨extN_lst e h.trk,h.say.growN e,h.made.growN e,h.far.growN e⟩
theorem due_flat:∀j,(dueJ j).all flatV=true
 |0=>rfl
 |1=>rfl
 |2=>rfl
 |3=>rfl
 |4=>rfl
 |_+5=>rfl
theorem due_eqv:∀j,PyData.eqv (.tuple ((dueJ j).map dataV)) (.tuple ((dueJ j).map dataV))=true
 |0=>by decide+kernel
 |1=>by decide+kernel
 |2=>by decide+kernel
 |3=>by decide+kernel
 |4=>by decide+kernel
 |_+5=>(by decide+kernel:PyData.eqv (.tuple (([.str "index",.int ((1:Nat):Int)]:List V).map dataV)) (.tuple (([.str "index",.int ((1:Nat):Int)]:List V).map dataV))=true)
theorem due_shp:∀j,SeqAt.shaped (.tuple ((dueJ j).map dataV))=true
 |0=>by decide+kernel
 |1=>by decide+kernel
 |2=>by decide+kernel
 |3=>by decide+kernel
 |4=>by decide+kernel
 |_+5=>(by decide+kernel:SeqAt.shaped (.tuple (([.str "index",.int ((1:Nat):Int)]:List V).map dataV))=true)
theorem due_same {K:Kf} {G:Hp} {w d:Addr} {j:Nat} {Q:VK} (hw:G w=some (.tup (dueJ j))) (hd:G d=some (.tup (dueJ j))) (q:Q (.bl false) G):zNeD K (.ref w) (.ref d) G Q:=
 ⟨_,_,.tup (SqT.of hw) (dpAll_flat (due_flat j)),.tup (SqT.of hd) (dpAll_flat (due_flat j)),due_shp j,due_shp j,by rw[due_eqv];exact q⟩
section
variable {K:Kf} {vs:List V} {H:Hp} {Q:VK} {E:XK}
def ts_places_right (K:Kf):List (XK→TE):= [fun EL=>(yMeth (He.ga K "Saying") "holds" (sp_Saying_holds K) (fun cls d _ H=>EL cls d H) (yVar 1) (tCons (yVar 4) (tCons (tTup (tCons (tC (.str "odd")) (tCons (tC (.int 9)) tNil))) tNil))),fun EL=>(yMeth (He.ga K "Saying") "holds" (sp_Saying_holds K) (fun cls d _ H=>EL cls d H) (yVar 1) (tCons (yVar 2) (tCons (tTup (tCons (tC (.str "odd")) (tCons (tC (.int 999)) tNil))) tNil))),fun EL=>(yMeth (He.ga K "Saying") "holds" (sp_Saying_holds K) (fun cls d _ H=>EL cls d H) (yVar 1) (tCons (yVar 2) (tCons (tTup (tCons (yVar 3) (tCons (tC (.int 999)) tNil))) tNil))),fun EL=>(yMeth (He.ga K "Saying") "holds" (sp_Saying_holds K) (fun cls d _ H=>EL cls d H) (yVar 1) (tCons (yVar 2) (tCons (tTup (tCons (yVar 3) (tCons (tUn zNeg (tC (.int 1))) tNil))) tNil))),fun EL=>(yNew (He.ga K "Saying") (sp_Saying_init K) (fun cls d _ H=>EL cls d H) (tCons (tLst tNil) (tCons (tC (.str "odd")) tNil))),fun EL=>(yNew (He.ga K "Saying") (sp_Saying_init K) (fun cls d _ H=>EL cls d H) (tCons (tLst (tCons (yVar 3) (tCons (yVar 3) tNil))) (tCons (tC (.str "odd")) tNil)))]
def N_places_right:List Str:= ["_law_tracks","_law_told","_law_made","_law_track","_law_far","_law_rows","_law_ask","_law_due"]
def t_places_right (K:Kf) (lo:Nat→Addr→Addr→HO) (E:XK):TS:=
 (tSeq (tAsg (tTup (tCons (tOp (zIxL K) (yVar 0) (tC (.int 0))) (tCons (yNew (He.ga K "Sheet") (sp_Sheet_init K) (fun cls d _ H=>E cls d H) (tCons (tC (.str "strange #")) tNil)) tNil))) (gTup K 2 (gCons (gName 3) (gCons (gName 4) gNil))))
    (tSeq (tAsg (tLst (tCons (tTup (tCons (yKeep (TB K) ((("_law_places_right":Str)++(".<locals>.":Str))++("<lambda>":Str)) lo 0) (tCons (tTup (tCons (tC (.str "tracks")) (tCons (tC .non) tNil))) tNil))) tNil)) (gName 5))
    (tSeq (tDrop (tBM K "list" zApp (yVar 5) (tCons (tTup (tCons (yKeep (TB K) ((("_law_places_right":Str)++(".<locals>.":Str))++("<lambda>":Str)) lo 1) (tCons (tTup (tCons (tC (.str "track")) (tCons (tC (.str "odd")) tNil))) tNil))) tNil)))
    (tSeq (tDrop (tBM K "list" zApp (yVar 5) (tCons (tTup (tCons (yKeep (TB K) ((("_law_places_right":Str)++(".<locals>.":Str))++("<lambda>":Str)) lo 2) (tCons (tTup (tCons (tC (.str "column")) (tCons (tC (.int 999)) tNil))) tNil))) tNil)))
    (tSeq (tDrop (tBM K "list" zApp (yVar 5) (tCons (tTup (tCons (yKeep (TB K) ((("_law_places_right":Str)++(".<locals>.":Str))++("<lambda>":Str)) lo 3) (tCons (tTup (tCons (tC (.str "column")) (tCons (tUn zNeg (tC (.int 1))) tNil))) tNil))) tNil)))
    (tSeq (tDrop (tBM K "list" zApp (yVar 5) (tCons (tTup (tCons (yKeep (TB K) ((("_law_places_right":Str)++(".<locals>.":Str))++("<lambda>":Str)) lo 4) (tCons (tTup (tCons (tC (.str "index")) (tCons (tC (.int 0)) tNil))) tNil))) tNil)))
    (tSeq (tDrop (tBM K "list" zApp (yVar 5) (tCons (tTup (tCons (yKeep (TB K) ((("_law_places_right":Str)++(".<locals>.":Str))++("<lambda>":Str)) lo 5) (tCons (tTup (tCons (tC (.str "index")) (tCons (tC (.int 1)) tNil))) tNil))) tNil)))
    (tRet (tOp (zEqD K) (yLcS (jLst K (yVar 5)) (gTup K 2 (gCons (gName 6) (gCons (gName 7) gNil))) (fun σC=>(yTst (tOp (zNeD K) (yHand ((("_law_places_right":Str)++(".<locals>.":Str))++("<lambda>":Str)) lo (TT_refused K) (ts_places_right K) (yVar 6) σC) (yVar 7)))) (yVar 7) [6,7]) (tLst tNil))))))))))
theorem asked {tl sy a far:Addr} {t:Str} {r:List Str} {txt:Str} {u:STree} {hh:Bool} {ss:List Str} {m:Nat} {x5 x6 x7:Option V} (A:Asks K H tl sy a far (t::r) txt u hh ss m) (O:AskOk K t r u ss m):
 ∀j,j<6→∃te,(ts_places_right K)[j]?=some te∧∀Q:VK,(∀w G',Ext H G'→G' w=some (.tup (dueJ j))→Q (.ref w) G')→te (RefE K Q) [some (.ref tl),some (.ref sy),some (.ref a),some (.str t),some (.ref far),x5,x6,x7] H fun _ H'=>Q .non H':=by
 have lt:t.length≤12:=O.tk.short t (z31 ..)
 have odd:("odd":Str).length≤1000:=by decide+kernel
 have nodd:("odd":Str)∉t::r:=fun z=>absurd (O.nm _ z) (by decide+kernel)
 have nstr:(["strange"]:List Str)≠t::r:=fun z=>absurd (O.nm "strange" (by rw[←z];simp)) (by decide+kernel)
 obtain⟨dx,t2,v,g1,g2,g3⟩:=A.say.ex
 have lay1:∀n∈(["strange"]:List Str),okV (.str n)=true:=by decide+kernel
 have holds:∀(b:Addr) (ns ss':List Str) (tr:Str) (c:Int) (Q:VK),SheetAt K H b ns ss'→(∀n∈ns,okV (.str n)=true)→(ns=t::r→ss'=ss)→tr.length≤1000→
  (ns≠t::r→∀H',Ext H H'→RefE K Q (.ref (He.ga K "OtherTracks")) none H')→
  (ns=t::r→tr∉t::r→∀(d:Addr) (H':Hp),Ext H H'→H d=none→H' d=some (.xd [("name",.str tr)])→RefE K Q (.ref (He.ga K "NoTrack")) (some d) H')→
  (ns=t::r→tr∈t::r→∀(d:Addr) (H':Hp),Ext H H'→H d=none→H' d=some (.xd [("column",.int c)])→RefE K Q (.ref (He.ga K "NoColumn")) (some d) H')→¬(0≤c∧c<(m:Nat))∨tr∉t::r∨ns≠t::r→
  ∀p,H p=none→sp_Saying_holds K [.ref sy,.ref b,.ref p] (upd H p (.tup [.str tr,.int c])) (fun _ H'=>Q .non H') (RefE K Q):=by
  intro b ns ss' tr c Q hb lay hss ltr q1 q2 q3 no p np
  have e:=Ext.new (o:= .tup [.str tr,.int c]) np
  refine⟨sy,b,p,t::r,ns,txt,u,hh,ss',m,tr,c,rfl,O.tk,A.say.ext e,O.ok,hb.ext e,lay,fun z=>(by rw[hss z];subst z;exact O.sj),by have:=O.m9;omega,SqT.of upd_same,by omega,fun z=>q1 z _ e,fun z1 z2 d H' e' nd hd=>q2 z1 z2 d H' (e.trans e') (e.back nd) hd,fun z1 z2 _ d H' e' nd hd=>q3 z1 z2 d H' (e.trans e') (e.back nd) hd,fun z1 z2 z3 z4=> ?_⟩
  rcases no with z|z|z
  ·exact absurd ⟨z3,z4⟩ z
  ·exact absurd z2 z
  ·exact absurd z1 z
 have nocol:∀(c:Int) (Q:VK),(∀w G',Ext H G'→G' w=some (.tup [.str "column",.int c])→Q (.ref w) G')→¬(0≤c∧c<(m:Nat))→∀p,H p=none→sp_Saying_holds K [.ref sy,.ref a,.ref p] (upd H p (.tup [.str t,.int c])) (fun _ H'=>Q .non H') (RefE K Q):=fun c Q q no=>by
  refine holds a (t::r) ss t c Q A.made O.tk.lay (fun _=>rfl) (by omega) (fun z=>absurd rfl z) (fun _ z=>absurd (z31 ..) z) (fun _ _ d H' e nd hd=> ?_) (.inl no)
  exact .inr (.inr (.inl ⟨rfl,d,_,rfl,hd,fun w nw=>q w _ (e.trans (Ext.new nw)) upd_same⟩))
 have made:∀(xs:List Str) (i:Nat) (Q:VK),wrongAt 0 [] xs=some i→(∀x∈xs,x.length<16777216)→(∀w G',Ext H G'→G' w=some (.tup [.str "index",.int (i:Nat)])→Q (.ref w) G')→∀l,H l=none→∀x dx,(upd H l (.lst (xs.map V.str))) x=none→(upd H l (.lst (xs.map V.str))) dx=none→dx≠x→
  sp_Saying_init K [.ref x,.ref l,.str "odd"] (upd (upd (upd H l (.lst (xs.map V.str))) dx (.own x)) x (.ins (He.ga K "Saying") dx [])) (fun v H2=>v= .non∧Q .non H2) (RefE K Q):=by
  intro xs i Q hi hx q l nl x dx nx nd hne
  have el:=Ext.new (o:= .lst (xs.map V.str)) nl
  have e0:Ext (upd H l (.lst (xs.map V.str))) (upd (upd (upd H l (.lst (xs.map V.str))) dx (.own x)) x (.ins (He.ga K "Saying") dx [])):=(Ext.new nd).mut nx
  refine⟨upd H l (.lst (xs.map V.str)),x,dx,l,xs,"odd",rfl,upd_same,e0,nx,.inl (e0 _ _ upd_same),hx,by omega,O.F.mc,fun i' hi' d H' e nd' hd=> ?_,fun z=>(by rw[hi] at z;cases z),fun z=>(by rw[hi] at z;cases z)⟩
  rw[hi] at hi'
  injection hi' with hi'
  subst hi'
  exact .inr (.inr (.inr ⟨rfl,d,_,rfl,hd,fun w nw=>q w _ ((el.trans e).trans (Ext.new nw)) upd_same⟩))
 have nt:nameOk t=true:=O.tk.nm t (z31 ..)
 have w2:wrongAt 0 [] [t,t]=some 1:=by
  show(if 0=3∨nameOk t=false∨t∈([]:List Str) then some 0 else if 1=3∨nameOk t=false∨t∈ []++ [t] then some 1 else _)=some 1
  rw[if_neg (by rw[nt];simp),if_pos (by simp)]
 intro j hj
 have e2:(2:Nat)≤sizeLine:=by decide
 match j,hj with
 |0,_=>
  refine⟨_,rfl,fun Q q=>⟨dx,_,g1,rfl,e2,holds far _ _ _ _ Q A.far lay1 (fun z=>absurd z nstr) odd (fun _ H' e=> ?_) (fun z=>absurd z nstr) (fun z=>absurd z nstr) (.inr (.inr nstr))⟩⟩
  exact .inl ⟨rfl,rfl,fun w nw=>q w _ (e.trans (Ext.new nw)) upd_same⟩
 |1,_=>
  refine⟨_,rfl,fun Q q=>⟨dx,_,g1,rfl,e2,holds a _ _ _ _ Q A.made O.tk.lay (fun _=>rfl) odd (fun z=>absurd rfl z) (fun _ _ d H' e nd hd=> ?_) (fun _ z=>absurd z nodd) (.inr (.inl nodd))⟩⟩
  exact .inr (.inl ⟨rfl,d,_,rfl,hd,fun w nw=>q w _ (e.trans (Ext.new nw)) upd_same⟩)
 |2,_=>exact⟨_,rfl,fun Q q=>⟨dx,_,g1,rfl,e2,nocol 999 Q q (by have:=O.m9;omega)⟩⟩
 |3,_=>exact⟨_,rfl,fun Q q=>⟨dx,_,g1,rfl,e2,nocol (-1) Q q (by omega)⟩⟩
 |4,_=>exact⟨_,rfl,fun Q q=>⟨z35 _,made [] 0 Q rfl (fun x hx=>by cases hx) q⟩⟩
 |5,_=>exact⟨_,rfl,fun Q q=>⟨e2,made [t,t] 1 Q w2 (fun x hx=>by
  have:x=t:=by simpa using hx
  rw[this]
  omega) q⟩⟩
end
section
variable {H H':Hp} {K:Kf} {lo:Nat→Addr→Addr→HO}
theorem tabs_put {T:List (Addr × Str)} {G:Hp} {b:Addr} {xs:List V} {o:HO} (t:LamX.Tabs T G) (hb:G b=some (.lst xs)):LamX.Tabs T (upd G b o):=fun p hp=>by
 obtain⟨ps,h1,h2,h3⟩:=t p hp
 refine⟨ps,by rw[upd_ne (fun z=>by rw[z,hb] at h1;cases h1)];exact h1,h2,fun pos cv hc=> ?_⟩
 obtain⟨c,e,hco⟩:=h3 pos cv hc
 exact⟨c,e,by rw[upd_ne (fun z=>by rw[z,hb] at hco;cases hco)];exact hco⟩
theorem RowJ.growN {D:Addr} {j:Nat} {v:V} (hlo:∀j f c' ps,lo j f c'≠ .tbl ps) (h:RowJ lo D j H v) (e:LamX.ExtN H H'):RowJ lo D j H' v:=by
 obtain⟨p,f,c',d,h1,h2,h3,h4,h5,h6⟩:=h
 exact⟨p,f,c',d,h1,extN_tup e h2,e _ _ h3 (hlo _ _ _),extN_code e h4,extN_tup e h5,h6⟩
theorem row_te {j:Nat} {td:TA} {σ:L2.St} {Q:VK} (hd:∀(H:Hp) (Q:List V→Hp→Prop),Q (dueJ j) H→td σ H Q) (hj:(dueJ j).length≤2) (T:LamX.Tabs (TB K) H)
 (q:∀v H',LamX.ExtN H H'→LamX.Tabs (TB K) H'→(∀D,(H' D=none∨∃xs,H D=some (.lst xs))→RowJ lo D j H' v)→Q v H'):
 tTup (tCons (yKeep (TB K) ((("_law_places_right":Str)++(".<locals>.":Str))++("<lambda>":Str)) lo j) (tCons (tTup td) tNil)) σ H Q:=by
 refine⟨T,fun f c' H1 e1 T1 nf hf hc=>hd H1 _ ⟨Nat.le_trans hj (show 2≤sizeLine by decide),fun d nd=>⟨(show 2≤sizeLine by decide),fun p np=> ?_⟩⟩⟩
 have e2:=Ext.new (o:= .tup (dueJ j)) nd
 have e3:=Ext.new (o:= .tup [.ref f,.ref d]) np
 have e23:=e2.trans e3
 refine q _ _ (e1.trans (LamX.ExtN.of e23)) (T1.ext e23) fun D hD=> ?_
 have g1:(upd (upd H1 d (.tup (dueJ j))) p (.tup [.ref f,.ref d])) p=some (.tup [.ref f,.ref d]):=upd_same
 have g2:=e23 _ _ hf
 have g3:=e23 _ _ hc
 have g4:(upd (upd H1 d (.tup (dueJ j))) p (.tup [.ref f,.ref d])) d=some (.tup (dueJ j)):=e3 _ _ upd_same
 refine⟨p,f,c',d,rfl,g1,g2,g3,g4,?_⟩
 rcases hD with z|⟨xs,z⟩
 ·exact⟨fun y=>(by rw[←y,g1] at z;cases z),fun y=>(by rw[←y,g2] at z;cases z),fun y=>(by rw[←y,g3] at z;cases z),fun y=>(by rw[←y,g4] at z;cases z)⟩
 ·have z1:=extN_lst e1 z
  refine⟨fun y=> ?_,fun y=>(by rw[y,z] at nf;cases nf),fun y=>(by rw[y,z1] at hc;cases hc),fun y=>(by rw[y,z1] at nd;cases nd)⟩
  rw[y,e2 _ _ z1] at np
  cases np
def StJ (K:Kf) (lo:Nat→Addr→Addr→HO) (l:Addr) (Hb:Hp) (k:Nat) (H:Hp):Prop:=∃vs:List V,H l=some (.lst vs)∧AllR (fun j v=>RowJ lo l j H v) vs (List.range k)∧LamX.ExtN Hb H∧LamX.Tabs (TB K) H
theorem seq_list1 {te:TE} {σ:L2.St} {rest:TS} {D:Ends} {i:Nat} (h:te σ H fun v H1=>1≤sizeLine∧∀l,H1 l=none→rest D (σ.set i (some (.ref l))) (upd H1 l (.lst [v]))):tSeq (tAsg (tLst (tCons te tNil)) (gName i)) rest D σ H:=h
theorem app_step {l:Addr} {Hb:Hp} {k:Nat} {td:TA} {σ:L2.St} {rest:TS} {D:Ends} (hlo:∀j f c' ps,lo j f c'≠ .tbl ps) (nb:Hb l=none) (hk:k≤10) (h5:σ[5]?=some (some (.ref l))) (S:StJ K lo l Hb k H) (hd:∀(H:Hp) (Q:List V→Hp→Prop),Q (dueJ k) H→td σ H Q) (hj:(dueJ k).length≤2)
 (q:∀H',StJ K lo l Hb (k+1) H'→rest D σ H'):tSeq (tDrop (tBM K "list" zApp (yVar 5) (tCons (tTup (tCons (yKeep (TB K) ((("_law_places_right":Str)++(".<locals>.":Str))++("<lambda>":Str)) lo k) (tCons (tTup td) tNil))) tNil))) rest D σ H:=by
 obtain⟨vs,s1,s2,s3,s4⟩:=S
 dsimp only[tSeq,tDrop,tBM,tCons,tNil]
 refine yVar_at (v:= .ref l) h5 ⟨tyL s1,row_te hd hj s4 fun v H' e T hr=> ?_⟩
 have gl:=extN_lst e s1
 have len:=AllR.len s2
 rw[List.length_range] at len
 refine⟨vs,gl,by rw[len,sizeLine_eq];omega,q _ ⟨vs++ [v],upd_same,?_,?_,tabs_put T gl⟩⟩
 ·rw[List.range_succ]
  exact AllR.app (s2.imp fun j w z=>(z.growN hlo e).mut) (.cons (hr l (.inr ⟨vs,s1⟩)).mut .nil)
 ·intro b o hb ho
  rw[upd_ne (fun z=>by rw[z,nb] at hb;cases hb)]
  exact e _ _ (s3 _ _ hb ho) ho
end
section
variable {K:Kf} {vs:List V} {H:Hp} {Q:VK} {E:XK} {lo:Nat→Addr→Addr→HO}
theorem len_places_right (h:sp_places_right K vs H Q E):vs.length=3:=by
 obtain⟨_,_,_,_,_,_,_,_,_,_,rfl,_⟩:=h
 rfl
theorem sh_strange:ShOk ["strange"] ["#"] 1:=⟨by decide+kernel,by decide+kernel,rfl,by decide,by decide,by decide+kernel⟩
theorem tx_strange:("strange #":Str)=txtOf ["strange"] ["#"]:=by decide+kernel
theorem pure_places_right (hlo:∀j f c' ps,lo j f c'≠ .tbl ps) (h:sp_places_right K vs H Q E):t_places_right K lo E (dEnd Q) (start N_places_right vs) H:=by
 obtain⟨tl,sy,a,t,r,txt,u,hh,ss,m,rfl,XF,O,T,ht,hsy,ha,q⟩:=h
 unfold t_places_right
 refine⟨_,.str t,.inl (SqL.of ht),atI_nat (j:=0) rfl,?_⟩
 rw[tx_strange]
 refine make_sheet O.F sh_strange (by decide) fun far H1 e1 nf hf=>⟨(show 2≤sizeLine by decide),fun pr np=>⟨pr,_,rfl,SqT.of upd_same,rfl,_,_,rfl,_,_,rfl,rfl,?_⟩⟩
 have e2:=e1.trans (Ext.new (o:= .tup [.str t,.ref far]) np)
 have hf2:=hf.ext (Ext.new (o:= .tup [.str t,.ref far]) np)
 generalize upd H1 pr (.tup [.str t,.ref far])=H2 at e2 hf2
 have A2:Asks K H2 tl sy a far (t::r) txt u hh ss m:=⟨e2 _ _ ht,hsy.ext e2,ha.ext e2,hf2⟩
 refine seq_list1 (row_te (j:=0) (fun _ _ q=>q) (by decide) (T.ext e2) fun v H3 e3 T3 hr=>⟨(show 1≤sizeLine by decide),fun l nl=> ?_⟩)
 have A3:=A2.growN e3
 have S:StJ K lo l H3 1 (upd H3 l (.lst [v])):=⟨[v],upd_same,.cons (hr l (.inl nl)).mut .nil,LamX.ExtN.of (Ext.new nl),T3.ext (Ext.new nl)⟩
 have e23:=(LamX.ExtN.of e2).trans e3
 generalize upd H3 l (.lst [v])=H4 at S
 refine app_step hlo nl (by decide) rfl S (fun _ _ q=>q) (by decide) fun H5 S=> ?_
 refine app_step hlo nl (by decide) rfl S (fun _ _ q=>q) (by decide) fun H5 S=> ?_
 refine app_step hlo nl (by decide) rfl S (fun _ _ q=>q) (by decide) fun H5 S=> ?_
 refine app_step hlo nl (by decide) rfl S (fun _ _ q=>q) (by decide) fun H5 S=> ?_
 refine app_step hlo nl (by decide) rfl S (fun _ _ q=>q) (by decide) fun H5 S=> ?_
 obtain⟨xs,s1,s2,s3,s4⟩:=S
 have A5:=A3.growN s3
 refine ret_eqnil (fun Q2 q2=> ?_) fun H' e=>q H' ((e23.trans s3).trans (LamX.ExtN.of e)) (s4.ext e)
 dsimp only[yLcS,yLc,jLst]
 refine yVar_at (v:= .ref l) rfl ⟨xs,SqL.of s1,fun D nD=> ?_⟩
 refine lc_empty nD (fun H' e=>SqL.of (e _ _ s1)) (fun k x G G' C hk eG hY hC=> ?_) fun H' e d=>q2 D H' e d
 obtain⟨rfl,hk⟩:=hY
 obtain⟨j,hj,hR⟩:=AllR.get s2 hk
 have hj:=List.mem_range.mp hj
 obtain⟨p,f,c',d,rfl,h1,h2,h3,h4,_⟩:=hR
 obtain⟨te,hte,ask⟩:=asked (x5:=some (.ref l)) (x6:=none) (x7:=none) (A5.growN (LamX.ExtN.of eG)) O j hj
 refine⟨p,_,rfl,SqT.of (eG _ _ h1),rfl,_,_,rfl,_,_,rfl,rfl,rfl,?_⟩
 dsimp only[yTst,tOp,yHand]
 refine yVar_at (v:= .ref f) rfl ⟨j,f,c',te,hte,rfl,eG _ _ h2,eG _ _ h3,XF,eG _ _ h2,ask _ fun w G2 e2 hw=> ?_⟩
 exact yVar_at (v:= .ref d) rfl (due_same hw (e2 _ _ (eG _ _ h4)) (hC _ _ e2))
end
section
variable {P:Program} {w:World} {K:Kf} {mg:Str→Option Value} {base:Heap}
abbrev s_places_right:Stmt:=top 56
theorem sc_places_right:FnScope N_places_right ["_law_tracks","_law_told","_law_made"] (defScope s_places_right):=⟨rfl,rfl,rfl,by decide+kernel,rfl,by decide+kernel,by decide+kernel⟩
def LS_places_right (K:Kf):List LamR:= [lamR (eArg (eArg (sVal ((defBody s_places_right).getD 1 default)) 0) 0) (fun EL=>(yMeth (He.ga K "Saying") "holds" (sp_Saying_holds K) (fun cls d _ H=>EL cls d H) (yVar 1) (tCons (yVar 4) (tCons (tTup (tCons (tC (.str "odd")) (tCons (tC (.int 9)) tNil))) tNil)))),lamR (eArg (eArg (sVal ((defBody s_places_right).getD 2 default)) 0) 0) (fun EL=>(yMeth (He.ga K "Saying") "holds" (sp_Saying_holds K) (fun cls d _ H=>EL cls d H) (yVar 1) (tCons (yVar 2) (tCons (tTup (tCons (tC (.str "odd")) (tCons (tC (.int 999)) tNil))) tNil)))),lamR (eArg (eArg (sVal ((defBody s_places_right).getD 3 default)) 0) 0) (fun EL=>(yMeth (He.ga K "Saying") "holds" (sp_Saying_holds K) (fun cls d _ H=>EL cls d H) (yVar 1) (tCons (yVar 2) (tCons (tTup (tCons (yVar 3) (tCons (tC (.int 999)) tNil))) tNil)))),lamR (eArg (eArg (sVal ((defBody s_places_right).getD 4 default)) 0) 0) (fun EL=>(yMeth (He.ga K "Saying") "holds" (sp_Saying_holds K) (fun cls d _ H=>EL cls d H) (yVar 1) (tCons (yVar 2) (tCons (tTup (tCons (yVar 3) (tCons (tUn zNeg (tC (.int 1))) tNil))) tNil)))),lamR (eArg (eArg (sVal ((defBody s_places_right).getD 5 default)) 0) 0) (fun EL=>(yNew (He.ga K "Saying") (sp_Saying_init K) (fun cls d _ H=>EL cls d H) (tCons (tLst tNil) (tCons (tC (.str "odd")) tNil)))),lamR (eArg (eArg (sVal ((defBody s_places_right).getD 6 default)) 0) 0) (fun EL=>(yNew (He.ga K "Saying") (sp_Saying_init K) (fun cls d _ H=>EL cls d H) (tCons (tLst (tCons (yVar 3) (tCons (yVar 3) tNil))) (tCons (tC (.str "odd")) tNil))))]
theorem ok_places_right {fd:FuncData} (B:Blt mg) (j5:OM P w K mg base "Sheet" (4) ["self","text"] (sp_Sheet_init K)) (j1:OMe P w K mg base "Saying" "holds" (35) ["self","sheet","place"] (sp_Saying_holds K)) (j2:OM P w K mg base "Saying" (68) ["self","tracks","text"] (sp_Saying_init K)) (GC:∀x∈clsN,mg x=some (.ref (He.ga K x))) {j6:FuncData} (j3:FunD K "_law_refused" "_law_refused" (defArgs s_refused) (defBody s_refused) (defScope s_refused) [] [] (He.ga K "_law_refused") j6) (j4:mg "_law_refused"=some (.ref (He.ga K "_law_refused"))) (TBc:LamX.TabB base mg (He.cT K ("_law_places_right",none)).1 (He.cT K ("_law_places_right",none)).2) (TBm:((He.cT K ("_law_places_right",none)).2,(("_law_places_right":Str)++(".<locals>.":Str))++("<lambda>":Str))∈TB K) (TBu:∀p∈TB K,p.1=(He.cT K ("_law_places_right",none)).2→p.2=(("_law_places_right":Str)++(".<locals>.":Str))++("<lambda>":Str)) (F:FunD K "_law_places_right" "_law_places_right" (defArgs s_places_right) (defBody s_places_right) (defScope s_places_right) [] [] (He.fAd K ("_law_places_right",none)) fd):FnOk P w K mg base (L2.CX P w) (90) (He.fAd K ("_law_places_right",none)) fd ["_law_tracks","_law_told","_law_made"] (sp_places_right K):=by
 refine okT (pd:=("_law_places_right",none)) F sc_places_right (fun vs H Q E h=>len_places_right h) (k:=89) (fun A outer s H vs Q E hr h=>⟨t_places_right K (loOf (cxOf (L2.CX P w) P w K mg base N_places_right "_law_places_right" (defScope s_places_right) (He.fAd K ("_law_places_right",none)) (.ref (He.cT K ("_law_places_right",none)).1) A outer s H E) (LS_places_right K)) E,?_,pure_places_right loOf_ne h⟩)
 have hu:=hu_of hr
 have po:=passes_of (X:=(cxOf (L2.CX P w) P w K mg base N_places_right "_law_places_right" (defScope s_places_right) (He.fAd K ("_law_places_right",none)) (.ref (He.cT K ("_law_places_right",none)).1) A outer s H E)) rfl
 have tk:Takes (cxOf (L2.CX P w) P w K mg base N_places_right "_law_places_right" (defScope s_places_right) (He.fAd K ("_law_places_right",none)) (.ref (He.cT K ("_law_places_right",none)).1) A outer s H E) (fun cls d _ H=>E cls d H):=takes_of rfl rfl rfl rfl
 have g_refused:=giv_refused (X:=(cxOf (L2.CX P w) P w K mg base N_places_right "_law_places_right" (defScope s_places_right) (He.fAd K ("_law_places_right",none)) (.ref (He.cT K ("_law_places_right",none)).1) A outer s H E)) B GC j3 j4
 exact(pss_cons (ps_asg (pe_tup (pa_cons (pe_ix ix_zIxL (yv 0) pe_int (fun _ _=>rfl)) (pa_cons (ye_new j5 tk (hr.mono (by decide)) rfl (pa_cons pe_str pa_nil)) pa_nil))) (pg_tup rfl (pgs_cons (pg_name (i:=3) sc_places_right.nd rfl (by first|exact Or.inl rfl|exact Or.inr rfl)) (pgs_cons (pg_name (i:=4) sc_places_right.nd rfl (by first|exact Or.inl rfl|exact Or.inr rfl)) pgs_nil))))
  (pss_cons (ps_set (i:=5) sc_places_right.nd rfl (by first|exact Or.inl rfl|exact Or.inr rfl) (pe_lst (pa_cons (pe_tup (pa_cons (ye_keep (lo:=(loOf (cxOf (L2.CX P w) P w K mg base N_places_right "_law_places_right" (defScope s_places_right) (He.fAd K ("_law_places_right",none)) (.ref (He.cT K ("_law_places_right",none)).1) A outer s H E) (LS_places_right K))) TBc rfl rfl TBm TBu (show LamX.LamS (defScope s_places_right) _ from LamX.lamS_by (by decide+kernel)) rfl (fun _ _=>rfl)) (pa_cons (pe_tup (pa_cons pe_str (pa_cons pe_non pa_nil))) pa_nil))) pa_nil)))
  (pss_cons (ps_expr (pe_bm PySem.F.plainAttrs_list PySem.F.slot_list_append PySem.F.type_list_append mt_zApp (yv 5) (pa_cons (pe_tup (pa_cons (ye_keep (lo:=(loOf (cxOf (L2.CX P w) P w K mg base N_places_right "_law_places_right" (defScope s_places_right) (He.fAd K ("_law_places_right",none)) (.ref (He.cT K ("_law_places_right",none)).1) A outer s H E) (LS_places_right K))) TBc rfl rfl TBm TBu (show LamX.LamS (defScope s_places_right) _ from LamX.lamS_by (by decide+kernel)) rfl (fun _ _=>rfl)) (pa_cons (pe_tup (pa_cons pe_str (pa_cons pe_str pa_nil))) pa_nil))) pa_nil)))
  (pss_cons (ps_expr (pe_bm PySem.F.plainAttrs_list PySem.F.slot_list_append PySem.F.type_list_append mt_zApp (yv 5) (pa_cons (pe_tup (pa_cons (ye_keep (lo:=(loOf (cxOf (L2.CX P w) P w K mg base N_places_right "_law_places_right" (defScope s_places_right) (He.fAd K ("_law_places_right",none)) (.ref (He.cT K ("_law_places_right",none)).1) A outer s H E) (LS_places_right K))) TBc rfl rfl TBm TBu (show LamX.LamS (defScope s_places_right) _ from LamX.lamS_by (by decide+kernel)) rfl (fun _ _=>rfl)) (pa_cons (pe_tup (pa_cons pe_str (pa_cons pe_int pa_nil))) pa_nil))) pa_nil)))
  (pss_cons (ps_expr (pe_bm PySem.F.plainAttrs_list PySem.F.slot_list_append PySem.F.type_list_append mt_zApp (yv 5) (pa_cons (pe_tup (pa_cons (ye_keep (lo:=(loOf (cxOf (L2.CX P w) P w K mg base N_places_right "_law_places_right" (defScope s_places_right) (He.fAd K ("_law_places_right",none)) (.ref (He.cT K ("_law_places_right",none)).1) A outer s H E) (LS_places_right K))) TBc rfl rfl TBm TBu (show LamX.LamS (defScope s_places_right) _ from LamX.lamS_by (by decide+kernel)) rfl (fun _ _=>rfl)) (pa_cons (pe_tup (pa_cons pe_str (pa_cons (pe_un un_zNeg pe_int) pa_nil))) pa_nil))) pa_nil)))
  (pss_cons (ps_expr (pe_bm PySem.F.plainAttrs_list PySem.F.slot_list_append PySem.F.type_list_append mt_zApp (yv 5) (pa_cons (pe_tup (pa_cons (ye_keep (lo:=(loOf (cxOf (L2.CX P w) P w K mg base N_places_right "_law_places_right" (defScope s_places_right) (He.fAd K ("_law_places_right",none)) (.ref (He.cT K ("_law_places_right",none)).1) A outer s H E) (LS_places_right K))) TBc rfl rfl TBm TBu (show LamX.LamS (defScope s_places_right) _ from LamX.lamS_by (by decide+kernel)) rfl (fun _ _=>rfl)) (pa_cons (pe_tup (pa_cons pe_str (pa_cons pe_int pa_nil))) pa_nil))) pa_nil)))
  (pss_cons (ps_expr (pe_bm PySem.F.plainAttrs_list PySem.F.slot_list_append PySem.F.type_list_append mt_zApp (yv 5) (pa_cons (pe_tup (pa_cons (ye_keep (lo:=(loOf (cxOf (L2.CX P w) P w K mg base N_places_right "_law_places_right" (defScope s_places_right) (He.fAd K ("_law_places_right",none)) (.ref (He.cT K ("_law_places_right",none)).1) A outer s H E) (LS_places_right K))) TBc rfl rfl TBm TBu (show LamX.LamS (defScope s_places_right) _ from LamX.lamS_by (by decide+kernel)) rfl (fun _ _=>rfl)) (pa_cons (pe_tup (pa_cons pe_str (pa_cons pe_int pa_nil))) pa_nil))) pa_nil)))
  (pss_one (ps_ret (pe_cmpR (op_zEqD hr.units) (ye_lcS (own:= [("_law_ask",6),("_law_due",7)]) (g:=(gTup K 2 (gCons (gName 6) (gCons (gName 7) gNil)))) (tt:=fun σC=>(yTst (tOp (zNeD K) (yHand ((("_law_places_right":Str)++(".<locals>.":Str))++("<lambda>":Str)) (loOf (cxOf (L2.CX P w) P w K mg base N_places_right "_law_places_right" (defScope s_places_right) (He.fAd K ("_law_places_right",none)) (.ref (He.cT K ("_law_places_right",none)).1) A outer s H E) (LS_places_right K)) (TT_refused K) (ts_places_right K) (yVar 6) σC) (yVar 7)))) rfl sc_places_right.nd (j_lst (yv 5)) (blkOk_by (N:=N_places_right) (sc:=defScope s_places_right) (by decide+kernel)) (fun _ _ _ _ _=>(pg_tup rfl (pgs_cons (pg_name (i:=6) sc_places_right.nd rfl (by first|exact Or.inl rfl|exact Or.inr rfl)) (pgs_cons (pg_name (i:=7) sc_places_right.nd rfl (by first|exact Or.inl rfl|exact Or.inr rfl)) pgs_nil)))) (fun σC pinsC sC HC CC clC fpC IC fC=>(pts_one (yt_cmp (op_zNeD hr.units) (ye_hand (k:=80) (LS:=(LS_places_right K)) (giv_refused B GC j3 j4) rfl IC fC (hr.mono (by decide)) rfl (List.forall_mem_cons.mpr ⟨⟨show LamX.LamS (defScope s_places_right) (scOf (eArg (eArg (sVal ((defBody s_places_right).getD 1 default)) 0) 0)) from LamX.lamS_by (by decide+kernel),fun _ _ _ _ _=>rfl,fun A1 outer1 s1 H1 EL f1 c1 hr=>(have tkl:Takes (LamX.lamCx (cxOf (L2.CX P w) P w K mg base N_places_right "_law_places_right" (defScope s_places_right) (He.fAd K ("_law_places_right",none)) (.ref (He.cT K ("_law_places_right",none)).1) A outer s H E) A1 outer1 s1 H1 EL (scOf (eArg (eArg (sVal ((defBody s_places_right).getD 1 default)) 0) 0)) f1 c1) (fun cls d _ H=>EL cls d H):=takes_of rfl rfl rfl rfl;(ye_meth j1 tkl (hr.mono (by decide)) (yv 1) (pa_cons (yv 4) (pa_cons (pe_tup (pa_cons pe_str (pa_cons pe_int pa_nil))) pa_nil))))⟩,(List.forall_mem_cons.mpr ⟨⟨show LamX.LamS (defScope s_places_right) (scOf (eArg (eArg (sVal ((defBody s_places_right).getD 2 default)) 0) 0)) from LamX.lamS_by (by decide+kernel),fun _ _ _ _ _=>rfl,fun A1 outer1 s1 H1 EL f1 c1 hr=>(have tkl:Takes (LamX.lamCx (cxOf (L2.CX P w) P w K mg base N_places_right "_law_places_right" (defScope s_places_right) (He.fAd K ("_law_places_right",none)) (.ref (He.cT K ("_law_places_right",none)).1) A outer s H E) A1 outer1 s1 H1 EL (scOf (eArg (eArg (sVal ((defBody s_places_right).getD 2 default)) 0) 0)) f1 c1) (fun cls d _ H=>EL cls d H):=takes_of rfl rfl rfl rfl;(ye_meth j1 tkl (hr.mono (by decide)) (yv 1) (pa_cons (yv 2) (pa_cons (pe_tup (pa_cons pe_str (pa_cons pe_int pa_nil))) pa_nil))))⟩,(List.forall_mem_cons.mpr ⟨⟨show LamX.LamS (defScope s_places_right) (scOf (eArg (eArg (sVal ((defBody s_places_right).getD 3 default)) 0) 0)) from LamX.lamS_by (by decide+kernel),fun _ _ _ _ _=>rfl,fun A1 outer1 s1 H1 EL f1 c1 hr=>(have tkl:Takes (LamX.lamCx (cxOf (L2.CX P w) P w K mg base N_places_right "_law_places_right" (defScope s_places_right) (He.fAd K ("_law_places_right",none)) (.ref (He.cT K ("_law_places_right",none)).1) A outer s H E) A1 outer1 s1 H1 EL (scOf (eArg (eArg (sVal ((defBody s_places_right).getD 3 default)) 0) 0)) f1 c1) (fun cls d _ H=>EL cls d H):=takes_of rfl rfl rfl rfl;(ye_meth j1 tkl (hr.mono (by decide)) (yv 1) (pa_cons (yv 2) (pa_cons (pe_tup (pa_cons (yv 3) (pa_cons pe_int pa_nil))) pa_nil))))⟩,(List.forall_mem_cons.mpr ⟨⟨show LamX.LamS (defScope s_places_right) (scOf (eArg (eArg (sVal ((defBody s_places_right).getD 4 default)) 0) 0)) from LamX.lamS_by (by decide+kernel),fun _ _ _ _ _=>rfl,fun A1 outer1 s1 H1 EL f1 c1 hr=>(have tkl:Takes (LamX.lamCx (cxOf (L2.CX P w) P w K mg base N_places_right "_law_places_right" (defScope s_places_right) (He.fAd K ("_law_places_right",none)) (.ref (He.cT K ("_law_places_right",none)).1) A outer s H E) A1 outer1 s1 H1 EL (scOf (eArg (eArg (sVal ((defBody s_places_right).getD 4 default)) 0) 0)) f1 c1) (fun cls d _ H=>EL cls d H):=takes_of rfl rfl rfl rfl;(ye_meth j1 tkl (hr.mono (by decide)) (yv 1) (pa_cons (yv 2) (pa_cons (pe_tup (pa_cons (yv 3) (pa_cons (pe_un un_zNeg pe_int) pa_nil))) pa_nil))))⟩,(List.forall_mem_cons.mpr ⟨⟨show LamX.LamS (defScope s_places_right) (scOf (eArg (eArg (sVal ((defBody s_places_right).getD 5 default)) 0) 0)) from LamX.lamS_by (by decide+kernel),fun _ _ _ _ _=>rfl,fun A1 outer1 s1 H1 EL f1 c1 hr=>(have tkl:Takes (LamX.lamCx (cxOf (L2.CX P w) P w K mg base N_places_right "_law_places_right" (defScope s_places_right) (He.fAd K ("_law_places_right",none)) (.ref (He.cT K ("_law_places_right",none)).1) A outer s H E) A1 outer1 s1 H1 EL (scOf (eArg (eArg (sVal ((defBody s_places_right).getD 5 default)) 0) 0)) f1 c1) (fun cls d _ H=>EL cls d H):=takes_of rfl rfl rfl rfl;(ye_new (x:= "Saying") j2 tkl (hr.mono (by decide)) rfl (pa_cons (pe_lst pa_nil) (pa_cons pe_str pa_nil))))⟩,(List.forall_mem_cons.mpr ⟨⟨show LamX.LamS (defScope s_places_right) (scOf (eArg (eArg (sVal ((defBody s_places_right).getD 6 default)) 0) 0)) from LamX.lamS_by (by decide+kernel),fun _ _ _ _ _=>rfl,fun A1 outer1 s1 H1 EL f1 c1 hr=>(have tkl:Takes (LamX.lamCx (cxOf (L2.CX P w) P w K mg base N_places_right "_law_places_right" (defScope s_places_right) (He.fAd K ("_law_places_right",none)) (.ref (He.cT K ("_law_places_right",none)).1) A outer s H E) A1 outer1 s1 H1 EL (scOf (eArg (eArg (sVal ((defBody s_places_right).getD 6 default)) 0) 0)) f1 c1) (fun cls d _ H=>EL cls d H):=takes_of rfl rfl rfl rfl;(ye_new (x:= "Saying") j2 tkl (hr.mono (by decide)) rfl (pa_cons (pe_lst (pa_cons (yv 3) (pa_cons (yv 3) pa_nil))) (pa_cons pe_str pa_nil))))⟩,(fun _ z=>nomatch z)⟩)⟩)⟩)⟩)⟩)⟩) (yv 6)) (yv 7) (by rfl)))) (fun _ _ _ _ _=>(yv 7))) (pe_lst pa_nil) (by rfl)))))))))))
end
section
variable {K:Kf} {vs:List V} {H:Hp} {Q:VK} {E:XK}
def sp_law (K:Kf):Sp:=fun vs H Q _=>∃(s:Addr) (ns:List Int),vs= [.ref s]∧SqL K H s (ns.map V.int)∧LamX.Tabs (TB K) H∧FS K∧XFs K ERR∧∀H',Q (.bl true) H'
theorem for_rng {te:TE} {j:Nat} {tb rest:TS} {D:Ends} {σ:L2.St} {z:Int} (h:∀R:VK,R (.int z) H→te σ H R) (z0:0≤z) (z1:z<1000000) (Pv:Nat→L2.St→Hp→Prop) (p0:Pv 0 σ H)
 (step:∀(i:Nat) (σ:L2.St) (G:Hp),i<z.toNat→Pv i σ G→tb {nx:=Pv (i+1),rt:=D.rt,ct:=Pv (i+1),bk:=rest D} (σ.set j (some (.int (i:Nat)))) G) (fin:∀σ G,Pv z.toNat σ G→rest D σ G):tSeq (yFor (jRng te) (gName j) tb) rest D σ H:=by
 refine h _ ⟨by omega,by omega,Pv,p0,fun _ _ _ _ _=>trivial,?_,fin⟩
 rintro i x σ G G' hi hp ⟨rfl,rfl⟩
 have ex:((fun i:Nat=>V.int (0+(i:Int))) i)=V.int ((i:Nat):Int):=by
  show V.int (0+_)=_
  rw[Int.zero_add]
 rw[ex]
 exact step i σ _ hi hp
def N_law:List Str:= ["_law_script","_law_pen","_law_turn","_law_tracks","_law_words","_law_saying","_law_text","_law_told","_law_signs","_law_again","_law_at","_law_plain","_law_made","_law_place","_law_k"]
def t_law (K:Kf) (E:XK):TS:=
 (tSeq (tAsg (yCall (sp_begun_pen K) E0 (tCons (yVar 0) tNil)) (gName 1))
    (tSeq (yFor (jRng (tOp zAdd (tC (.int 3)) (tCB zMin (tCons (tC (.int 3)) (tCons (tCB (zLen K) (tCons (yVar 0) tNil)) tNil))))) (gName 2) (tSeq (tAsg (tTup (tCons (yCall (sp_new_tracks K) E0 (tCons (yVar 1) (tCons (tC (.int 3)) tNil))) (tCons (tOp zRepL (tLst (tCons (tC (.str "here")) tNil)) (tCB zInt (tCons (tOp zGt (yCall (sp_draw K) E0 (tCons (yVar 1) (tCons (tC (.int 3)) tNil))) (tC (.int 0))) tNil))) tNil))) (gTup K 2 (gCons (gName 3) (gCons (gName 4) gNil))))
    (tSeq (tAsg (yCall (sp_new_saying 3 K) E0 (tCons (yVar 1) (tCons (yVar 3) (tCons (tOp zAdd (tC (.int 1)) (yCall (sp_draw K) E0 (tCons (yVar 1) (tCons (tC (.int 4)) tNil)))) (tCons (yVar 4) (tCons (tC (.int 3)) tNil)))))) (gName 5))
    (tSeq (tAsg (yCall (sp_saying_text 24 K) E0 (tCons (yVar 5) tNil)) (gName 6))
    (tSeq (tAsg (tTup (tCons (yNew (He.ga K "Saying") (sp_Saying_init K) W0 (tCons (yIfE (yTst (tOp zEq (yVar 2) (tC (.int 1)))) (tCB (zTuple K) (tCons (yVar 3) tNil)) (tCB (zList K) (tCons (yVar 3) tNil))) (tCons (yVar 6) tNil))) (tCons (tBM K "str" zSplit (yVar 6) (tCons (tC (.str " ")) tNil)) tNil))) (gTup K 2 (gCons (gName 7) (gCons (gName 8) gNil))))
    (tSeq (yIf (yTst (tOp (zNeD K) (tLst (tCons (yFld (isC K ["Saying"]) (yVar 7) "text") (tCons (yFld (isC K ["Saying"]) (yVar 7) "tracks") (tCons (yFld (isC K ["Saying"]) (yVar 7) "has_here") tNil)))) (tLst (tCons (yVar 6) (tCons (tCB (zTuple K) (tCons (yVar 3) tNil)) (tCons (tOp (zIn K false) (tC (.str "here")) (yVar 8)) tNil)))))) (tRet (tC (.bl false))) tNext)
    (tSeq (yFor (jRng (tC (.int 6))) (gName 9) (tSeq (tAsg (yCall (sp_new_sheet K) E0 (tCons (yVar 1) (tCons (yVar 3) (tCons (tOp zAdd (tC (.int 1)) (yCall (sp_draw K) E0 (tCons (yVar 1) (tCons (tC (.int 9)) tNil)))) tNil)))) (gName 11))
    (tSeq (yPar 12 13 (tCons (yNew (He.ga K "Sheet") (sp_Sheet_init K) W0 (tCons (yCall (sp_sheet_text K) E0 (tCons (yVar 11) tNil)) tNil)) (tCons (yCall (sp_drawn_place K) E0 (tCons (yVar 1) (tCons (yVar 11) tNil))) tNil)))
    (yIf (yTst (tOp zNe (tCB zRepr (tCons (yMeth (He.ga K "Saying") "holds" (sp_Saying_holds K) W0 (yVar 7) (tCons (yVar 12) (tCons (yVar 13) tNil))) tNil)) (tCB zRepr (tCons (yCall (sp_says 24 K) E0 (tCons (yVar 11) (tCons (yVar 5) (tCons (tDisp (((tC (.str "here")),(tOp (zIxL K) (yVar 13) (tC (.int 1))))::[])) tNil)))) tNil)))) (tRet (tC (.bl false))) tNext))))
    (tSeq (tAsg (yCall (sp_draw K) E0 (tCons (yVar 1) (tCons (tCB (zLen K) (tCons (yVar 8) tNil)) tNil))) (gName 10))
    (tSeq (yIf (yTst (tOp zNe (yCall (sp_bad K) E0 (tCons (yVar 3) (tCons (tOp zCatL (tOp zCatL (tSl (zSlL K) (yVar 8) tNoPart (tPart (yVar 10))) (tLst (tCons (tC (.str "A")) tNil))) (tSl (zSlL K) (yVar 8) (tPart (tOp zAdd (yVar 10) (tC (.int 1)))) tNoPart)) tNil))) (yVar 10))) (tRet (tC (.bl false))) tNext)
    (tSeq (yIf (yTst (tOp (zNeD K) (yLc (jRng (tOp zAdd (tCB (zLen K) (tCons (yVar 8) tNil)) (tC (.int 1)))) (gName 14) (yTst (tOp zNe (yCall (sp_bad K) E0 (tCons (yVar 3) (tCons (tOp zCatL (tOp zCatL (tSl (zSlL K) (yVar 8) tNoPart (tPart (yVar 14))) (tLst (tCons (tC (.str "")) tNil))) (tSl (zSlL K) (yVar 8) (tPart (yVar 14)) tNoPart)) tNil))) (yVar 14))) (yVar 14) [14]) (tLst tNil))) (tRet (tC (.bl false))) tNext)
    (tSeq (yIf (yNot (yTst (yCall (sp_ranks_right K) E0 (tCons (yVar 3) (tCons (yVar 12) (tCons (yVar 13) (tCons (tOp zEq (tOp (zIxL K) (tOp (zIxL K) (yDGet (yVar 11) (tC (.str "cols"))) (tOp (zIxL K) (yVar 13) (tC (.int 1)))) (tC (.int 0))) (tC (.int 1))) tNil))))))) (tRet (tC (.bl false))) tNext)
    (tSeq (yIf (yOr (yTst (tOp zNe (yCall (sp_bad K) E0 (tCons (yVar 3) (tCons (tSl (zSlL K) (yVar 8) tNoPart (tPart (tUn zNeg (tC (.int 1))))) tNil))) (tOp zSub (tCB (zLen K) (tCons (yVar 8) tNil)) (tC (.int 1))))) (yTst (tOp zNe (yCall (sp_bad K) E0 (tCons (yVar 3) (tCons (tOp zCatL (yVar 8) (tLst (tCons (tC (.str "here")) tNil))) tNil))) (tCB (zLen K) (tCons (yVar 8) tNil))))) (tRet (tC (.bl false))) tNext)
    (yIf (yOr (yNot (yTst (yCall (sp_hand_right K) E0 (tCons (yVar 3) tNil)))) (yNot (yTst (yCall (sp_places_right K) E0 (tCons (yVar 3) (tCons (yVar 7) (tCons (yVar 12) tNil))))))) (tRet (tC (.bl false))) tNext)))))))))))))
    (tRet (tC (.bl true)))))
theorem pure_law (h:sp_law K vs H Q E0):t_law K E0 {nx:=fun _ H'=>Q .non H',rt:=Q} (start N_law vs) H:=by
 obtain⟨s,ns,rfl,hs,T,F,XF,q⟩:=h
 unfold t_law
 refine seq_id ⟨s,ns,rfl,hs,fun p c H1 e1 P1=> ?_⟩
 have hz:0≤(if(((ns.map V.int).length:Nat):Int)<3 then(((ns.map V.int).length:Nat):Int) else 3)∧(if(((ns.map V.int).length:Nat):Int)<3 then(((ns.map V.int).length:Nat):Int) else 3)≤3:=by
  split<;>omega
 refine for_rng (z:=3+(if(((ns.map V.int).length:Nat):Int)<3 then(((ns.map V.int).length:Nat):Int) else 3)) (fun R hR=>⟨ns.map V.int,.inl (e1.kp.sqL hs),hR⟩) (by omega) (by omega) (fun i σ G=>(∃x2 x3 x4 x5 x6 x7 x8 x9 x10 x11 x12 x13 x14,σ= [some (.ref s),some (.ref p),x2,x3,x4,x5,x6,x7,x8,x9,x10,x11,x12,x13,x14])∧PenAt G p c (600*i)∧LamX.Tabs (TB K) G)
  ⟨⟨_,_,_,_,_,_,_,_,_,_,_,_,_,rfl⟩,P1,T.ext e1⟩ ?_ fun σ G _=>q G
 rintro i σ G hi ⟨⟨x2,x3,x4,x5,x6,x7,x8,x9,x10,x11,x12,x13,x14,rfl⟩,PG,TG⟩
 have hi:i<6:=by omega
 refine turn (K:=K) (E:=E0) F XF PG TG (by omega) fun y2 y3 y4 y5 y6 y7 y8 y9 y10 y11 y12 y13 y14 G2 P2 T2=> ?_
 exact⟨⟨_,_,_,_,_,_,_,_,_,_,_,_,_,rfl⟩,P2.mono (by omega),T2⟩
end
section
variable {P:Program} {w:World} {K:Kf} {mg:Str→Option Value} {base:Heap}
abbrev s_law:Stmt:=top 57
theorem sc_law:FnScope N_law ["_law_script"] (defScope s_law):=⟨rfl,rfl,rfl,by decide+kernel,rfl,by decide+kernel,by decide+kernel⟩
theorem ok_law {fd:FuncData} (B:Blt mg) (j14:Cal P w K mg base "_law_begun_pen" (1) ["_law_script"] (sp_begun_pen K)) (j1:Cal P w K mg base "_law_draw" (1) ["_law_pen","_law_span"] (sp_draw K)) (j9:Cal P w K mg base "_law_new_tracks" (4) ["_law_pen","_law_most"] (sp_new_tracks K)) (j10:Cal P w K mg base "_law_new_saying" (11) ["_law_pen","_law_tracks","_law_bound","_law_words","_law_blocks"] (sp_new_saying 3 K)) (j4:Cal P w K mg base "_law_saying_text" (24) ["_law_saying"] (sp_saying_text 24 K)) (j5:OM P w K mg base "Saying" (68) ["self","tracks","text"] (sp_Saying_init K)) (j15:Cal P w K mg base "_law_new_sheet" (2) ["_law_pen","_law_tracks","_law_many"] (sp_new_sheet K)) (j6:Cal P w K mg base "_law_drawn_place" (3) ["_law_pen","_law_sheet"] (sp_drawn_place K)) (j11:OM P w K mg base "Sheet" (4) ["self","text"] (sp_Sheet_init K)) (j12:Cal P w K mg base "_law_sheet_text" (2) ["_law_sheet"] (sp_sheet_text K)) (j2:OMe P w K mg base "Saying" "holds" (35) ["self","sheet","place"] (sp_Saying_holds K)) (j16:Cal P w K mg base "_law_says" (28) ["_law_sheet","_law_saying","_law_spots"] (sp_says 24 K)) (j8:Cal P w K mg base "_law_bad" (70) ["_law_tracks","_law_words"] (sp_bad K)) (j7:Cal P w K mg base "_law_ranks_right" (70) ["_law_tracks","_law_made","_law_place","_law_is_filled"] (sp_ranks_right K)) (j3:Cal P w K mg base "_law_places_right" (90) ["_law_tracks","_law_told","_law_made"] (sp_places_right K)) (j13:Cal P w K mg base "_law_hand_right" (71) ["_law_tracks"] (sp_hand_right K)) (CF:∀x f,(x,f)∈fldN→Cls K (He.ga K x)∧NoAttr K (He.ga K x) f) (F:FunD K "law" "law" (defArgs s_law) (defBody s_law) (defScope s_law) [] [] (He.fAd K ("law",none)) fd):AtCaller P w K mg base (He.fAd K ("law",none)) fd "_law_script" (sp_law K):=by
 refine atCaller (pd:=("law",none)) F sc_law ⟨rfl,by decide,by decide⟩ (k:=91) (fun s H v Q hr h=>⟨t_law K E0,?_,pure_law h⟩)
 have hu:=hu_of hr
 have po:=passes_of (X:=(cxOf CX0 P w K mg base N_law "law" (defScope s_law) (He.fAd K ("law",none)) (.ref (He.cT K ("law",none)).1) callerA [] s H E0)) rfl
 exact(pss_cons (ps_set (i:=1) sc_law.nd rfl (by first|exact Or.inl rfl|exact Or.inr rfl) (ye_call j14 (hr.mono (by decide)) rfl (pa_cons (yv 0) pa_nil)))
  (pss_cons (ys_for po rfl (j_rng rfl B.range (pe_op op_zAdd pe_int (pe_callB (cr_min rfl) rfl B.min (by decide+kernel) (pa_cons pe_int (pa_cons (pe_callB cr_len rfl B.len boot_len (pa_cons (yv 0) pa_nil)) pa_nil))))) (pg_name (i:=2) sc_law.nd rfl (by first|exact Or.inl rfl|exact Or.inr rfl)) (pss_cons (ps_asg (pe_tup (pa_cons (ye_call j9 (hr.mono (by decide)) rfl (pa_cons (yv 1) (pa_cons pe_int pa_nil))) (pa_cons (pe_op op_zRepL (pe_lst (pa_cons pe_str pa_nil)) (pe_callTy cr_int rfl B.int boot_int (pa_cons (pe_cmpR op_zGt (ye_call j1 (hr.mono (by decide)) rfl (pa_cons (yv 1) (pa_cons pe_int pa_nil))) pe_int (by rfl)) pa_nil))) pa_nil))) (pg_tup rfl (pgs_cons (pg_name (i:=3) sc_law.nd rfl (by first|exact Or.inl rfl|exact Or.inr rfl)) (pgs_cons (pg_name (i:=4) sc_law.nd rfl (by first|exact Or.inl rfl|exact Or.inr rfl)) pgs_nil))))
  (pss_cons (ps_set (i:=5) sc_law.nd rfl (by first|exact Or.inl rfl|exact Or.inr rfl) (ye_call j10 (hr.mono (by decide)) rfl (pa_cons (yv 1) (pa_cons (yv 3) (pa_cons (pe_op op_zAdd pe_int (ye_call j1 (hr.mono (by decide)) rfl (pa_cons (yv 1) (pa_cons pe_int pa_nil)))) (pa_cons (yv 4) (pa_cons pe_int pa_nil)))))))
  (pss_cons (ps_set (i:=6) sc_law.nd rfl (by first|exact Or.inl rfl|exact Or.inr rfl) (ye_call j4 (hr.mono (by decide)) rfl (pa_cons (yv 5) pa_nil)))
  (pss_cons (ps_asg (pe_tup (pa_cons (ye_new j5 tk0 (hr.mono (by decide)) rfl (pa_cons (ye_if (yt_cmp op_zEq (yv 2) pe_int (by rfl)) (pe_callTy cr_tuple rfl B.tuple (by decide+kernel) (pa_cons (yv 3) pa_nil)) (pe_callTy cr_list rfl B.list (by decide+kernel) (pa_cons (yv 3) pa_nil))) (pa_cons (yv 6) pa_nil))) (pa_cons (pe_bm PySem.F.plainAttrs_str PySem.F.slot_str_split PySem.F.type_str_split mt_zSplit (yv 6) (pa_cons pe_str pa_nil)) pa_nil))) (pg_tup rfl (pgs_cons (pg_name (i:=7) sc_law.nd rfl (by first|exact Or.inl rfl|exact Or.inr rfl)) (pgs_cons (pg_name (i:=8) sc_law.nd rfl (by first|exact Or.inl rfl|exact Or.inr rfl)) pgs_nil))))
  (pss_cons (ys_if (yt_cmp (op_zNeD hr.units) (pe_lst (pa_cons (ye_fld (cf1 (CF "Saying" "text" (by decide))) (yv 7) rfl) (pa_cons (ye_fld (cf1 (CF "Saying" "tracks" (by decide))) (yv 7) rfl) (pa_cons (ye_fld (cf1 (CF "Saying" "has_here" (by decide))) (yv 7) rfl) pa_nil)))) (pe_lst (pa_cons (yv 6) (pa_cons (pe_callTy cr_tuple rfl B.tuple (by decide+kernel) (pa_cons (yv 3) pa_nil)) (pa_cons (pe_cmpR op_zIn pe_str (yv 8) (by rfl)) pa_nil)))) (by rfl)) (pss_one (ps_ret pe_bl)) pss_nil)
  (pss_cons (ys_for po rfl (j_rng rfl B.range pe_int) (pg_name (i:=9) sc_law.nd rfl (by first|exact Or.inl rfl|exact Or.inr rfl)) (pss_cons (ps_set (i:=11) sc_law.nd rfl (by first|exact Or.inl rfl|exact Or.inr rfl) (ye_call j15 (hr.mono (by decide)) rfl (pa_cons (yv 1) (pa_cons (yv 3) (pa_cons (pe_op op_zAdd pe_int (ye_call j1 (hr.mono (by decide)) rfl (pa_cons (yv 1) (pa_cons pe_int pa_nil)))) pa_nil)))))
  (pss_cons (ys_par (ps_par (i:=12) (j:=13) (by rfl) sc_law.nd rfl rfl (by decide) rfl rfl (PA.up (pa_cons (ye_new j11 tk0 (hr.mono (by decide)) rfl (pa_cons (ye_call j12 (hr.mono (by decide)) rfl (pa_cons (yv 11) pa_nil)) pa_nil)) (pa_cons (ye_call j6 (hr.mono (by decide)) rfl (pa_cons (yv 1) (pa_cons (yv 11) pa_nil))) pa_nil))) (by rfl)))
  (pss_one (ys_if (yt_cmp op_zNe (pe_callB cr_repr rfl B.repr (by decide+kernel) (pa_cons (ye_meth j2 tk0 (hr.mono (by decide)) (yv 7) (pa_cons (yv 12) (pa_cons (yv 13) pa_nil))) pa_nil)) (pe_callB cr_repr rfl B.repr (by decide+kernel) (pa_cons (ye_call j16 (hr.mono (by decide)) rfl (pa_cons (yv 11) (pa_cons (yv 5) (pa_cons (pe_disp (pps_cons pe_str (pe_ix ix_zIxL (yv 13) pe_int (fun _ _=>rfl)) pps_nil) (by rfl) (by rfl) (by simp) (by decide)) pa_nil)))) pa_nil)) (by rfl)) (pss_one (ps_ret pe_bl)) pss_nil)))))
  (pss_cons (ps_set (i:=10) sc_law.nd rfl (by first|exact Or.inl rfl|exact Or.inr rfl) (ye_call j1 (hr.mono (by decide)) rfl (pa_cons (yv 1) (pa_cons (pe_callB cr_len rfl B.len boot_len (pa_cons (yv 8) pa_nil)) pa_nil))))
  (pss_cons (ys_if (yt_cmp op_zNe (ye_call j8 (hr.mono (by decide)) rfl (pa_cons (yv 3) (pa_cons (pe_op op_zCatL (pe_op op_zCatL (pe_slice sl_zL (yv 8) po_none (po_some (yv 10))) (pe_lst (pa_cons pe_str pa_nil))) (pe_slice sl_zL (yv 8) (po_some (pe_op op_zAdd (yv 10) pe_int)) po_none)) pa_nil))) (yv 10) (by rfl)) (pss_one (ps_ret pe_bl)) pss_nil)
  (pss_cons (ys_if (yt_cmp (op_zNeD hr.units) (ye_lc (own:= [("_law_k",14)]) (g:=(gName 14)) (tt:=(yTst (tOp zNe (yCall (sp_bad K) E0 (tCons (yVar 3) (tCons (tOp zCatL (tOp zCatL (tSl (zSlL K) (yVar 8) tNoPart (tPart (yVar 14))) (tLst (tCons (tC (.str "")) tNil))) (tSl (zSlL K) (yVar 8) (tPart (yVar 14)) tNoPart)) tNil))) (yVar 14)))) rfl sc_law.nd (j_rng rfl B.range (pe_op op_zAdd (pe_callB cr_len rfl B.len boot_len (pa_cons (yv 8) pa_nil)) pe_int)) (blkOk_by (N:=N_law) (sc:=defScope s_law) (by decide+kernel)) (fun _ _ _ _ _=>(pg_name (i:=14) sc_law.nd rfl (by first|exact Or.inl rfl|exact Or.inr rfl))) (fun _ _ _ _ _=>(pts_one (yt_cmp op_zNe (ye_call j8 (hr.mono (by decide)) rfl (pa_cons (yv 3) (pa_cons (pe_op op_zCatL (pe_op op_zCatL (pe_slice sl_zL (yv 8) po_none (po_some (yv 14))) (pe_lst (pa_cons pe_str pa_nil))) (pe_slice sl_zL (yv 8) (po_some (yv 14)) po_none)) pa_nil))) (yv 14) (by rfl)))) (fun _ _ _ _ _=>(yv 14))) (pe_lst pa_nil) (by rfl)) (pss_one (ps_ret pe_bl)) pss_nil)
  (pss_cons (ys_if (yt_not (yt_val (ye_call j7 (hr.mono (by decide)) rfl (pa_cons (yv 3) (pa_cons (yv 12) (pa_cons (yv 13) (pa_cons (pe_cmpR op_zEq (pe_ix ix_zIxL (pe_ix ix_zIxL (ye_dget hu (yv 11) pe_str (fun _ _=>rfl)) (pe_ix ix_zIxL (yv 13) pe_int (fun _ _=>rfl)) (fun _ _=>rfl)) pe_int (fun _ _=>rfl)) pe_int (by rfl)) pa_nil))))))) (pss_one (ps_ret pe_bl)) pss_nil)
  (pss_cons (ys_if (PW.pt (yt_or (yt_cmp op_zNe (ye_call j8 (hr.mono (by decide)) rfl (pa_cons (yv 3) (pa_cons (pe_slice sl_zL (yv 8) po_none (po_some (pe_un un_zNeg pe_int))) pa_nil))) (pe_op op_zSub (pe_callB cr_len rfl B.len boot_len (pa_cons (yv 8) pa_nil)) pe_int) (by rfl)) (pw_or1 (yt_cmp op_zNe (ye_call j8 (hr.mono (by decide)) rfl (pa_cons (yv 3) (pa_cons (pe_op op_zCatL (yv 8) (pe_lst (pa_cons pe_str pa_nil))) pa_nil))) (pe_callB cr_len rfl B.len boot_len (pa_cons (yv 8) pa_nil)) (by rfl))))) (pss_one (ps_ret pe_bl)) pss_nil)
  (pss_one (ys_if (PW.pt (yt_or (yt_not (yt_val (ye_call j13 (hr.mono (by decide)) rfl (pa_cons (yv 3) pa_nil)))) (pw_or1 (yt_not (yt_val (ye_call j3 (hr.mono (by decide)) rfl (pa_cons (yv 3) (pa_cons (yv 7) (pa_cons (yv 12) pa_nil))))))))) (pss_one (ps_ret pe_bl)) pss_nil))))))))))))))
  (pss_one (ps_ret pe_bl))))
abbrev s_p_check_tracks:Stmt:=top 19
theorem sc_p_check_tracks:FnScope N_p_check_tracks ["tracks"] (defScope s_p_check_tracks):=⟨rfl,rfl,rfl,by decide+kernel,rfl,by decide+kernel,by decide+kernel⟩
theorem ok_p_check_tracks {f:Addr} {fd:FuncData} (B:Blt mg) (j2:Cal P w K mg base "is_name" (1) ["word"] (sp_p_is_name K)) (j1:Mk P w K mg base "BadTracks" (He.ga K "BadTracks") ["self","index"] (spI1 (He.ga K "BadTracks") "index" fmtOk)) (k_MOST_TRACKS:∃u,mg "MOST_TRACKS"=some u∧RelV (.int 3) u) (F:FunD K "check_tracks" "check_tracks" (defArgs s_p_check_tracks) (defBody s_p_check_tracks) (defScope s_p_check_tracks) [] [] f fd):FnOk P w K mg base (L2.CX P w) (3) f fd ["tracks"] (sp_p_check_tracks K):=by
 refine F.ok sc_p_check_tracks (fun vs H Q E h=>len_p_check_tracks h) (fun cdv A outer s H vs Q E hr h=>⟨t_p_check_tracks K E,?_,pure_p_check_tracks h⟩)
 have po:=passes_of (X:=cxOf (L2.CX P w) P w K mg base N_p_check_tracks "check_tracks" (defScope s_p_check_tracks) f cdv A outer s H E) rfl
 have tk:Takes (cxOf (L2.CX P w) P w K mg base N_p_check_tracks "check_tracks" (defScope s_p_check_tracks) f cdv A outer s H E) (fun cls d _ H=>E cls d H):=takes_of rfl rfl rfl rfl
 exact(pss_cons (ys_for po rfl (j_or (j_enum rfl B.enumerate (yv 0)) (j_enumT rfl B.enumerate (yv 0))) (pg_tup rfl (pgs_cons (pg_name (i:=1) sc_p_check_tracks.nd rfl (by first|exact Or.inl rfl|exact Or.inr rfl)) (pgs_cons (pg_name (i:=2) sc_p_check_tracks.nd rfl (by first|exact Or.inl rfl|exact Or.inr rfl)) pgs_nil))) (pss_one (ys_if (PW.pt (yt_or (yt_cmp op_zEq (yv 1) (pe_globE rfl k_MOST_TRACKS) (by rfl)) (yt_or (yt_not (yt_val (ye_call j2 (hr.mono (by decide)) rfl (pa_cons (yv 2) pa_nil)))) (pw_or1 (yt_cmp op_zIn (yv 2) (ye_or2 (pe_slice sl_zL (yv 0) po_none (po_some (yv 1))) (pe_slice sl_zT (yv 0) po_none (po_some (yv 1)))) (by rfl)))))) (pss_one (ys_raise rfl tk (pm_mk j1 (hr.mono (by decide)) rfl (pa_cons (yv 1) pa_nil)))) pss_nil)))
  (pss_one (ys_if (yt_cmp op_zEq (pe_callB cr_len rfl B.len boot_len (pa_cons (yv 0) pa_nil)) pe_int (by rfl)) (pss_one (ys_raise rfl tk (pm_mk j1 (hr.mono (by decide)) rfl (pa_cons pe_int pa_nil)))) pss_nil)))
abbrev s_SayingReader_super_init:Stmt:=inClass (top 29) 0
theorem sc_SayingReader_super_init:FnScope N_SayingReader_super_init ["self","tracks","words"] (defScope s_SayingReader_super_init):=⟨rfl,rfl,rfl,by decide+kernel,rfl,by decide+kernel,by decide+kernel⟩
theorem ok_SayingReader_super_init {f:Addr} {fd:FuncData} (B:Blt mg) (k_MOST_PARTS:∃u,mg "MOST_PARTS"=some u∧RelV (.int 8) u) (CF:∀x f,(x,f)∈fldN→Cls K (He.ga K x)∧NoAttr K (He.ga K x) f) (F:FunD K "__init__" "Reader.__init__" (defArgs s_SayingReader_super_init) (defBody s_SayingReader_super_init) (defScope s_SayingReader_super_init) [] [] f fd):FnOk P w K mg base (L2.CX P w) (1) f fd ["self","tracks","words"] (sp_SayingReader_super_init K):=by
 refine F.ok sc_SayingReader_super_init (fun vs H Q E h=>len_SayingReader_super_init h) (fun cdv A outer s H vs Q E hr h=>⟨t_SayingReader_super_init K E,?_,pure_SayingReader_super_init h⟩)
 exact(pss_cons (ys_fld (cf1 (CF "SayingReader" "tracks" (by decide))) (yv 0) (yv 1) rfl)
  (pss_cons (ys_fld (cf1 (CF "SayingReader" "words" (by decide))) (yv 0) (yv 2) rfl)
  (pss_cons (ys_fld (cf1 (CF "SayingReader" "spot" (by decide))) (yv 0) pe_int rfl)
  (pss_cons (ys_fld (cf1 (CF "SayingReader" "parts_left" (by decide))) (yv 0) (pe_globE rfl k_MOST_PARTS) rfl)
  (pss_one (ys_fld (cf1 (CF "SayingReader" "open_ones" (by decide))) (yv 0) pe_int rfl))))))
abbrev s_SayingReader_word:Stmt:=inClass (top 29) 1
theorem sc_SayingReader_word:FnScope N_SayingReader_word ["self"] (defScope s_SayingReader_word):=⟨rfl,rfl,rfl,by decide+kernel,rfl,by decide+kernel,by decide+kernel⟩
theorem ok_SayingReader_word {f:Addr} {fd:FuncData} (B:Blt mg) (CF:∀x f,(x,f)∈fldN→Cls K (He.ga K x)∧NoAttr K (He.ga K x) f) (F:FunD K "word" "Reader.word" (defArgs s_SayingReader_word) (defBody s_SayingReader_word) (defScope s_SayingReader_word) [] [] f fd):FnOk P w K mg base (L2.CX P w) (1) f fd ["self"] (sp_SayingReader_word K):=by
 refine F.ok sc_SayingReader_word (fun vs H Q E h=>len_SayingReader_word h) (fun cdv A outer s H vs Q E hr h=>⟨t_SayingReader_word K E,?_,pure_SayingReader_word h⟩)
 exact(pss_one (ps_ret (ye_if (yt_cmp op_zLt (ye_fld (cf1 (CF "SayingReader" "spot" (by decide))) (yv 0) rfl) (pe_callB cr_len rfl B.len boot_len (pa_cons (ye_fld (cf1 (CF "SayingReader" "words" (by decide))) (yv 0) rfl) pa_nil)) (by rfl)) (pe_ix ix_zIxL (ye_fld (cf1 (CF "SayingReader" "words" (by decide))) (yv 0) rfl) (ye_fld (cf1 (CF "SayingReader" "spot" (by decide))) (yv 0) rfl) (fun _ _=>rfl)) pe_str)))
abbrev s_SayingReader_take:Stmt:=inClass (top 29) 2
theorem sc_SayingReader_take:FnScope N_SayingReader_take ["self","is_right"] (defScope s_SayingReader_take):=⟨rfl,rfl,rfl,by decide+kernel,rfl,by decide+kernel,by decide+kernel⟩
theorem ok_SayingReader_take {f:Addr} {fd:FuncData} (B:Blt mg) (m_BadSaying:Mk P w K mg base "BadSaying" (He.ga K "BadSaying") ["self","index"] (spI1 (He.ga K "BadSaying") "index" fmtOk)) (CF:∀x f,(x,f)∈fldN→Cls K (He.ga K x)∧NoAttr K (He.ga K x) f) (F:FunD K "take" "Reader.take" (defArgs s_SayingReader_take) (defBody s_SayingReader_take) (defScope s_SayingReader_take) [] [] f fd):FnOk P w K mg base (L2.CX P w) (3) f fd ["self","is_right"] (sp_SayingReader_take K):=by
 refine F.ok sc_SayingReader_take (fun vs H Q E h=>len_SayingReader_take h) (fun cdv A outer s H vs Q E hr h=>⟨t_SayingReader_take K E,?_,pure_SayingReader_take h⟩)
 have tk:Takes (cxOf (L2.CX P w) P w K mg base N_SayingReader_take "Reader.take" (defScope s_SayingReader_take) f cdv A outer s H E) (fun cls d _ H=>E cls d H):=takes_of rfl rfl rfl rfl
 exact(pss_cons (ys_if (PW.pt (yt_or (yt_not (yt_val (yv 1))) (pw_or1 (yt_cmp op_zGe (ye_fld (cf1 (CF "SayingReader" "spot" (by decide))) (yv 0) rfl) (pe_callB cr_len rfl B.len boot_len (pa_cons (ye_fld (cf1 (CF "SayingReader" "words" (by decide))) (yv 0) rfl) pa_nil)) (by rfl))))) (pss_one (ys_raise rfl tk (pm_mk m_BadSaying (hr.mono (by decide)) rfl (pa_cons (ye_fld (cf1 (CF "SayingReader" "spot" (by decide))) (yv 0) rfl) pa_nil)))) pss_nil)
  (pss_cons (ys_fldaug (cf1 (CF "SayingReader" "spot" (by decide))) (yv 0) pe_int iop_zAdd)
  (pss_one (ps_ret (pe_ix ix_zIxL (ye_fld (cf1 (CF "SayingReader" "words" (by decide))) (yv 0) rfl) (pe_op op_zSub (ye_fld (cf1 (CF "SayingReader" "spot" (by decide))) (yv 0) rfl) pe_int) (fun _ _=>rfl))))))
abbrev s_SayingReader_begin_part:Stmt:=inClass (top 29) 8
theorem sc_SayingReader_begin_part:FnScope N_SayingReader_begin_part ["self"] (defScope s_SayingReader_begin_part):=⟨rfl,rfl,rfl,by decide+kernel,rfl,by decide+kernel,by decide+kernel⟩
theorem ok_SayingReader_begin_part {f:Addr} {fd:FuncData} (B:Blt mg) (m_BadSaying:Mk P w K mg base "BadSaying" (He.ga K "BadSaying") ["self","index"] (spI1 (He.ga K "BadSaying") "index" fmtOk)) (CF:∀x f,(x,f)∈fldN→Cls K (He.ga K x)∧NoAttr K (He.ga K x) f) (F:FunD K "begin_part" "Reader.begin_part" (defArgs s_SayingReader_begin_part) (defBody s_SayingReader_begin_part) (defScope s_SayingReader_begin_part) [] [] f fd):FnOk P w K mg base (L2.CX P w) (3) f fd ["self"] (sp_SayingReader_begin_part K):=by
 refine F.ok sc_SayingReader_begin_part (fun vs H Q E h=>len_SayingReader_begin_part h) (fun cdv A outer s H vs Q E hr h=>⟨t_SayingReader_begin_part K E,?_,pure_SayingReader_begin_part h⟩)
 have tk:Takes (cxOf (L2.CX P w) P w K mg base N_SayingReader_begin_part "Reader.begin_part" (defScope s_SayingReader_begin_part) f cdv A outer s H E) (fun cls d _ H=>E cls d H):=takes_of rfl rfl rfl rfl
 exact(pss_cons (ys_if (yt_cmp op_zEq (ye_fld (cf1 (CF "SayingReader" "parts_left" (by decide))) (yv 0) rfl) pe_int (by rfl)) (pss_one (ys_raise rfl tk (pm_mk m_BadSaying (hr.mono (by decide)) rfl (pa_cons (ye_fld (cf1 (CF "SayingReader" "spot" (by decide))) (yv 0) rfl) pa_nil)))) pss_nil)
  (pss_one (ys_fldaug (cf1 (CF "SayingReader" "parts_left" (by decide))) (yv 0) pe_int iop_zSub)))
abbrev s_SayingReader_column_word:Stmt:=inClass (top 30) 2
theorem sc_SayingReader_column_word:FnScope N_SayingReader_column_word ["self"] (defScope s_SayingReader_column_word):=⟨rfl,rfl,rfl,by decide+kernel,rfl,by decide+kernel,by decide+kernel⟩
theorem ok_SayingReader_column_word {f:Addr} {fd:FuncData} (B:Blt mg) (j1:OMe P w K mg base "SayingReader" "word" (1) ["self"] (sp_SayingReader_word K)) (j2:OMe P w K mg base "SayingReader" "take" (3) ["self","is_right"] (sp_SayingReader_take K)) (CF:∀x f,(x,f)∈fldN→Cls K (He.ga K x)∧NoAttr K (He.ga K x) f) (F:FunD K "column_word" "SayingReader.column_word" (defArgs s_SayingReader_column_word) (defBody s_SayingReader_column_word) (defScope s_SayingReader_column_word) [] [] f fd):FnOk P w K mg base (L2.CX P w) (4) f fd ["self"] (sp_SayingReader_column_word K):=by
 refine F.ok sc_SayingReader_column_word (fun vs H Q E h=>len_SayingReader_column_word h) (fun cdv A outer s H vs Q E hr h=>⟨t_SayingReader_column_word K E,?_,pure_SayingReader_column_word h⟩)
 have tk:Takes (cxOf (L2.CX P w) P w K mg base N_SayingReader_column_word "SayingReader.column_word" (defScope s_SayingReader_column_word) f cdv A outer s H E) (fun cls d _ H=>E cls d H):=takes_of rfl rfl rfl rfl
 exact(pss_cons (ps_set (i:=1) sc_SayingReader_column_word.nd rfl (by first|exact Or.inl rfl|exact Or.inr rfl) (ye_if (yt_cmp op_zIs (ye_fld (cf1 (CF "SayingReader" "bound" (by decide))) (yv 0) rfl) pe_non (by rfl)) (pe_lst pa_nil) (ye_fld (cf1 (CF "SayingReader" "bound" (by decide))) (yv 0) rfl)))
  (pss_one (ps_ret (ye_meth j2 tk (hr.mono (by decide)) (yv 0) (pa_cons (pe_cmpR op_zIn (ye_meth0 j1 tk0 (hr.mono (by decide)) (yv 0)) (pe_lst (pa_cons pe_str (ya_star (yv 1) pa_nil))) (by rfl)) pa_nil)))))
abbrev s_SayingReader_single:Stmt:=inClass (top 29) 6
theorem sc_SayingReader_single:FnScope N_SayingReader_single ["self"] (defScope s_SayingReader_single):=⟨rfl,rfl,rfl,by decide+kernel,rfl,by decide+kernel,by decide+kernel⟩
theorem ok_SayingReader_single {N:Nat} {f:Addr} {fd:FuncData} (B:Blt mg) (j1:OMe P w K mg base "SayingReader" "word" (1) ["self"] (sp_SayingReader_word K)) (j2:OMe P w K mg base "SayingReader" "take" (3) ["self","is_right"] (sp_SayingReader_take K)) (j4:OMe P w K mg base "SayingReader" "single" (5*N+4) ["self"] (sp_SayingReader_single N K)) (j5:OMe P w K mg base "SayingReader" "any_of" (5*N+6) ["self"] (sp_SayingReader_any_of N K)) (j3:OMe P w K mg base "SayingReader" "part_or_block" (5*N+8) ["self"] (sp_SayingReader_part_or_block N K)) (k_MOST_OPEN:∃u,mg "MOST_OPEN"=some u∧RelV (.int 10) u) (CF:∀x f,(x,f)∈fldN→Cls K (He.ga K x)∧NoAttr K (He.ga K x) f) (F:FunD K "single" "Reader.single" (defArgs s_SayingReader_single) (defBody s_SayingReader_single) (defScope s_SayingReader_single) [] [] f fd):FnOk P w K mg base (L2.CX P w) (5*N+9) f fd ["self"] (sp_SayingReader_single (N+1) K):=by
 refine F.ok sc_SayingReader_single (fun vs H Q E h=>len_SayingReader_single h) (fun cdv A outer s H vs Q E hr h=>⟨t_SayingReader_single N K E,?_,pure_SayingReader_single h⟩)
 have tk:Takes (cxOf (L2.CX P w) P w K mg base N_SayingReader_single "Reader.single" (defScope s_SayingReader_single) f cdv A outer s H E) (fun cls d _ H=>E cls d H):=takes_of rfl rfl rfl rfl
 exact(pss_cons (ys_if (yt_cmp op_zIn (ye_meth0 j1 tk0 (hr.mono (by omega)) (yv 0)) (pe_tup (pa_cons pe_str (pa_cons pe_str pa_nil))) (by rfl)) (pss_cons (ps_set (i:=1) sc_SayingReader_single.nd rfl (by first|exact Or.inl rfl|exact Or.inr rfl) (ye_meth j2 tk (hr.mono (by omega)) (yv 0) (pa_cons (pe_cmpR op_zLt (ye_fld (cf1 (CF "SayingReader" "open_ones" (by decide))) (yv 0) rfl) (pe_globE rfl k_MOST_OPEN) (by rfl)) pa_nil)))
  (pss_cons (ys_fldaug (cf1 (CF "SayingReader" "open_ones" (by decide))) (yv 0) pe_int iop_zAdd)
  (pss_cons (ps_set (i:=2) sc_SayingReader_single.nd rfl (by first|exact Or.inl rfl|exact Or.inr rfl) (ye_if (yt_cmp op_zEq (yv 1) pe_str (by rfl)) (pe_tup (pa_cons pe_str (pa_cons (ye_meth0 j4 tk (hr.mono (by omega)) (yv 0)) pa_nil))) (ye_meth0 j5 tk (hr.mono (by omega)) (yv 0))))
  (ys_cut (ys_if (yt_cmp op_zEq (yv 1) pe_str (by rfl)) (pss_one (ps_expr (ye_meth j2 tk (hr.mono (by omega)) (yv 0) (pa_cons (pe_cmpR op_zEq (ye_meth0 j1 tk0 (hr.mono (by omega)) (yv 0)) pe_str (by rfl)) pa_nil)))) pss_nil)
  (pss_cons (ys_fldaug (cf1 (CF "SayingReader" "open_ones" (by decide))) (yv 0) pe_int iop_zSub)
  (pss_one (ps_ret (yv 2)))))))) pss_nil)
  (pss_one (ps_ret (ye_meth0 j3 tk (hr.mono (by omega)) (yv 0)))))
abbrev s_SayingReader_all_of:Stmt:=inClass (top 29) 5
theorem sc_SayingReader_all_of:FnScope N_SayingReader_all_of ["self"] (defScope s_SayingReader_all_of):=⟨rfl,rfl,rfl,by decide+kernel,rfl,by decide+kernel,by decide+kernel⟩
theorem ok_SayingReader_all_of {N:Nat} {f:Addr} {fd:FuncData} (B:Blt mg) (j1:OMe P w K mg base "SayingReader" "single" (5*N+4) ["self"] (sp_SayingReader_single N K)) (j2:OMe P w K mg base "SayingReader" "word" (1) ["self"] (sp_SayingReader_word K)) (CF:∀x f,(x,f)∈fldN→Cls K (He.ga K x)∧NoAttr K (He.ga K x) f) (F:FunD K "all_of" "Reader.all_of" (defArgs s_SayingReader_all_of) (defBody s_SayingReader_all_of) (defScope s_SayingReader_all_of) [] [] f fd):FnOk P w K mg base (L2.CX P w) (5*N+5) f fd ["self"] (sp_SayingReader_all_of N K):=by
 refine F.ok sc_SayingReader_all_of (fun vs H Q E h=>len_SayingReader_all_of h) (fun cdv A outer s H vs Q E hr h=>⟨t_SayingReader_all_of N K E,?_,pure_SayingReader_all_of h⟩)
 have po:=passes_of (X:=cxOf (L2.CX P w) P w K mg base N_SayingReader_all_of "Reader.all_of" (defScope s_SayingReader_all_of) f cdv A outer s H E) rfl
 have tk:Takes (cxOf (L2.CX P w) P w K mg base N_SayingReader_all_of "Reader.all_of" (defScope s_SayingReader_all_of) f cdv A outer s H E) (fun cls d _ H=>E cls d H):=takes_of rfl rfl rfl rfl
 exact(pss_cons (ps_set (i:=1) sc_SayingReader_all_of.nd rfl (by first|exact Or.inl rfl|exact Or.inr rfl) (ye_meth0 j1 tk (hr.mono (by omega)) (yv 0)))
  (pss_cons (ys_while po (yt_cmp op_zEq (ye_meth0 j2 tk0 (hr.mono (by omega)) (yv 0)) pe_str (by rfl)) (pss_cons (ys_fldaug (cf1 (CF "SayingReader" "spot" (by decide))) (yv 0) pe_int iop_zAdd)
  (pss_one (ps_set (i:=1) sc_SayingReader_all_of.nd rfl (by first|exact Or.inl rfl|exact Or.inr rfl) (pe_tup (pa_cons pe_str (pa_cons (yv 1) (pa_cons (ye_meth0 j1 tk (hr.mono (by omega)) (yv 0)) pa_nil))))))))
  (pss_one (ps_ret (yv 1)))))
abbrev s_SayingReader_any_of:Stmt:=inClass (top 29) 4
theorem sc_SayingReader_any_of:FnScope N_SayingReader_any_of ["self"] (defScope s_SayingReader_any_of):=⟨rfl,rfl,rfl,by decide+kernel,rfl,by decide+kernel,by decide+kernel⟩
theorem ok_SayingReader_any_of {N:Nat} {f:Addr} {fd:FuncData} (B:Blt mg) (j1:OMe P w K mg base "SayingReader" "all_of" (5*N+5) ["self"] (sp_SayingReader_all_of N K)) (j2:OMe P w K mg base "SayingReader" "word" (1) ["self"] (sp_SayingReader_word K)) (CF:∀x f,(x,f)∈fldN→Cls K (He.ga K x)∧NoAttr K (He.ga K x) f) (F:FunD K "any_of" "Reader.any_of" (defArgs s_SayingReader_any_of) (defBody s_SayingReader_any_of) (defScope s_SayingReader_any_of) [] [] f fd):FnOk P w K mg base (L2.CX P w) (5*N+6) f fd ["self"] (sp_SayingReader_any_of N K):=by
 refine F.ok sc_SayingReader_any_of (fun vs H Q E h=>len_SayingReader_any_of h) (fun cdv A outer s H vs Q E hr h=>⟨t_SayingReader_any_of N K E,?_,pure_SayingReader_any_of h⟩)
 have po:=passes_of (X:=cxOf (L2.CX P w) P w K mg base N_SayingReader_any_of "Reader.any_of" (defScope s_SayingReader_any_of) f cdv A outer s H E) rfl
 have tk:Takes (cxOf (L2.CX P w) P w K mg base N_SayingReader_any_of "Reader.any_of" (defScope s_SayingReader_any_of) f cdv A outer s H E) (fun cls d _ H=>E cls d H):=takes_of rfl rfl rfl rfl
 exact(pss_cons (ps_set (i:=1) sc_SayingReader_any_of.nd rfl (by first|exact Or.inl rfl|exact Or.inr rfl) (ye_meth0 j1 tk (hr.mono (by omega)) (yv 0)))
  (pss_cons (ys_while po (yt_cmp op_zEq (ye_meth0 j2 tk0 (hr.mono (by omega)) (yv 0)) pe_str (by rfl)) (pss_cons (ys_fldaug (cf1 (CF "SayingReader" "spot" (by decide))) (yv 0) pe_int iop_zAdd)
  (pss_one (ps_set (i:=1) sc_SayingReader_any_of.nd rfl (by first|exact Or.inl rfl|exact Or.inr rfl) (pe_tup (pa_cons pe_str (pa_cons (yv 1) (pa_cons (ye_meth0 j1 tk (hr.mono (by omega)) (yv 0)) pa_nil))))))))
  (pss_one (ps_ret (yv 1)))))
abbrev s_SayingReader_block:Stmt:=inClass (top 30) 3
theorem sc_SayingReader_block:FnScope N_SayingReader_block ["self"] (defScope s_SayingReader_block):=⟨rfl,rfl,rfl,by decide+kernel,rfl,by decide+kernel,by decide+kernel⟩
theorem ok_SayingReader_block {N:Nat} {f:Addr} {fd:FuncData} (B:Blt mg) (j1:OMe P w K mg base "SayingReader" "take" (3) ["self","is_right"] (sp_SayingReader_take K)) (j2:OMe P w K mg base "SayingReader" "word" (1) ["self"] (sp_SayingReader_word K)) (j4:Cal P w K mg base "is_name" (1) ["word"] (sp_p_is_name K)) (j3:OMe P w K mg base "SayingReader" "any_of" (5*N+6) ["self"] (sp_SayingReader_any_of N K)) (k_MOST_BOUND:∃u,mg "MOST_BOUND"=some u∧RelV (.int 3) u) (CF:∀x f,(x,f)∈fldN→Cls K (He.ga K x)∧NoAttr K (He.ga K x) f) (F:FunD K "block" "SayingReader.block" (defArgs s_SayingReader_block) (defBody s_SayingReader_block) (defScope s_SayingReader_block) [] [] f fd):FnOk P w K mg base (L2.CX P w) (5*N+7) f fd ["self"] (sp_SayingReader_block N K):=by
 refine F.ok sc_SayingReader_block (fun vs H Q E h=>len_SayingReader_block h) (fun cdv A outer s H vs Q E hr h=>⟨t_SayingReader_block N K E,?_,pure_SayingReader_block h⟩)
 have po:=passes_of (X:=cxOf (L2.CX P w) P w K mg base N_SayingReader_block "SayingReader.block" (defScope s_SayingReader_block) f cdv A outer s H E) rfl
 have tk:Takes (cxOf (L2.CX P w) P w K mg base N_SayingReader_block "SayingReader.block" (defScope s_SayingReader_block) f cdv A outer s H E) (fun cls d _ H=>E cls d H):=takes_of rfl rfl rfl rfl
 exact(pss_cons (ps_set (i:=1) sc_SayingReader_block.nd rfl (by first|exact Or.inl rfl|exact Or.inr rfl) (ye_meth j1 tk (hr.mono (by omega)) (yv 0) (pa_cons (ye_and (pe_cmpR op_zIs (ye_fld (cf1 (CF "SayingReader" "bound" (by decide))) (yv 0) rfl) pe_non (by rfl)) (pe_one (pe_cmpR op_zGt (ye_fld (cf1 (CF "SayingReader" "blocks_left" (by decide))) (yv 0) rfl) pe_int (by rfl)))) pa_nil)))
  (pss_cons (ys_fldaug (cf1 (CF "SayingReader" "blocks_left" (by decide))) (yv 0) pe_int iop_zSub)
  (pss_cons (ps_set (i:=2) sc_SayingReader_block.nd rfl (by first|exact Or.inl rfl|exact Or.inr rfl) (pe_lst (pa_cons (ye_meth j1 tk (hr.mono (by omega)) (yv 0) (pa_cons (ye_call j4 (hr.mono (by omega)) rfl (pa_cons (ye_meth0 j2 tk0 (hr.mono (by omega)) (yv 0)) pa_nil)) pa_nil)) pa_nil)))
  (pss_cons (ys_while po (yt_cmp op_zNe (ye_meth0 j2 tk0 (hr.mono (by omega)) (yv 0)) pe_str (by rfl)) (pss_one (ps_expr (pe_bm PySem.F.plainAttrs_list PySem.F.slot_list_append PySem.F.type_list_append mt_zApp (yv 2) (pa_cons (ye_meth j1 tk (hr.mono (by omega)) (yv 0) (pa_cons (ye_and (ye_call j4 (hr.mono (by omega)) rfl (pa_cons (ye_meth0 j2 tk0 (hr.mono (by omega)) (yv 0)) pa_nil)) (ye_and (pe_cmpR op_zNotIn (ye_meth0 j2 tk0 (hr.mono (by omega)) (yv 0)) (yv 2) (by rfl)) (pe_one (pe_cmpR op_zLt (pe_callB cr_len rfl B.len boot_len (pa_cons (yv 2) pa_nil)) (pe_globE rfl k_MOST_BOUND) (by rfl))))) pa_nil)) pa_nil)))))
  (pss_cons (ps_expr (ye_meth j1 tk (hr.mono (by omega)) (yv 0) (pa_cons pe_bl pa_nil)))
  (pss_cons (ys_fld (cf1 (CF "SayingReader" "bound" (by decide))) (yv 0) (yv 2) rfl)
  (pss_cons (ps_set (i:=3) sc_SayingReader_block.nd rfl (by first|exact Or.inl rfl|exact Or.inr rfl) (ye_meth0 j3 tk (hr.mono (by omega)) (yv 0)))
  (pss_cons (ps_expr (ye_meth j1 tk (hr.mono (by omega)) (yv 0) (pa_cons (pe_cmpR op_zEq (ye_meth0 j2 tk0 (hr.mono (by omega)) (yv 0)) pe_str (by rfl)) pa_nil)))
  (pss_cons (ys_fld (cf1 (CF "SayingReader" "bound" (by decide))) (yv 0) pe_non rfl)
  (pss_one (ps_ret (pe_tup (pa_cons (yv 1) (pa_cons (pe_callTy cr_tuple rfl B.tuple (by decide+kernel) (pa_cons (yv 2) pa_nil)) (pa_cons (yv 3) pa_nil)))))))))))))))
abbrev s_SayingReader_part_or_block:Stmt:=inClass (top 30) 1
theorem sc_SayingReader_part_or_block:FnScope N_SayingReader_part_or_block ["self"] (defScope s_SayingReader_part_or_block):=⟨rfl,rfl,rfl,by decide+kernel,rfl,by decide+kernel,by decide+kernel⟩
theorem ok_SayingReader_part_or_block {N:Nat} {f:Addr} {fd:FuncData} (B:Blt mg) (j2:OMe P w K mg base "SayingReader" "word" (1) ["self"] (sp_SayingReader_word K)) (j5:OMe P w K mg base "SayingReader" "block" (5*N+7) ["self"] (sp_SayingReader_block N K)) (j4:OMe P w K mg base "SayingReader" "begin_part" (3) ["self"] (sp_SayingReader_begin_part K)) (j1:OMe P w K mg base "SayingReader" "column_word" (4) ["self"] (sp_SayingReader_column_word K)) (j3:OMe P w K mg base "SayingReader" "take" (3) ["self","is_right"] (sp_SayingReader_take K)) (CF:∀x f,(x,f)∈fldN→Cls K (He.ga K x)∧NoAttr K (He.ga K x) f) (F:FunD K "part_or_block" "SayingReader.part_or_block" (defArgs s_SayingReader_part_or_block) (defBody s_SayingReader_part_or_block) (defScope s_SayingReader_part_or_block) [] [] f fd):FnOk P w K mg base (L2.CX P w) (5*N+8) f fd ["self"] (sp_SayingReader_part_or_block N K):=by
 refine F.ok sc_SayingReader_part_or_block (fun vs H Q E h=>len_SayingReader_part_or_block h) (fun cdv A outer s H vs Q E hr h=>⟨t_SayingReader_part_or_block N K E,?_,pure_SayingReader_part_or_block h⟩)
 have tk:Takes (cxOf (L2.CX P w) P w K mg base N_SayingReader_part_or_block "SayingReader.part_or_block" (defScope s_SayingReader_part_or_block) f cdv A outer s H E) (fun cls d _ H=>E cls d H):=takes_of rfl rfl rfl rfl
 exact(pss_cons (ys_if (yt_cmp op_zIn (ye_meth0 j2 tk0 (hr.mono (by omega)) (yv 0)) (pe_tup (pa_cons pe_str (pa_cons pe_str pa_nil))) (by rfl)) (pss_one (ps_ret (ye_meth0 j5 tk (hr.mono (by omega)) (yv 0)))) pss_nil)
  (pss_cons (ps_expr (ye_meth0 j4 tk (hr.mono (by omega)) (yv 0)))
  (pss_cons (ps_set (i:=1) sc_SayingReader_part_or_block.nd rfl (by first|exact Or.inl rfl|exact Or.inr rfl) (ye_meth0 j1 tk (hr.mono (by omega)) (yv 0)))
  (pss_cons (ps_set (i:=2) sc_SayingReader_part_or_block.nd rfl (by first|exact Or.inl rfl|exact Or.inr rfl) (ye_meth j3 tk (hr.mono (by omega)) (yv 0) (pa_cons (pe_cmpR op_zIn (ye_meth0 j2 tk0 (hr.mono (by omega)) (yv 0)) (pe_tup (pa_cons pe_str (pa_cons pe_str (pa_cons pe_str pa_nil)))) (by rfl)) pa_nil)))
  (pss_cons (ys_if (yt_cmp op_zEq (yv 2) pe_str (by rfl)) (pss_one (ps_ret (pe_tup (pa_cons (yv 2) (pa_cons (yv 1) (pa_cons (ye_meth j3 tk (hr.mono (by omega)) (yv 0) (pa_cons (pe_cmpR op_zIn (ye_meth0 j2 tk0 (hr.mono (by omega)) (yv 0)) (ye_fld (cf1 (CF "SayingReader" "tracks" (by decide))) (yv 0) rfl) (by rfl)) pa_nil)) pa_nil)))))) pss_nil)
  (pss_one (ps_ret (pe_tup (pa_cons (yv 2) (pa_cons (yv 1) (pa_cons (ye_meth0 j1 tk (hr.mono (by omega)) (yv 0)) pa_nil)))))))))))
abbrev s_SayingReader_whole:Stmt:=inClass (top 29) 3
theorem sc_SayingReader_whole:FnScope N_SayingReader_whole ["self"] (defScope s_SayingReader_whole):=⟨rfl,rfl,rfl,by decide+kernel,rfl,by decide+kernel,by decide+kernel⟩
theorem ok_SayingReader_whole {f:Addr} {fd:FuncData} (B:Blt mg) (j1:OMe P w K mg base "SayingReader" "any_of" (66) ["self"] (sp_SayingReader_any_of 12 K)) (j2:Mk P w K mg base "BadSaying" (He.ga K "BadSaying") ["self","index"] (spI1 (He.ga K "BadSaying") "index" fmtOk)) (CF:∀x f,(x,f)∈fldN→Cls K (He.ga K x)∧NoAttr K (He.ga K x) f) (F:FunD K "whole" "Reader.whole" (defArgs s_SayingReader_whole) (defBody s_SayingReader_whole) (defScope s_SayingReader_whole) [] [] f fd):FnOk P w K mg base (L2.CX P w) (67) f fd ["self"] (sp_SayingReader_whole K):=by
 refine F.ok sc_SayingReader_whole (fun vs H Q E h=>len_SayingReader_whole h) (fun cdv A outer s H vs Q E hr h=>⟨t_SayingReader_whole K E,?_,pure_SayingReader_whole h⟩)
 have tk:Takes (cxOf (L2.CX P w) P w K mg base N_SayingReader_whole "Reader.whole" (defScope s_SayingReader_whole) f cdv A outer s H E) (fun cls d _ H=>E cls d H):=takes_of rfl rfl rfl rfl
 exact(pss_cons (ps_set (i:=1) sc_SayingReader_whole.nd rfl (by first|exact Or.inl rfl|exact Or.inr rfl) (ye_meth0 j1 tk (hr.mono (by decide)) (yv 0)))
  (pss_cons (ys_if (yt_cmp op_zLt (ye_fld (cf1 (CF "SayingReader" "spot" (by decide))) (yv 0) rfl) (pe_callB cr_len rfl B.len boot_len (pa_cons (ye_fld (cf1 (CF "SayingReader" "words" (by decide))) (yv 0) rfl) pa_nil)) (by rfl)) (pss_one (ys_raise rfl tk (pm_mk j2 (hr.mono (by decide)) rfl (pa_cons (ye_fld (cf1 (CF "SayingReader" "spot" (by decide))) (yv 0) rfl) pa_nil)))) pss_nil)
  (pss_one (ps_ret (yv 1)))))
abbrev s_SayingReader_init:Stmt:=inClass (top 30) 0
theorem sc_SayingReader_init:XScope N_SayingReader_init ["self","tracks","words"] (defScope s_SayingReader_init):=⟨rfl,rfl,rfl,by decide+kernel,rfl,by decide+kernel,by decide+kernel,by decide+kernel,rfl,rfl⟩
theorem ok_SayingReader_init {fd fd0:FuncData} (B:Blt mg) (F0:FnOk P w K mg base (L2.CX P w) 1 (He.fAd K ("Reader",some "__init__")) fd0 ["self","tracks","words"] (sp_SayingReader_super_init K)) (B0:L2.Binds K fd0 ["self","tracks","words"] []) (k_MOST_BLOCKS:∃u,mg "MOST_BLOCKS"=some u∧RelV (.int 3) u) (CF:∀x f,(x,f)∈fldN→Cls K (He.ga K x)∧NoAttr K (He.ga K x) f) (F:SuFn P K (He.ga K "SayingReader") (He.fAd K ("SayingReader",some "__init__")) (He.fAd K ("Reader",some "__init__")) "SayingReader.__init__" s_SayingReader_init fd):FnOk P w K mg base (L2.CX P w) 2 (He.fAd K ("SayingReader",some "__init__")) fd ["self","tracks","words"] (sp_SayingReader_init K):=by
 obtain⟨oc,od,kV,doc,pm,an,cda,ct,cc,osl,rfl,lk,hcd,T⟩:=F.ex
 refine su_ok (k:=1) lk hcd T F0 B0 (by decide) rfl sc_SayingReader_init (fun vs H Q E h=>len_SayingReader_init h) rfl rfl B.super (fun A outer s H vs Q E hr h=> ?_)
 obtain⟨a,dx,ws,e,ha,hq⟩:=pure_SayingReader_init h
 exact⟨a,dx,ws,ta_SayingReader_init K E,t_SayingReader_init K E,e,ha,(pa_cons (yv 1) (pa_cons (yv 2) pa_nil)),(pss_cons (ys_fld (cf1 (CF "SayingReader" "blocks_left" (by decide))) (yv 0) (pe_globE rfl k_MOST_BLOCKS) rfl)
  (pss_one (ys_fld (cf1 (CF "SayingReader" "bound" (by decide))) (yv 0) pe_non rfl))),hq⟩
abbrev s_Saying_init:Stmt:=inClass (top 34) 0
theorem sc_Saying_init:FnScope N_Saying_init ["self","tracks","text"] (defScope s_Saying_init):=⟨rfl,rfl,rfl,by decide+kernel,rfl,by decide+kernel,by decide+kernel⟩
theorem ok_Saying_init {f:Addr} {fd:FuncData} (B:Blt mg) (j3:Cal P w K mg base "check_tracks" (3) ["tracks"] (sp_p_check_tracks K)) (j2:OM P w K mg base "SayingReader" (2) ["self","tracks","words"] (sp_SayingReader_init K)) (j1:OMe P w K mg base "SayingReader" "whole" (67) ["self"] (sp_SayingReader_whole K)) (CF:∀x f,(x,f)∈fldN→Cls K (He.ga K x)∧NoAttr K (He.ga K x) f) (F:FunD K "__init__" "Saying.__init__" (defArgs s_Saying_init) (defBody s_Saying_init) (defScope s_Saying_init) [] [] f fd):FnOk P w K mg base (L2.CX P w) (68) f fd ["self","tracks","text"] (sp_Saying_init K):=by
 refine F.ok sc_Saying_init (fun vs H Q E h=>len_Saying_init h) (fun cdv A outer s H vs Q E hr h=>⟨t_Saying_init K E,?_,pure_Saying_init h⟩)
 have tk:Takes (cxOf (L2.CX P w) P w K mg base N_Saying_init "Saying.__init__" (defScope s_Saying_init) f cdv A outer s H E) (fun cls d _ H=>E cls d H):=takes_of rfl rfl rfl rfl
 exact(pss_cons (ps_expr (ye_callS j3 tk (hr.mono (by decide)) rfl (pa_cons (yv 1) pa_nil)))
  (pss_cons (ps_set (i:=3) sc_Saying_init.nd rfl (by first|exact Or.inl rfl|exact Or.inr rfl) (ye_if (yt_cmp op_zNe (yv 2) pe_str (by rfl)) (pe_bm PySem.F.plainAttrs_str PySem.F.slot_str_split PySem.F.type_str_split mt_zSplit (yv 2) (pa_cons pe_str pa_nil)) (pe_lst pa_nil)))
  (pss_cons (ys_fld (cf1 (CF "Saying" "tracks" (by decide))) (yv 0) (pe_callTy cr_tuple rfl B.tuple (by decide+kernel) (pa_cons (yv 1) pa_nil)) rfl)
  (pss_cons (ys_fld (cf1 (CF "Saying" "text" (by decide))) (yv 0) (yv 2) rfl)
  (pss_cons (ys_fld (cf1 (CF "Saying" "tree" (by decide))) (yv 0) (ye_meth0 j1 tk (hr.mono (by decide)) (ye_new j2 tk0 (hr.mono (by decide)) rfl (pa_cons (ye_fld (cf1 (CF "Saying" "tracks" (by decide))) (yv 0) rfl) (pa_cons (yv 3) pa_nil)))) rfl)
  (pss_one (ys_fld (cf1 (CF "Saying" "has_here" (by decide))) (yv 0) (pe_cmpR op_zIn pe_str (yv 3) (by rfl)) rfl)))))))
abbrev s_drawn_place:Stmt:=top 46
theorem sc_drawn_place:FnScope N_drawn_place ["_law_pen","_law_sheet"] (defScope s_drawn_place):=⟨rfl,rfl,rfl,by decide+kernel,rfl,by decide+kernel,by decide+kernel⟩
theorem ok_drawn_place {f:Addr} {fd:FuncData} (B:Blt mg) (j1:Cal P w K mg base "_law_draw" (1) ["_law_pen","_law_span"] (sp_draw K)) (j2:Cal P w K mg base "_law_pick" (2) ["_law_pen","_law_options"] (sp_pick K)) (F:FunD K "_law_drawn_place" "_law_drawn_place" (defArgs s_drawn_place) (defBody s_drawn_place) (defScope s_drawn_place) [] [] f fd):FnOk P w K mg base (L2.CX P w) (3) f fd ["_law_pen","_law_sheet"] (sp_drawn_place K):=by
 refine F.ok sc_drawn_place (fun vs H Q E h=>len_drawn_place h) (fun cdv A outer s H vs Q E hr h=>⟨t_drawn_place K E,?_,pure_drawn_place h⟩)
 have hu:=hu_of hr
 exact(pss_cons (ps_set (i:=2) sc_drawn_place.nd rfl (by first|exact Or.inl rfl|exact Or.inr rfl) (pe_callB cr_len rfl B.len boot_len (pa_cons (ye_dget hu (yv 1) pe_str (fun _ _=>rfl)) pa_nil)))
  (pss_cons (ps_set (i:=3) sc_drawn_place.nd rfl (by first|exact Or.inl rfl|exact Or.inr rfl) (ye_call j2 (hr.mono (by decide)) rfl (pa_cons (yv 0) (pa_cons (pe_lst (pa_cons pe_int (pa_cons (pe_op op_zSub (yv 2) pe_int) (pa_cons (ye_call j1 (hr.mono (by decide)) rfl (pa_cons (yv 0) (pa_cons (yv 2) pa_nil))) (pa_cons (ye_call j1 (hr.mono (by decide)) rfl (pa_cons (yv 0) (pa_cons (yv 2) pa_nil))) (pa_cons (ye_call j1 (hr.mono (by decide)) rfl (pa_cons (yv 0) (pa_cons (yv 2) pa_nil))) pa_nil)))))) pa_nil))))
  (pss_one (ps_ret (pe_tup (pa_cons (ye_call j2 (hr.mono (by decide)) rfl (pa_cons (yv 0) (pa_cons (ye_dget hu (yv 1) pe_str (fun _ _=>rfl)) pa_nil))) (pa_cons (yv 3) pa_nil)))))))
abbrev s_p_check_place:Stmt:=top 23
theorem sc_p_check_place:FnScope N_p_check_place ["sheet","place"] (defScope s_p_check_place):=⟨rfl,rfl,rfl,by decide+kernel,rfl,by decide+kernel,by decide+kernel⟩
theorem ok_p_check_place {f:Addr} {fd:FuncData} (B:Blt mg) (j2:Mk P w K mg base "NoTrack" (He.ga K "NoTrack") ["self","name"] (spI1 (He.ga K "NoTrack") "name" fmtOk)) (j1:Mk P w K mg base "NoColumn" (He.ga K "NoColumn") ["self","column"] (spI1 (He.ga K "NoColumn") "column" anyOk)) (CF:∀x f,(x,f)∈fldN→Cls K (He.ga K x)∧NoAttr K (He.ga K x) f) (F:FunD K "check_place" "check_place" (defArgs s_p_check_place) (defBody s_p_check_place) (defScope s_p_check_place) [] [] f fd):FnOk P w K mg base (L2.CX P w) (3) f fd ["sheet","place"] (sp_p_check_place K):=by
 refine F.ok sc_p_check_place (fun vs H Q E h=>len_p_check_place h) (fun cdv A outer s H vs Q E hr h=>⟨t_p_check_place K E,?_,pure_p_check_place h⟩)
 have tk:Takes (cxOf (L2.CX P w) P w K mg base N_p_check_place "check_place" (defScope s_p_check_place) f cdv A outer s H E) (fun cls d _ H=>E cls d H):=takes_of rfl rfl rfl rfl
 exact(pss_cons (ps_asg (yv 1) (pg_tup rfl (pgs_cons (pg_name (i:=2) sc_p_check_place.nd rfl (by first|exact Or.inl rfl|exact Or.inr rfl)) (pgs_cons (pg_name (i:=3) sc_p_check_place.nd rfl (by first|exact Or.inl rfl|exact Or.inr rfl)) pgs_nil))))
  (pss_cons (ys_if (yt_cmp op_zNotIn (yv 2) (ye_fld (cf1 (CF "Sheet" "tracks" (by decide))) (yv 0) rfl) (by rfl)) (pss_one (ys_raise rfl tk (pm_mk j2 (hr.mono (by decide)) rfl (pa_cons (yv 2) pa_nil)))) pss_nil)
  (pss_one (ys_if (yt_not (yt_chain op_zLe op_zLt pe_int (yv 3) (pe_callB cr_len rfl B.len boot_len (pa_cons (pe_ix ix_zIxL (ye_fld (cf1 (CF "Sheet" "signs" (by decide))) (yv 0) rfl) pe_int (fun _ _=>rfl)) pa_nil)))) (pss_one (ys_raise rfl tk (pm_mk j1 (hr.mono (by decide)) rfl (pa_cons (yv 3) pa_nil)))) pss_nil))))
abbrev s_p_is_true:Stmt:=top 32
theorem sc_p_is_true:FnScope N_p_is_true ["tree","sheet","columns"] (defScope s_p_is_true):=⟨rfl,rfl,rfl,by decide+kernel,rfl,by decide+kernel,by decide+kernel⟩
theorem ok_p_is_true {N:Nat} {f:Addr} {fd:FuncData} (B:Blt mg) (j1:Cal P w K mg base "is_true" (N+10) ["tree","sheet","columns"] (sp_p_is_true N K)) (j2:Cal P w K mg base "is_block_true" (N+10) ["tree","sheet","columns","at"] (sp_p_is_block_true N K)) (CF:∀x f,(x,f)∈fldN→Cls K (He.ga K x)∧NoAttr K (He.ga K x) f) (F:FunD K "is_true" "is_true" (defArgs s_p_is_true) (defBody s_p_is_true) (defScope s_p_is_true) [] [] f fd):FnOk P w K mg base (L2.CX P w) (N+11) f fd ["tree","sheet","columns"] (sp_p_is_true (N+1) K):=by
 refine F.ok sc_p_is_true (fun vs H Q E h=>len_p_is_true h) (fun cdv A outer s H vs Q E hr h=>⟨t_p_is_true N K E,?_,pure_p_is_true h⟩)
 have hu:=hu_of hr
 exact(pss_cons (ys_if (yt_cmp op_zEq (pe_ix ix_zIxL (yv 0) pe_int (fun _ _=>rfl)) pe_str (by rfl)) (pss_one (ps_ret (ye_and (ye_call j1 (hr.mono (by omega)) rfl (pa_cons (pe_ix ix_zIxL (yv 0) pe_int (fun _ _=>rfl)) (pa_cons (yv 1) (pa_cons (yv 2) pa_nil)))) (pe_one (ye_call j1 (hr.mono (by omega)) rfl (pa_cons (pe_ix ix_zIxL (yv 0) pe_int (fun _ _=>rfl)) (pa_cons (yv 1) (pa_cons (yv 2) pa_nil)))))))) pss_nil)
  (pss_cons (ys_if (yt_cmp op_zEq (pe_ix ix_zIxL (yv 0) pe_int (fun _ _=>rfl)) pe_str (by rfl)) (pss_one (ps_ret (ye_or (ye_call j1 (hr.mono (by omega)) rfl (pa_cons (pe_ix ix_zIxL (yv 0) pe_int (fun _ _=>rfl)) (pa_cons (yv 1) (pa_cons (yv 2) pa_nil)))) (pe_one (ye_call j1 (hr.mono (by omega)) rfl (pa_cons (pe_ix ix_zIxL (yv 0) pe_int (fun _ _=>rfl)) (pa_cons (yv 1) (pa_cons (yv 2) pa_nil)))))))) pss_nil)
  (pss_cons (ys_if (yt_cmp op_zEq (pe_ix ix_zIxL (yv 0) pe_int (fun _ _=>rfl)) pe_str (by rfl)) (pss_one (ps_ret (ye_not (ye_call j1 (hr.mono (by omega)) rfl (pa_cons (pe_ix ix_zIxL (yv 0) pe_int (fun _ _=>rfl)) (pa_cons (yv 1) (pa_cons (yv 2) pa_nil))))))) pss_nil)
  (pss_cons (ys_if (yt_cmp op_zEq (pe_ix ix_zIxL (yv 0) pe_int (fun _ _=>rfl)) pe_str (by rfl)) (pss_one (ps_ret (pe_cmpR op_zEq (pe_ix ix_zIxL (ye_dget hu (ye_fld (cf1 (CF "Sheet" "row_of" (by decide))) (yv 1) rfl) (pe_ix ix_zIxL (yv 0) pe_int (fun _ _=>rfl)) (fun _ _=>rfl)) (ye_dget hu (yv 2) (pe_ix ix_zIxL (yv 0) pe_int (fun _ _=>rfl)) (fun _ _=>rfl)) (fun _ _=>rfl)) pe_str (by rfl)))) pss_nil)
  (pss_cons (ys_if (yt_cmp op_zIn (pe_ix ix_zIxL (yv 0) pe_int (fun _ _=>rfl)) (pe_tup (pa_cons pe_str (pa_cons pe_str pa_nil))) (by rfl)) (pss_cons (ys_par (ps_par (i:=3) (j:=4) (by rfl) sc_p_is_true.nd rfl rfl (by decide) rfl rfl (PA.up (pa_cons (ye_dget hu (yv 2) (pe_ix ix_zIxL (yv 0) pe_int (fun _ _=>rfl)) (fun _ _=>rfl)) (pa_cons (ye_dget hu (yv 2) (pe_ix ix_zIxL (yv 0) pe_int (fun _ _=>rfl)) (fun _ _=>rfl)) pa_nil))) (by rfl)))
  (pss_one (ps_ret (ye_if (yt_cmp op_zEq (pe_ix ix_zIxL (yv 0) pe_int (fun _ _=>rfl)) pe_str (by rfl)) (pe_cmpR op_zLt (yv 3) (yv 4) (by rfl)) (pe_cmpR op_zEq (yv 3) (yv 4) (by rfl)))))) pss_nil)
  (pss_one (ps_ret (ye_call j2 (hr.mono (by omega)) rfl (pa_cons (yv 0) (pa_cons (yv 1) (pa_cons (yv 2) (pa_cons pe_int pa_nil))))))))))))
abbrev s_p_is_block_true:Stmt:=top 33
theorem sc_p_is_block_true:FnScope N_p_is_block_true ["tree","sheet","columns","at"] (defScope s_p_is_block_true):=⟨rfl,rfl,rfl,by decide+kernel,rfl,by decide+kernel,by decide+kernel⟩
theorem ok_p_is_block_true {N:Nat} {f:Addr} {fd:FuncData} (B:Blt mg) (j2:Cal P w K mg base "is_true" (N+10) ["tree","sheet","columns"] (sp_p_is_true N K)) (j3:OMe P w K mg base "Sheet" "__len__" (1) ["self"] (sp_Sheet_len K)) (j1:Cal P w K mg base "is_block_true" (N+10) ["tree","sheet","columns","at"] (sp_p_is_block_true N K)) (F:FunD K "is_block_true" "is_block_true" (defArgs s_p_is_block_true) (defBody s_p_is_block_true) (defScope s_p_is_block_true) [] [] f fd):FnOk P w K mg base (L2.CX P w) (N+11) f fd ["tree","sheet","columns","at"] (sp_p_is_block_true (N+1) K):=by
 refine F.ok sc_p_is_block_true (fun vs H Q E h=>len_p_is_block_true h) (fun cdv A outer s H vs Q E hr h=>⟨t_p_is_block_true N K E,?_,pure_p_is_block_true h⟩)
 have po:=passes_of (X:=cxOf (L2.CX P w) P w K mg base N_p_is_block_true "is_block_true" (defScope s_p_is_block_true) f cdv A outer s H E) rfl
 exact(pss_cons (ys_if (yt_cmp op_zEq (yv 3) (pe_callB cr_len rfl B.len boot_len (pa_cons (pe_ix ix_zIxL (yv 0) pe_int (fun _ _=>rfl)) pa_nil)) (by rfl)) (pss_one (ps_ret (ye_call j2 (hr.mono (by omega)) rfl (pa_cons (pe_ix ix_zIxL (yv 0) pe_int (fun _ _=>rfl)) (pa_cons (yv 1) (pa_cons (yv 2) pa_nil)))))) pss_nil)
  (pss_cons (ys_for po rfl (j_rng rfl B.range (pe_callB (cr_lenO j3 (hr.mono (by omega))) rfl B.len boot_len (pa_cons (yv 1) pa_nil))) (pg_name (i:=4) sc_p_is_block_true.nd rfl (by first|exact Or.inl rfl|exact Or.inr rfl)) (pss_one (ys_if (yt_cmp op_zNe (ye_call j1 (hr.mono (by omega)) rfl (pa_cons (yv 0) (pa_cons (yv 1) (pa_cons (pe_dmrg (yv 2) (pe_ix ix_zIxL (pe_ix ix_zIxL (yv 0) pe_int (fun _ _=>rfl)) (yv 3) (fun _ _=>rfl)) (yv 4)) (pa_cons (pe_op op_zAdd (yv 3) pe_int) pa_nil))))) (pe_cmpR op_zEq (pe_ix ix_zIxL (yv 0) pe_int (fun _ _=>rfl)) pe_str (by rfl)) (by rfl)) (pss_one (ps_ret (pe_cmpR op_zEq (pe_ix ix_zIxL (yv 0) pe_int (fun _ _=>rfl)) pe_str (by rfl)))) pss_nil)))
  (pss_one (ps_ret (pe_cmpR op_zEq (pe_ix ix_zIxL (yv 0) pe_int (fun _ _=>rfl)) pe_str (by rfl))))))
abbrev s_bad:Stmt:=top 52
theorem sc_bad:FnScope N_bad ["_law_tracks","_law_words"] (defScope s_bad):=⟨rfl,rfl,rfl,by decide+kernel,rfl,by decide+kernel,by decide+kernel⟩
theorem ok_bad {f:Addr} {fd:FuncData} (B:Blt mg) (c_Saying_init:OM P w K mg base "Saying" (68) ["self","tracks","text"] (sp_Saying_init K)) (GC:∀x∈clsN,mg x=some (.ref (He.ga K x))) (F:FunD K "_law_bad" "_law_bad" (defArgs s_bad) (defBody s_bad) (defScope s_bad) [] [] f fd):FnOk P w K mg base (L2.CX P w) (70) f fd ["_law_tracks","_law_words"] (sp_bad K):=by
 refine F.ok sc_bad (fun vs H Q E h=>len_bad h) (fun cdv A outer s H vs Q E hr h=>⟨t_bad K E,?_,pure_bad h⟩)
 have po:=passes_of (X:=cxOf (L2.CX P w) P w K mg base N_bad "_law_bad" (defScope s_bad) f cdv A outer s H E) rfl
 exact(pss_cons (ys_try rfl rfl sc_bad.nd tk0 (fun W pn xe tk po=>(pss_one (ps_expr (ye_new c_Saying_init tk (hr.mono (by decide)) rfl (pa_cons (yv 0) (pa_cons (pe_bm PySem.F.plainAttrs_str PySem.F.slot_str_join PySem.F.type_str_join mt_zJoin pe_str (pa_cons (yv 1) pa_nil)) pa_nil)))))) (HdsN.named (i:=2) rfl rfl ⟨rfl,by decide,.inl (GC "BadSaying" (by decide))⟩ (fun a oe cls d pn hz hf=>(pss_one (ps_ret (ye_if (PW.pt (yt_and (yt_val (pe_callB (cr_isS hz hf) rfl B.isinstance (by decide+kernel) (pa_cons (yv 2) (pa_cons (pe_glob rfl (GC "EdgeError" (by decide)) rfl) pa_nil)))) (pw_and1 (yt_val (pe_callB (cr_isS hz hf) rfl B.isinstance (by decide+kernel) (pa_cons (yv 2) (pa_cons (pe_bltn rfl B.ve PyProof.Rows.Boot.«ValueError» rfl) pa_nil))))))) (ye_xf hz hf (yv 2)) pe_str)))) HdsN.nil))
  (pss_one (ps_ret pe_non)))
abbrev s_ranks_right:Stmt:=top 55
theorem sc_ranks_right:FnScope N_ranks_right ["_law_tracks","_law_made","_law_place","_law_is_filled"] (defScope s_ranks_right):=⟨rfl,rfl,rfl,by decide+kernel,rfl,by decide+kernel,by decide+kernel⟩
theorem ok_ranks_right {f:Addr} {fd:FuncData} (B:Blt mg) (j2:OM P w K mg base "Saying" (68) ["self","tracks","text"] (sp_Saying_init K)) (j1:OMe P w K mg base "Saying" "holds" (35) ["self","sheet","place"] (sp_Saying_holds K)) (F:FunD K "_law_ranks_right" "_law_ranks_right" (defArgs s_ranks_right) (defBody s_ranks_right) (defScope s_ranks_right) [] [] f fd):FnOk P w K mg base (L2.CX P w) (70) f fd ["_law_tracks","_law_made","_law_place","_law_is_filled"] (sp_ranks_right K):=by
 refine F.ok sc_ranks_right (fun vs H Q E h=>len_ranks_right h) (fun cdv A outer s H vs Q E hr h=>⟨t_ranks_right K E,?_,pure_ranks_right h⟩)
 exact(pss_cons (ps_set (i:=4) sc_ranks_right.nd rfl (by first|exact Or.inl rfl|exact Or.inr rfl) (pe_op op_zAdd pe_str (pe_ix ix_zIxL (yv 0) pe_int (fun _ _=>rfl))))
  (pss_cons (ps_set (i:=5) sc_ranks_right.nd rfl (by first|exact Or.inl rfl|exact Or.inr rfl) (pe_lst (pa_cons (pe_tup (pa_cons (pe_op op_zAdd (yv 4) pe_str) (pa_cons (yv 3) pa_nil))) (pa_cons (pe_tup (pa_cons (pe_op op_zAdd (pe_op op_zAdd (pe_op op_zAdd pe_str (yv 4)) pe_str) (yv 4)) (pa_cons pe_bl pa_nil))) pa_nil))))
  (pss_cons (ps_set (i:=5) sc_ranks_right.nd rfl (by first|exact Or.inl rfl|exact Or.inr rfl) (pe_op op_zCatL (yv 5) (pe_lst (pa_cons (pe_tup (pa_cons (pe_op op_zAdd (pe_op op_zAdd pe_str (yv 4)) pe_str) (pa_cons pe_bl pa_nil))) pa_nil))))
  (pss_cons (ps_set (i:=5) sc_ranks_right.nd rfl (by first|exact Or.inl rfl|exact Or.inr rfl) (pe_op op_zCatL (yv 5) (pe_lst (pa_cons (pe_tup (pa_cons (pe_op op_zAdd pe_str (yv 4)) (pa_cons (yv 3) pa_nil))) pa_nil))))
  (pss_one (ps_ret (pe_cmpR (op_zEqD hr.units) (ye_lc (own:= [("_law_text",6),("_law_due",7)]) (g:=(gTup K 2 (gCons (gName 6) (gCons (gName 7) gNil)))) (tt:=(yTst (tOp zNe (tCB zRepr (tCons (yMeth (He.ga K "Saying") "holds" (sp_Saying_holds K) W0 (yNew (He.ga K "Saying") (sp_Saying_init K) W0 (tCons (yVar 0) (tCons (yVar 6) tNil))) (tCons (yVar 1) (tCons (yVar 2) tNil))) tNil)) (tCB zRepr (tCons (yVar 7) tNil))))) rfl sc_ranks_right.nd (j_lst (yv 5)) (blkOk_by (N:=N_ranks_right) (sc:=defScope s_ranks_right) (by decide+kernel)) (fun _ _ _ _ _=>(pg_tup rfl (pgs_cons (pg_name (i:=6) sc_ranks_right.nd rfl (by first|exact Or.inl rfl|exact Or.inr rfl)) (pgs_cons (pg_name (i:=7) sc_ranks_right.nd rfl (by first|exact Or.inl rfl|exact Or.inr rfl)) pgs_nil)))) (fun _ _ _ _ _=>(pts_one (yt_cmp op_zNe (pe_callB cr_repr rfl B.repr (by decide+kernel) (pa_cons (ye_meth j1 tk0 (hr.mono (by decide)) (ye_new j2 tk0 (hr.mono (by decide)) rfl (pa_cons (yv 0) (pa_cons (yv 6) pa_nil))) (pa_cons (yv 1) (pa_cons (yv 2) pa_nil))) pa_nil)) (pe_callB cr_repr rfl B.repr (by decide+kernel) (pa_cons (yv 7) pa_nil)) (by rfl)))) (fun _ _ _ _ _=>(yv 6))) (pe_lst pa_nil) (by rfl))))))))
abbrev s_barred:Stmt:=top 40
theorem sc_barred:FnScope N_barred [] (defScope s_barred):=⟨rfl,rfl,rfl,by decide+kernel,rfl,by decide+kernel,by decide+kernel⟩
theorem ok_barred {f:Addr} {fd:FuncData} (B:Blt mg) (F:FunD K "_law_barred" "_law_barred" (defArgs s_barred) (defBody s_barred) (defScope s_barred) [] [] f fd):FnOk P w K mg base (L2.CX P w) (1) f fd [] (sp_barred K):=by
 refine F.ok sc_barred (fun vs H Q E h=>len_barred h) (fun cdv A outer s H vs Q E hr h=>⟨t_barred K E,?_,pure_barred h⟩)
 exact(pss_cons (ps_set (i:=0) sc_barred.nd rfl (by first|exact Or.inl rfl|exact Or.inr rfl) (pe_lst (pa_cons pe_str (pa_cons pe_str (pa_cons pe_str (pa_cons pe_str (pa_cons pe_str (pa_cons pe_str (pa_cons pe_str (pa_cons pe_str (pa_cons pe_str (pa_cons pe_str (pa_cons pe_str (pa_cons pe_str (pa_cons pe_str pa_nil)))))))))))))))
  (pss_cons (ps_set (i:=0) sc_barred.nd rfl (by first|exact Or.inl rfl|exact Or.inr rfl) (pe_op op_zCatL (yv 0) (pe_lst (pa_cons pe_str (pa_cons pe_str (pa_cons pe_str (pa_cons pe_str (pa_cons pe_str (pa_cons pe_str (pa_cons pe_str (pa_cons pe_str (pa_cons pe_str (pa_cons pe_str (pa_cons pe_str (pa_cons pe_str pa_nil)))))))))))))))
  (pss_one (ps_ret (pe_op op_zCatL (yv 0) (pe_lst (pa_cons pe_str (pa_cons pe_str (pa_cons pe_str (pa_cons pe_str (pa_cons pe_str (pa_cons pe_str (pa_cons pe_str (pa_cons pe_str (pa_cons pe_str (pa_cons pe_str pa_nil))))))))))))))))
abbrev s_hand_right:Stmt:=top 54
theorem sc_hand_right:FnScope N_hand_right ["_law_tracks"] (defScope s_hand_right):=⟨rfl,rfl,rfl,by decide+kernel,rfl,by decide+kernel,by decide+kernel⟩
theorem ok_hand_right {f:Addr} {fd:FuncData} (B:Blt mg) (j1:Cal P w K mg base "_law_barred" (1) [] (sp_barred K)) (j2:Cal P w K mg base "_law_bad" (70) ["_law_tracks","_law_words"] (sp_bad K)) (F:FunD K "_law_hand_right" "_law_hand_right" (defArgs s_hand_right) (defBody s_hand_right) (defScope s_hand_right) [] [] f fd):FnOk P w K mg base (L2.CX P w) (71) f fd ["_law_tracks"] (sp_hand_right K):=by
 refine F.ok sc_hand_right (fun vs H Q E h=>len_hand_right h) (fun cdv A outer s H vs Q E hr h=>⟨t_hand_right K E,?_,pure_hand_right h⟩)
 exact(pss_cons (ps_set (i:=1) sc_hand_right.nd rfl (by first|exact Or.inl rfl|exact Or.inr rfl) (pe_ix ix_zIxL (yv 0) pe_int (fun _ _=>rfl)))
  (pss_cons (ps_set (i:=2) sc_hand_right.nd rfl (by first|exact Or.inl rfl|exact Or.inr rfl) (pe_lst (pa_cons pe_str (pa_cons pe_str (pa_cons (yv 1) pa_nil)))))
  (pss_cons (ys_par (ps_par (i:=3) (j:=4) (by rfl) sc_hand_right.nd rfl rfl (by decide) rfl rfl (PA.up (pa_cons (pe_op op_zCatL (pe_op op_zRepL (pe_op op_zCatL (yv 2) (pe_lst (pa_cons pe_str pa_nil))) pe_int) (yv 2)) (pa_cons (pe_lst (pa_cons pe_str (pa_cons pe_str (pa_cons pe_str (pa_cons pe_str (pa_cons pe_str (pa_cons pe_str (pa_cons pe_str (pa_cons pe_str pa_nil))))))))) pa_nil))) (by rfl)))
  (pss_cons (ps_set (i:=5) sc_hand_right.nd rfl (by first|exact Or.inl rfl|exact Or.inr rfl) (pe_lst (pa_cons (pe_tup (pa_cons (yv 3) (pa_cons pe_non pa_nil))) (pa_cons (pe_tup (pa_cons (pe_op op_zCatL (pe_op op_zCatL (yv 3) (pe_lst (pa_cons pe_str pa_nil))) (yv 2)) (pa_cons pe_int pa_nil))) (pa_cons (pe_tup (pa_cons (pe_op op_zCatL (pe_op op_zCatL (pe_op op_zRepL (pe_lst (pa_cons pe_str pa_nil)) pe_int) (yv 2)) (pe_op op_zRepL (pe_lst (pa_cons pe_str pa_nil)) pe_int)) (pa_cons pe_non pa_nil))) pa_nil)))))
  (pss_cons (ps_set (i:=5) sc_hand_right.nd rfl (by first|exact Or.inl rfl|exact Or.inr rfl) (pe_op op_zCatL (yv 5) (pe_lst (pa_cons (pe_tup (pa_cons (pe_op op_zCatL (pe_op op_zCatL (pe_op op_zRepL (pe_lst (pa_cons pe_str pa_nil)) pe_int) (yv 2)) (pe_op op_zRepL (pe_lst (pa_cons pe_str pa_nil)) pe_int)) (pa_cons pe_int pa_nil))) (pa_cons (pe_tup (pa_cons (pe_op op_zCatL (pe_op op_zRepL (pe_lst (pa_cons pe_str pa_nil)) pe_int) (yv 2)) (pa_cons pe_non pa_nil))) (pa_cons (pe_tup (pa_cons (pe_op op_zCatL (pe_op op_zRepL (pe_lst (pa_cons pe_str pa_nil)) pe_int) (yv 2)) (pa_cons pe_int pa_nil))) pa_nil))))))
  (pss_cons (ps_set (i:=5) sc_hand_right.nd rfl (by first|exact Or.inl rfl|exact Or.inr rfl) (pe_op op_zCatL (yv 5) (pe_lst (pa_cons (pe_tup (pa_cons (yv 4) (pa_cons pe_non pa_nil))) (pa_cons (pe_tup (pa_cons (pe_op op_zCatL (pe_op op_zCatL (pe_lst (pa_cons pe_str (pa_cons pe_str (pa_cons pe_str pa_nil)))) (yv 4)) (pe_lst (pa_cons pe_str pa_nil))) (pa_cons pe_int pa_nil))) (pa_cons (pe_tup (pa_cons (pe_op op_zCatL (pe_lst (pa_cons pe_str (pa_cons pe_str (pa_cons pe_str pa_nil)))) (pe_slice sl_zL (yv 4) (po_some pe_int) po_none)) (pa_cons pe_int pa_nil))) pa_nil))))))
  (pss_cons (ps_set (i:=5) sc_hand_right.nd rfl (by first|exact Or.inl rfl|exact Or.inr rfl) (pe_op op_zCatL (yv 5) (pe_lst (pa_cons (pe_tup (pa_cons (pe_op op_zCatL (pe_op op_zRepL (pe_op op_zCatL (yv 4) (pe_lst (pa_cons pe_str pa_nil))) pe_int) (yv 4)) (pa_cons pe_non pa_nil))) (pa_cons (pe_tup (pa_cons (pe_op op_zCatL (pe_op op_zRepL (pe_op op_zCatL (yv 4) (pe_lst (pa_cons pe_str pa_nil))) pe_int) (yv 4)) (pa_cons pe_int pa_nil))) pa_nil)))))
  (pss_cons (ps_set (i:=5) sc_hand_right.nd rfl (by first|exact Or.inl rfl|exact Or.inr rfl) (pe_op op_zCatL (yv 5) (pe_lst (pa_cons (pe_tup (pa_cons (pe_op op_zCatL (pe_lst (pa_cons pe_str (pa_cons pe_str (pa_cons pe_str (pa_cons pe_str pa_nil))))) (pe_slice sl_zL (yv 4) (po_some pe_int) po_none)) (pa_cons pe_non pa_nil))) (pa_cons (pe_tup (pa_cons (pe_op op_zCatL (pe_lst (pa_cons pe_str (pa_cons pe_str (pa_cons pe_str (pa_cons pe_str (pa_cons pe_str pa_nil)))))) (pe_slice sl_zL (yv 4) (po_some pe_int) po_none)) (pa_cons pe_int pa_nil))) pa_nil)))))
  (pss_cons (ps_set (i:=5) sc_hand_right.nd rfl (by first|exact Or.inl rfl|exact Or.inr rfl) (pe_op op_zCatL (yv 5) (pe_lst (pa_cons (pe_tup (pa_cons (pe_lst (pa_cons pe_str (pa_cons pe_str (pa_cons (yv 1) pa_nil)))) (pa_cons pe_int pa_nil))) (pa_cons (pe_tup (pa_cons (pe_lst (pa_cons pe_str (pa_cons pe_str (pa_cons pe_str pa_nil)))) (pa_cons pe_int pa_nil))) (pa_cons (pe_tup (pa_cons (pe_lst (pa_cons pe_str (pa_cons pe_str (pa_cons pe_str pa_nil)))) (pa_cons pe_int pa_nil))) pa_nil))))))
  (pss_cons (ps_set (i:=5) sc_hand_right.nd rfl (by first|exact Or.inl rfl|exact Or.inr rfl) (pe_op op_zCatL (yv 5) (pe_lst (pa_cons (pe_tup (pa_cons (pe_op op_zCatL (yv 4) (pe_lst (pa_cons pe_str (pa_cons pe_str (pa_cons pe_str (pa_cons (yv 1) pa_nil)))))) (pa_cons pe_int pa_nil))) (pa_cons (pe_tup (pa_cons (pe_lst (pa_cons pe_str (pa_cons pe_str (pa_cons (yv 1) pa_nil)))) (pa_cons pe_int pa_nil))) (pa_cons (pe_tup (pa_cons (pe_op op_zCatL (yv 2) (pe_lst (pa_cons pe_str pa_nil))) (pa_cons pe_int pa_nil))) pa_nil))))))
  (pss_cons (ps_set (i:=5) sc_hand_right.nd rfl (by first|exact Or.inl rfl|exact Or.inr rfl) (pe_op op_zCatL (yv 5) (pe_lst (pa_cons (pe_tup (pa_cons (pe_lst (pa_cons pe_str pa_nil)) (pa_cons pe_int pa_nil))) (pa_cons (pe_tup (pa_cons (pe_lst (pa_cons pe_str pa_nil)) (pa_cons pe_int pa_nil))) (pa_cons (pe_tup (pa_cons (pe_lst (pa_cons pe_str (pa_cons pe_str pa_nil))) (pa_cons pe_int pa_nil))) (pa_cons (pe_tup (pa_cons (pe_lst (pa_cons pe_str (pa_cons pe_str (pa_cons pe_str pa_nil)))) (pa_cons pe_int pa_nil))) (pa_cons (pe_tup (pa_cons (pe_lst (pa_cons pe_str (pa_cons pe_str pa_nil))) (pa_cons pe_int pa_nil))) pa_nil))))))))
  (pss_cons (ps_set (i:=5) sc_hand_right.nd rfl (by first|exact Or.inl rfl|exact Or.inr rfl) (pe_op op_zCatL (yv 5) (pe_lst (pa_cons (pe_tup (pa_cons (pe_lst (pa_cons pe_str (pa_cons pe_str (pa_cons pe_str (pa_cons pe_str pa_nil))))) (pa_cons pe_int pa_nil))) (pa_cons (pe_tup (pa_cons (pe_op op_zCatL (pe_op op_zCatL (pe_op op_zCatL (pe_op op_zRepL (pe_lst (pa_cons pe_str pa_nil)) pe_int) (pe_lst (pa_cons pe_str (pa_cons pe_str pa_nil)))) (yv 2)) (pe_lst (pa_cons pe_str (pa_cons pe_str pa_nil)))) (pa_cons pe_int pa_nil))) (pa_cons (pe_tup (pa_cons (pe_lst (pa_cons pe_str pa_nil)) (pa_cons pe_int pa_nil))) pa_nil))))))
  (pss_cons (ps_set (i:=6) sc_hand_right.nd rfl (by first|exact Or.inl rfl|exact Or.inr rfl) (pe_op op_zCatL (pe_op op_zCatL (pe_op op_zCatL (pe_lst (pa_cons pe_str (pa_cons pe_str (pa_cons pe_str pa_nil)))) (pe_op op_zRepL (pe_lst (pa_cons pe_str pa_nil)) pe_int)) (pe_lst (pa_cons pe_str (pa_cons pe_str (pa_cons pe_str pa_nil))))) (pe_op op_zRepL (pe_lst (pa_cons pe_str pa_nil)) pe_int)))
  (pss_cons (ps_set (i:=5) sc_hand_right.nd rfl (by first|exact Or.inl rfl|exact Or.inr rfl) (pe_op op_zCatL (yv 5) (pe_lst (pa_cons (pe_tup (pa_cons (yv 6) (pa_cons pe_non pa_nil))) (pa_cons (pe_tup (pa_cons (pe_op op_zCatL (pe_lst (pa_cons pe_str pa_nil)) (yv 6)) (pa_cons pe_int pa_nil))) (pa_cons (pe_tup (pa_cons (pe_op op_zCatL (yv 3) (pe_lst (pa_cons pe_str (pa_cons pe_str (pa_cons pe_str (pa_cons pe_str pa_nil)))))) (pa_cons pe_int pa_nil))) pa_nil))))))
  (pss_cons (ps_set (i:=5) sc_hand_right.nd rfl (by first|exact Or.inl rfl|exact Or.inr rfl) (pe_op op_zCatL (yv 5) (pe_lst (pa_cons (pe_tup (pa_cons (pe_op op_zCatL (yv 3) (pe_lst (pa_cons pe_str (pa_cons pe_str (pa_cons pe_str (pa_cons pe_str (pa_cons pe_str pa_nil))))))) (pa_cons pe_int pa_nil))) pa_nil))))
  (pss_cons (ps_set (i:=5) sc_hand_right.nd rfl (by first|exact Or.inl rfl|exact Or.inr rfl) (pe_op op_zCatL (yv 5) (pe_lst (pa_cons (pe_tup (pa_cons (pe_bm PySem.F.plainAttrs_str PySem.F.slot_str_split PySem.F.type_str_split mt_zSplit pe_str (pa_cons pe_str pa_nil)) (pa_cons pe_int pa_nil))) pa_nil))))
  (pss_cons (ps_set (i:=5) sc_hand_right.nd rfl (by first|exact Or.inl rfl|exact Or.inr rfl) (pe_op op_zCatL (yv 5) (pe_lst (pa_cons (pe_tup (pa_cons (pe_bm PySem.F.plainAttrs_str PySem.F.slot_str_split PySem.F.type_str_split mt_zSplit (pe_bm PySem.F.plainAttrs_str PySem.F.slot_str_join PySem.F.type_str_join mt_zJoin pe_str (pa_cons (pe_op op_zRepL (pe_lst (pa_cons pe_str pa_nil)) pe_int) pa_nil)) (pa_cons pe_str pa_nil)) (pa_cons pe_non pa_nil))) pa_nil))))
  (pss_cons (ps_set (i:=5) sc_hand_right.nd rfl (by first|exact Or.inl rfl|exact Or.inr rfl) (pe_op op_zCatL (yv 5) (ye_lc (own:= [("_law_word",7)]) (g:=(gName 7)) (tt:=tYes) rfl sc_hand_right.nd (j_lst (pe_op op_zCatL (ye_call0 j1 (hr.mono (by decide)) rfl) (pe_lst (pa_cons (pe_op op_zRepS pe_str pe_int) (pa_cons pe_str (pa_cons pe_str pa_nil)))))) (blkOk_by (N:=N_hand_right) (sc:=defScope s_hand_right) (by decide+kernel)) (fun _ _ _ _ _=>(pg_name (i:=7) sc_hand_right.nd rfl (by first|exact Or.inl rfl|exact Or.inr rfl))) (fun _ _ _ _ _=>pts_nil) (fun _ _ _ _ _=>(pe_tup (pa_cons (pe_lst (pa_cons pe_str (pa_cons (yv 7) (pa_cons pe_str (pa_cons pe_str (pa_cons pe_str (pa_cons pe_str (pa_cons pe_str pa_nil)))))))) (pa_cons pe_int pa_nil)))))))
  (pss_one (ps_ret (pe_cmpR (op_zEqD hr.units) (ye_lc (own:= [("_law_words",8),("_law_due",9)]) (g:=(gTup K 2 (gCons (gName 8) (gCons (gName 9) gNil)))) (tt:=(yTst (tOp zNe (yCall (sp_bad K) E0 (tCons (yVar 0) (tCons (yVar 8) tNil))) (yVar 9)))) rfl sc_hand_right.nd (j_lst (yv 5)) (blkOk_by (N:=N_hand_right) (sc:=defScope s_hand_right) (by decide+kernel)) (fun _ _ _ _ _=>(pg_tup rfl (pgs_cons (pg_name (i:=8) sc_hand_right.nd rfl (by first|exact Or.inl rfl|exact Or.inr rfl)) (pgs_cons (pg_name (i:=9) sc_hand_right.nd rfl (by first|exact Or.inl rfl|exact Or.inr rfl)) pgs_nil)))) (fun _ _ _ _ _=>(pts_one (yt_cmp op_zNe (ye_call j2 (hr.mono (by decide)) rfl (pa_cons (yv 0) (pa_cons (yv 8) pa_nil))) (yv 9) (by rfl)))) (fun _ _ _ _ _=>(yv 8))) (pe_lst pa_nil) (by rfl))))))))))))))))))))))
end
section
variable {P:Program} {w:World} {K:Kf} {mg:Str→Option Value} {base:Heap} {f:Addr} {fd:FuncData}
theorem mk_BadTracks (A:XcAll P K "BadTracks" (inClass (top 4) 0) "BadTracks.__init__" f fd) (g:mg "BadTracks"=some (.ref (He.ga K "BadTracks"))) (hs:mg "super"=none) (no:PySem.W.findIn K (.ref (He.ga K "BadTracks")) "index"=some none):
 Mk P w K mg base "BadTracks" (He.ga K "BadTracks") ["self","index"] (spI1 (He.ga K "BadTracks") "index" fmtOk):=
 mk_of_all A g (ini1 A.fn hs rfl ⟨rfl,rfl,rfl,by decide+kernel,rfl,by decide+kernel,by decide+kernel,by decide+kernel,rfl,rfl⟩ rfl rfl no (says_f3 (by decide) (by decide) (by decide) (by decide)) (by decide) (by decide))
  (fun _ _ _ _ _ _ _ us hl=>match us,hl with|[_,_],_=>rfl)
theorem mk_BadSaying (A:XcAll P K "BadSaying" (inClass (top 5) 0) "BadSaying.__init__" f fd) (g:mg "BadSaying"=some (.ref (He.ga K "BadSaying"))) (hs:mg "super"=none) (no:PySem.W.findIn K (.ref (He.ga K "BadSaying")) "index"=some none):
 Mk P w K mg base "BadSaying" (He.ga K "BadSaying") ["self","index"] (spI1 (He.ga K "BadSaying") "index" fmtOk):=
 mk_of_all A g (ini1 A.fn hs rfl ⟨rfl,rfl,rfl,by decide+kernel,rfl,by decide+kernel,by decide+kernel,by decide+kernel,rfl,rfl⟩ rfl rfl no (says_f3 (by decide) (by decide) (by decide) (by decide)) (by decide) (by decide))
  (fun _ _ _ _ _ _ _ us hl=>match us,hl with|[_,_],_=>rfl)
theorem mk_BadSheet (A:XcAll P K "BadSheet" (inClass (top 3) 0) "BadSheet.__init__" f fd) (g:mg "BadSheet"=some (.ref (He.ga K "BadSheet"))) (hs:mg "super"=none) (no:PySem.W.findIn K (.ref (He.ga K "BadSheet")) "line"=some none):
 Mk P w K mg base "BadSheet" (He.ga K "BadSheet") ["self","line"] (spI1 (He.ga K "BadSheet") "line" fmtOk):=
 mk_of_all A g (ini1 A.fn hs rfl ⟨rfl,rfl,rfl,by decide+kernel,rfl,by decide+kernel,by decide+kernel,by decide+kernel,rfl,rfl⟩ rfl rfl no (says_f3 (by decide) (by decide) (by decide) (by decide)) (by decide) (by decide))
  (fun _ _ _ _ _ _ _ us hl=>match us,hl with|[_,_],_=>rfl)
theorem mk_NoTrack (A:XcAll P K "NoTrack" (inClass (top 6) 0) "NoTrack.__init__" f fd) (g:mg "NoTrack"=some (.ref (He.ga K "NoTrack"))) (hs:mg "super"=none) (no:PySem.W.findIn K (.ref (He.ga K "NoTrack")) "name"=some none):
 Mk P w K mg base "NoTrack" (He.ga K "NoTrack") ["self","name"] (spI1 (He.ga K "NoTrack") "name" fmtOk):=
 mk_of_all A g (ini1 A.fn hs rfl ⟨rfl,rfl,rfl,by decide+kernel,rfl,by decide+kernel,by decide+kernel,by decide+kernel,rfl,rfl⟩ rfl rfl no (says_f2 (by decide) (by decide) (by decide)) (by decide) (by decide))
  (fun _ _ _ _ _ _ _ us hl=>match us,hl with|[_,_],_=>rfl)
theorem mk_NoColumn (A:XcAll P K "NoColumn" (inClass (top 7) 0) "NoColumn.__init__" f fd) (g:mg "NoColumn"=some (.ref (He.ga K "NoColumn"))) (hs:mg "super"=none) (no:PySem.W.findIn K (.ref (He.ga K "NoColumn")) "column"=some none):
 Mk P w K mg base "NoColumn" (He.ga K "NoColumn") ["self","column"] (spI1 (He.ga K "NoColumn") "column" anyOk):=
 mk_of_all A g (ini1 A.fn hs rfl ⟨rfl,rfl,rfl,by decide+kernel,rfl,by decide+kernel,by decide+kernel,by decide+kernel,rfl,rfl⟩ rfl rfl no says_const (by decide) (by decide))
  (fun _ _ _ _ _ _ _ us hl=>match us,hl with|[_,_],_=>rfl)
theorem mk_OtherTracks (A:XcAll P K "OtherTracks" (inClass (top 8) 0) "OtherTracks.__init__" f fd) (g:mg "OtherTracks"=some (.ref (He.ga K "OtherTracks"))) (hs:mg "super"=none):
 Mk P w K mg base "OtherTracks" (He.ga K "OtherTracks") ["self"] (spI0 (He.ga K "OtherTracks")):=
 mk_of_all A g (ini0 A.fn hs rfl ⟨rfl,rfl,rfl,by decide+kernel,rfl,by decide+kernel,by decide+kernel,by decide+kernel,rfl,rfl⟩ rfl rfl)
  (fun _ _ _ _ _ _ _ us hl=>match us,hl with|[_],_=>rfl)
end
theorem theEndsK (w:World) {P:Program} {K:Kf} {h:Heap} {mg:Str→Option Value} {f:Addr} (X:K.In h) (G:h.Ns mainGlobals mg) (hfa:mg ("law":Str)=some (.ref f)) (c:SaysF P hD w h K):
 ∃fd:FuncData,(∀(s:Shared) (v:Value),BindsTo s fd ⟨[v],[]⟩ [("_law_script",v)])∧FS K∧XFs K ERR∧∀base:Heap,K.In base→base.Ns mainGlobals mg→LamX.TabB base mg (He.cT K ("_law_places_right",none)).1 (He.cT K ("_law_places_right",none)).2→AtCaller P w K mg base f fd "_law_script" (sp_law K):=by
 have fact:∀fa:He.Fa,fa∈fas→fa.ok K=true:=fun fa hm=>c.d.facts hm
 have tl:∀(i:Nat) {fa:He.Fa},tailF[i]?=some fa→fa.ok K=true:=fun i fa hm=>fact fa (z12 _ (z12 _ (z12 _ (z12 _ (z11 hm)))))
 have g0:∀x∈glos,mg x=some (.ref (He.ga K x)):=fun x hx=>He.glo_ok X G (fact _ (z18 _ (List.mem_map_of_mem hx)))
 have GC:∀x∈clsN,mg x=some (.ref (He.ga K x)):=fun x hx=>He.glo_ok X G (fact _ (z12 _ (z18 _ (List.mem_map_of_mem hx))))
 have gf:∀x∈blts,mg x=none:=fun x hx=>He.free_ok X G (fact _ (z12 _ (z12 _ (z18 _ (List.mem_map_of_mem hx)))))
 have na:∀x f,(x,f)∈fldN→NoAttr K (He.ga K x) f:=fun x f hm=>He.noat_ok (fact _ (z12 _ (z12 _ (z12 _ (z18 _ (List.mem_map_of_mem (f:=fun p=>He.Fa.noat p.1 p.2) hm))))))
 have B:Blt mg:=⟨gf _ (by decide),gf _ (by decide),gf _ (by decide),gf _ (by decide),gf _ (by decide),gf _ (by decide),gf _ (by decide),gf _ (by decide),gf _ (by decide),gf _ (by decide),gf _ (by decide),gf _ (by decide),gf _ (by decide),gf _ (by decide),gf _ (by decide),gf _ (by decide),gf _ (by decide),gf _ (by decide),gf _ (by decide),gf _ (by decide),gf _ (by decide)⟩
 have ex:(exHd.all fun t=>t K)=true:=(He.ba c.x.more).1
 have exj:(exJ.all fun t=>t K)=true:=(He.ba c.x.more).2
 have j28:Cls K (He.ga K "Reader"):=He.cls_ok (tl 0 rfl)
 have j1:Cls K (He.ga K "SayingReader"):=He.cls_ok (tl 1 rfl)
 have j17:Cls K (He.ga K "Saying"):=He.cls_ok (tl 2 rfl)
 have j85:Cls K (He.ga K "Rows"):=He.cls_ok (tl 3 rfl)
 have j25:Cls K (He.ga K "Sheet"):=He.cls_ok (tl 4 rfl)
 have j193:=He.mkr_ok (x:= "Reader") (tl 5 rfl)
 have j150:=He.meth_ok (x:= "Reader") (m:= "word") (tl 6 rfl)
 have j151:=He.meth_ok (x:= "Reader") (m:= "take") (tl 7 rfl)
 have j118:=He.meth_ok (x:= "Reader") (m:= "begin_part") (tl 8 rfl)
 have j134:=He.meth_ok (x:= "Reader") (m:= "single") (tl 9 rfl)
 have j135:=He.meth_ok (x:= "Reader") (m:= "all_of") (tl 10 rfl)
 have j136:=He.meth_ok (x:= "Reader") (m:= "any_of") (tl 11 rfl)
 have j143:=He.meth_ok (x:= "Reader") (m:= "whole") (tl 12 rfl)
 have j79:=He.mkr_ok (x:= "SayingReader") (tl 13 rfl)
 have j46:L2.Meth K (He.ga K "SayingReader") "word" (He.ma K (He.ga K "Reader") "word"):=by
  have z:=He.meth_ok (x:= "SayingReader") (m:= "word") (tl 14 rfl)
  rw[sameMaB_ok (exL_ok exj 0)] at z
  exact z
 have j47:L2.Meth K (He.ga K "SayingReader") "take" (He.ma K (He.ga K "Reader") "take"):=by
  have z:=He.meth_ok (x:= "SayingReader") (m:= "take") (tl 15 rfl)
  rw[sameMaB_ok (exL_ok exj 1)] at z
  exact z
 have j30:L2.Meth K (He.ga K "SayingReader") "begin_part" (He.ma K (He.ga K "Reader") "begin_part"):=by
  have z:=He.meth_ok (x:= "SayingReader") (m:= "begin_part") (tl 16 rfl)
  rw[sameMaB_ok (exL_ok exj 2)] at z
  exact z
 have j29:=He.meth_ok (x:= "SayingReader") (m:= "column_word") (tl 17 rfl)
 have j13:L2.Meth K (He.ga K "SayingReader") "single" (He.ma K (He.ga K "Reader") "single"):=by
  have z:=He.meth_ok (x:= "SayingReader") (m:= "single") (tl 18 rfl)
  rw[sameMaB_ok (exL_ok exj 3)] at z
  exact z
 have j14:L2.Meth K (He.ga K "SayingReader") "all_of" (He.ma K (He.ga K "Reader") "all_of"):=by
  have z:=He.meth_ok (x:= "SayingReader") (m:= "all_of") (tl 19 rfl)
  rw[sameMaB_ok (exL_ok exj 4)] at z
  exact z
 have j15:L2.Meth K (He.ga K "SayingReader") "any_of" (He.ma K (He.ga K "Reader") "any_of"):=by
  have z:=He.meth_ok (x:= "SayingReader") (m:= "any_of") (tl 20 rfl)
  rw[sameMaB_ok (exL_ok exj 5)] at z
  exact z
 have j18:=He.meth_ok (x:= "SayingReader") (m:= "block") (tl 21 rfl)
 have j6:=He.meth_ok (x:= "SayingReader") (m:= "part_or_block") (tl 22 rfl)
 have j40:L2.Meth K (He.ga K "SayingReader") "whole" (He.ma K (He.ga K "Reader") "whole"):=by
  have z:=He.meth_ok (x:= "SayingReader") (m:= "whole") (tl 23 rfl)
  rw[sameMaB_ok (exL_ok exj 6)] at z
  exact z
 have j126:=He.mkr_ok (x:= "Saying") (tl 24 rfl)
 have j152:=He.mkr_ok (x:= "Rows") (tl 25 rfl)
 have j137:=He.mkr_ok (x:= "Sheet") (tl 26 rfl)
 have j95:=He.meth_ok (x:= "Sheet") (m:= "__len__") (tl 27 rfl)
 have j80:=He.meth_ok (x:= "Saying") (m:= "holds") (tl 28 rfl)
 have j96:PySem.W.findIn K (.ref (He.ga K "BadTracks")) "index"=some none:=He.noat_ok (tl 29 rfl)
 have j97:PySem.W.findIn K (.ref (He.ga K "BadSaying")) "index"=some none:=He.noat_ok (tl 30 rfl)
 have j107:PySem.W.findIn K (.ref (He.ga K "BadSheet")) "line"=some none:=He.noat_ok (tl 31 rfl)
 have j119:PySem.W.findIn K (.ref (He.ga K "NoTrack")) "name"=some none:=He.noat_ok (tl 32 rfl)
 have j108:PySem.W.findIn K (.ref (He.ga K "NoColumn")) "column"=some none:=He.noat_ok (tl 33 rfl)
 have k_LETTERS:=k_str (He.str_ok X G (tl 34 rfl))
 have k_BARRED:=k_ref (He.glo_ok X G (tl 35 rfl))
 have k_LONGEST:=k_int (He.int_ok X G (tl 36 rfl))
 have k_MOST_TRACKS:=k_int (He.int_ok X G (tl 37 rfl))
 have k_MOST_PARTS:=k_int (He.int_ok X G (tl 38 rfl))
 have k_MOST_BLOCKS:=k_int (He.int_ok X G (tl 39 rfl))
 have k_MOST_OPEN:=k_int (He.int_ok X G (tl 40 rfl))
 have k_MOST_BOUND:=k_int (He.int_ok X G (tl 41 rfl))
 have k_LINE_WORDS:=k_int (He.int_ok X G (tl 42 rfl))
 have k_MOST_COLUMNS:=k_int (He.int_ok X G (tl 43 rfl))
 have CF:∀x f,(x,f)∈fldN→Cls K (He.ga K x)∧NoAttr K (He.ga K x) f:=fun x f hm=>by
  refine⟨?_,na x f hm⟩
  simp only[fldN,List.cons_append,List.nil_append,List.mem_cons,z13,or_false,Prod.mk.injEq] at hm
  rcases hm with⟨rfl,_⟩|⟨rfl,_⟩|⟨rfl,_⟩|⟨rfl,_⟩|⟨rfl,_⟩|⟨rfl,_⟩|⟨rfl,_⟩|⟨rfl,_⟩|⟨rfl,_⟩|⟨rfl,_⟩|⟨rfl,_⟩|⟨rfl,_⟩|⟨rfl,_⟩|⟨rfl,_⟩|⟨rfl,_⟩|⟨rfl,_⟩|⟨rfl,_⟩|⟨rfl,_⟩|⟨rfl,_⟩|⟨rfl,_⟩|⟨rfl,_⟩|⟨rfl,_⟩
  ·exact j85
  ·exact j85
  ·exact j25
  ·exact j25
  ·exact j25
  ·exact j25
  ·exact j28
  ·exact j28
  ·exact j28
  ·exact j28
  ·exact j28
  ·exact j1
  ·exact j1
  ·exact j17
  ·exact j17
  ·exact j17
  ·exact j17
  ·exact j1
  ·exact j1
  ·exact j1
  ·exact j1
  ·exact j1
 have j76:((He.cT K ("_law_places_right",none)).2,(("_law_places_right":Str)++(".<locals>.":Str))++("<lambda>":Str))∈TB K:= .head _
 have j77:∀p∈TB K,p.1=(He.cT K ("_law_places_right",none)).2→p.2=(("_law_places_right":Str)++(".<locals>.":Str))++("<lambda>":Str):=fun p hp hq=>by
  rw[z32.mp hp]
 obtain⟨j153,j51⟩:=c.d.def_ 12 (d:=dM "Reader" "__init__" 29 0) rfl
 obtain⟨j154,j52⟩:=c.d.def_ 13 (d:=dM "Reader" "word" 29 1) rfl
 obtain⟨j155,j53⟩:=c.d.def_ 14 (d:=dM "Reader" "take" 29 2) rfl
 obtain⟨j120,j23⟩:=c.d.def_ 15 (d:=dM "Reader" "begin_part" 29 8) rfl
 obtain⟨j138,j20⟩:=c.d.def_ 16 (d:=dM "Reader" "single" 29 6) rfl
 obtain⟨j139,j9⟩:=c.d.def_ 17 (d:=dM "Reader" "all_of" 29 5) rfl
 obtain⟨j140,j10⟩:=c.d.def_ 18 (d:=dM "Reader" "any_of" 29 4) rfl
 obtain⟨j144,j41⟩:=c.d.def_ 19 (d:=dM "Reader" "whole" 29 3) rfl
 obtain⟨j170,j67⟩:=c.d.def_ 0 (d:=dD "_law_begun_pen" 36) rfl
 have j109:∀base,Cal P w K mg base "_law_begun_pen" 1 ["_law_script"] (sp_begun_pen K):=fun base=>cal_of j67 (g0 "_law_begun_pen" (by decide)) (ok_begun_pen B j67) (fun _ _ _ _ _ _ us hl=>match us,hl with|[_],_=>rfl)
 obtain⟨j196,j127⟩:=c.d.def_ 1 (d:=dD "_law_draw" 37) rfl
 have j21:∀base,Cal P w K mg base "_law_draw" 1 ["_law_pen","_law_span"] (sp_draw K):=fun base=>cal_of j127 (g0 "_law_draw" (by decide)) (ok_draw B j127) (fun _ _ _ _ _ _ us hl=>match us,hl with|[_,_],_=>rfl)
 obtain⟨j184,j81⟩:=c.d.def_ 2 (d:=dD "_law_shuffled" 39) rfl
 have j121:∀base,Cal P w K mg base "_law_shuffled" 2 ["_law_pen","_law_items"] (sp_shuffled K):=fun base=>cal_of j81 (g0 "_law_shuffled" (by decide)) (ok_shuffled B (j21 base) j81) (fun _ _ _ _ _ _ us hl=>match us,hl with|[_,_],_=>rfl)
 obtain⟨j171,j68⟩:=c.d.def_ 3 (d:=dD "_law_new_names" 41) rfl
 have j110:∀base,Cal P w K mg base "_law_new_names" 3 ["_law_pen","_law_many"] (sp_new_names K):=fun base=>cal_of j68 (g0 "_law_new_names" (by decide)) (ok_new_names B (j121 base) j68) (fun _ _ _ _ _ _ us hl=>match us,hl with|[_,_],_=>rfl)
 obtain⟨j162,j59⟩:=c.d.def_ 4 (d:=dD "_law_new_tracks" 42) rfl
 have j98:∀base,Cal P w K mg base "_law_new_tracks" 4 ["_law_pen","_law_most"] (sp_new_tracks K):=fun base=>cal_of j59 (g0 "_law_new_tracks" (by decide)) (ok_new_tracks B (j21 base) (j110 base) j59) (fun _ _ _ _ _ _ us hl=>match us,hl with|[_,_],_=>rfl)
 obtain⟨j197,j128⟩:=c.d.def_ 5 (d:=dD "_law_pick" 38) rfl
 have j82:∀base,Cal P w K mg base "_law_pick" 2 ["_law_pen","_law_options"] (sp_pick K):=fun base=>cal_of j128 (g0 "_law_pick" (by decide)) (ok_pick B (j21 base) j128) (fun _ _ _ _ _ _ us hl=>match us,hl with|[_,_],_=>rfl)
 obtain⟨j172,j69⟩:=c.d.def_ 6 (d:=dD "_law_new_claim" 47) rfl
 have j70:∀base,Cal P w K mg base "_law_new_claim" 3 ["_law_pen","_law_tracks","_law_words"] (sp_new_claim K):=fun base=>cal_of j69 (g0 "_law_new_claim" (by decide)) (ok_new_claim B (j82 base) (j21 base) j69) (fun _ _ _ _ _ _ us hl=>match us,hl with|[_,_,_],_=>rfl)
 obtain⟨j173,j71⟩:=c.d.def_ 7 (d:=dD "_law_new_block" 48) rfl
 have j111:∀base,Cal P w K mg base "_law_new_block" 4 ["_law_pen","_law_tracks","_law_bound","_law_words"] (sp_new_block K):=fun base=>cal_of j71 (g0 "_law_new_block" (by decide)) (ok_new_block B (j82 base) (j21 base) (j70 base) j71) (fun _ _ _ _ _ _ us hl=>match us,hl with|[_,_,_,_],_=>rfl)
 obtain⟨j163,j33⟩:=c.d.def_ 8 (d:=dD "_law_new_saying" 49) rfl
 have j99:∀(base:Heap) (N:Nat),Cal P w K mg base "_law_new_saying" (N+8) ["_law_pen","_law_tracks","_law_bound","_law_words","_law_blocks"] (sp_new_saying N K):=fun base N=>by
  induction N with
  |zero=>exact cal_of j33 (g0 "_law_new_saying" (by decide)) ⟨fun vs H Q E h=>(nil_new_saying h).elim,fun A outer s H args us vs Q E hr he hb hv h=>(nil_new_saying h).elim⟩ (fun _ _ _ _ _ _ us hl=>match us,hl with|[_,_,_,_,_],_=>rfl)
  |succ N ih=>exact cal_of j33 (g0 "_law_new_saying" (by decide)) (ok_new_saying B (j70 base) (j21 base) (j111 base) (j82 base) ih j33) (fun _ _ _ _ _ _ us hl=>match us,hl with|[_,_,_,_,_],_=>rfl)
 have j100:∀base,Cal P w K mg base "_law_new_saying" 11 ["_law_pen","_law_tracks","_law_bound","_law_words","_law_blocks"] (sp_new_saying 3 K):=fun base=>j99 base 3
 obtain⟨j156,j31⟩:=c.d.def_ 9 (d:=dD "_law_saying_text" 50) rfl
 have j89:∀(base:Heap) (N:Nat),Cal P w K mg base "_law_saying_text" (N+0) ["_law_saying"] (sp_saying_text N K):=fun base N=>by
  induction N with
  |zero=>exact cal_of j31 (g0 "_law_saying_text" (by decide)) ⟨fun vs H Q E h=>(nil_saying_text h).elim,fun A outer s H args us vs Q E hr he hb hv h=>(nil_saying_text h).elim⟩ (fun _ _ _ _ _ _ us hl=>match us,hl with|[_],_=>rfl)
  |succ N ih=>exact cal_of j31 (g0 "_law_saying_text" (by decide)) (ok_saying_text B ih j31) (fun _ _ _ _ _ _ us hl=>match us,hl with|[_],_=>rfl)
 have j90:∀base,Cal P w K mg base "_law_saying_text" 24 ["_law_saying"] (sp_saying_text 24 K):=fun base=>j89 base 24
 obtain⟨j174,j72⟩:=c.d.def_ 10 (d:=dD "is_name" 14) rfl
 have j27:∀base,Cal P w K mg base "is_name" 1 ["word"] (sp_p_is_name K):=fun base=>cal_of j72 (g0 "is_name" (by decide)) (ok_p_is_name B k_LETTERS k_BARRED k_LONGEST j72) (fun _ _ _ _ _ _ us hl=>match us,hl with|[_],_=>rfl)
 obtain⟨j185,j175,j36⟩:=c.exc (x:= "BadTracks") (qual:= "BadTracks.__init__") (st:=inClass (top 4) 0) (z11 (l:=xss) (i:=0) rfl)
 have j112:∀base,Mk P w K mg base "BadTracks" (He.ga K "BadTracks") ["self","index"] (spI1 (He.ga K "BadTracks") "index" fmtOk):=fun base=>mk_BadTracks j36 (GC "BadTracks" (by decide)) B.super j96
 obtain⟨j132,j34⟩:=c.d.def_ 11 (d:=dD "check_tracks" 19) rfl
 have j78:∀base,Cal P w K mg base "check_tracks" 3 ["tracks"] (sp_p_check_tracks K):=fun base=>cal_of j34 (g0 "check_tracks" (by decide)) (ok_p_check_tracks B (j27 base) (j112 base) k_MOST_TRACKS j34) (fun _ _ _ _ _ _ us hl=>match us,hl with|[_],_=>rfl)
 obtain⟨j122,j24⟩:=c.sup (x:= "SayingReader") (base:= "Reader") (qual:= "SayingReader.__init__") (st:=inClass (top 30) 0) (z11 (l:=suL) (i:=0) rfl)
 have j58:∀base,OM P w K mg base "SayingReader" 2 ["self","tracks","words"] (sp_SayingReader_init K):=fun base=>om_su j24 j1 j79 (GC "SayingReader" (by decide)) (ok_SayingReader_init B (ok_SayingReader_super_init B k_MOST_PARTS CF j51) (j51.bindsN (fun _ _ _ _ _ _ us hl=>match us,hl with|[_,_,_],_=>rfl)) k_MOST_BLOCKS CF j24) (fun _ _ _ _ _ _ _ us hl=>match us,hl with|[_,_,_],_=>rfl)
 have j2:∀base,OMe P w K mg base "SayingReader" "word" 1 ["self"] (sp_SayingReader_word K):=fun base=>ome_tw j52 j1 j46 (ok_SayingReader_word B CF j52) (fun _ _ _ _ _ _ us hl=>match us,hl with|[_],_=>rfl)
 obtain⟨j186,j176,j37⟩:=c.exc (x:= "BadSaying") (qual:= "BadSaying.__init__") (st:=inClass (top 5) 0) (z11 (l:=xss) (i:=1) rfl)
 have j38:∀base,Mk P w K mg base "BadSaying" (He.ga K "BadSaying") ["self","index"] (spI1 (He.ga K "BadSaying") "index" fmtOk):=fun base=>mk_BadSaying j37 (GC "BadSaying" (by decide)) B.super j97
 have j4:∀base,OMe P w K mg base "SayingReader" "take" 3 ["self","is_right"] (sp_SayingReader_take K):=fun base=>ome_tw j53 j1 j47 (ok_SayingReader_take B (j38 base) CF j53) (fun _ _ _ _ _ _ us hl=>match us,hl with|[_,_],_=>rfl)
 have j11:∀base,OMe P w K mg base "SayingReader" "begin_part" 3 ["self"] (sp_SayingReader_begin_part K):=fun base=>ome_tw j23 j1 j30 (ok_SayingReader_begin_part B (j38 base) CF j23) (fun _ _ _ _ _ _ us hl=>match us,hl with|[_],_=>rfl)
 obtain⟨j88,j7⟩:=c.d.def_ 20 (d:=dM "SayingReader" "column_word" 30 2) rfl
 have j8:∀base,OMe P w K mg base "SayingReader" "column_word" 4 ["self"] (sp_SayingReader_column_word K):=fun base=>ome_of j7 j1 j29 (ok_SayingReader_column_word B (j2 base) (j4 base) CF j7) (fun _ _ _ _ _ _ us hl=>match us,hl with|[_],_=>rfl)
 obtain⟨j117,j5⟩:=c.d.def_ 21 (d:=dM "SayingReader" "block" 30 3) rfl
 obtain⟨j84,j3⟩:=c.d.def_ 22 (d:=dM "SayingReader" "part_or_block" 30 1) rfl
 have j42:∀(base:Heap) (N:Nat),OMe P w K mg base "SayingReader" "single" (5*N+4) ["self"] (sp_SayingReader_single N K):=fun base N=>by
  induction N with
  |zero=>exact ome_tw j20 j1 j13 ⟨fun vs H Q E h=>(nil_SayingReader_single h).elim,fun A outer s H args us vs Q E hr he hb hv h=>(nil_SayingReader_single h).elim⟩ (fun _ _ _ _ _ _ us hl=>match us,hl with|[_],_=>rfl)
  |succ N ih=>
   have h_SayingReader_all_of:OMe P w K mg base "SayingReader" "all_of" (5*N+5) ["self"] (sp_SayingReader_all_of N K):=ome_tw j9 j1 j14 (ok_SayingReader_all_of B ih (j2 base) CF j9) (fun _ _ _ _ _ _ us hl=>match us,hl with|[_],_=>rfl)
   have h_SayingReader_any_of:OMe P w K mg base "SayingReader" "any_of" (5*N+6) ["self"] (sp_SayingReader_any_of N K):=ome_tw j10 j1 j15 (ok_SayingReader_any_of B h_SayingReader_all_of (j2 base) CF j10) (fun _ _ _ _ _ _ us hl=>match us,hl with|[_],_=>rfl)
   have h_SayingReader_block:OMe P w K mg base "SayingReader" "block" (5*N+7) ["self"] (sp_SayingReader_block N K):=ome_of j5 j1 j18 (ok_SayingReader_block B (j4 base) (j2 base) (j27 base) h_SayingReader_any_of k_MOST_BOUND CF j5) (fun _ _ _ _ _ _ us hl=>match us,hl with|[_],_=>rfl)
   have h_SayingReader_part_or_block:OMe P w K mg base "SayingReader" "part_or_block" (5*N+8) ["self"] (sp_SayingReader_part_or_block N K):=ome_of j3 j1 j6 (ok_SayingReader_part_or_block B (j2 base) h_SayingReader_block (j11 base) (j8 base) (j4 base) CF j3) (fun _ _ _ _ _ _ us hl=>match us,hl with|[_],_=>rfl)
   exact ome_tw j20 j1 j13 (ok_SayingReader_single B (j2 base) (j4 base) ih h_SayingReader_any_of h_SayingReader_part_or_block k_MOST_OPEN CF j20) (fun _ _ _ _ _ _ us hl=>match us,hl with|[_],_=>rfl)
 have j43:∀base,OMe P w K mg base "SayingReader" "all_of" 65 ["self"] (sp_SayingReader_all_of 12 K):=fun base=>ome_tw j9 j1 j14 (ok_SayingReader_all_of (N:=12) B (j42 base 12) (j2 base) CF j9) (fun _ _ _ _ _ _ us hl=>match us,hl with|[_],_=>rfl)
 have j19:∀base,OMe P w K mg base "SayingReader" "any_of" 66 ["self"] (sp_SayingReader_any_of 12 K):=fun base=>ome_tw j10 j1 j15 (ok_SayingReader_any_of (N:=12) B (j43 base) (j2 base) CF j10) (fun _ _ _ _ _ _ us hl=>match us,hl with|[_],_=>rfl)
 have j48:∀base,OMe P w K mg base "SayingReader" "block" 67 ["self"] (sp_SayingReader_block 12 K):=fun base=>ome_of j5 j1 j18 (ok_SayingReader_block (N:=12) B (j4 base) (j2 base) (j27 base) (j19 base) k_MOST_BOUND CF j5) (fun _ _ _ _ _ _ us hl=>match us,hl with|[_],_=>rfl)
 have j86:∀base,OMe P w K mg base "SayingReader" "part_or_block" 68 ["self"] (sp_SayingReader_part_or_block 12 K):=fun base=>ome_of j3 j1 j6 (ok_SayingReader_part_or_block (N:=12) B (j2 base) (j48 base) (j11 base) (j8 base) (j4 base) CF j3) (fun _ _ _ _ _ _ us hl=>match us,hl with|[_],_=>rfl)
 have j49:∀base,OMe P w K mg base "SayingReader" "whole" 67 ["self"] (sp_SayingReader_whole K):=fun base=>ome_tw j41 j1 j40 (ok_SayingReader_whole B (j19 base) (j38 base) CF j41) (fun _ _ _ _ _ _ us hl=>match us,hl with|[_],_=>rfl)
 obtain⟨j157,j54⟩:=c.d.def_ 23 (d:=dM "Saying" "__init__" 34 0) rfl
 have j16:∀base,OM P w K mg base "Saying" 68 ["self","tracks","text"] (sp_Saying_init K):=fun base=>om_of j54 j17 j126 (GC "Saying" (by decide)) (ok_Saying_init B (j78 base) (j58 base) (j49 base) CF j54) (fun _ _ _ _ _ _ us hl=>match us,hl with|[_,_,_],_=>rfl)
 obtain⟨j177,j73⟩:=c.d.def_ 24 (d:=dD "_law_new_sheet" 43) rfl
 have j113:∀base,Cal P w K mg base "_law_new_sheet" 2 ["_law_pen","_law_tracks","_law_many"] (sp_new_sheet K):=fun base=>cal_of j73 (g0 "_law_new_sheet" (by decide)) (ok_new_sheet B (j21 base) j73) (fun _ _ _ _ _ _ us hl=>match us,hl with|[_,_,_],_=>rfl)
 obtain⟨j158,j55⟩:=c.d.def_ 25 (d:=dD "_law_drawn_place" 46) rfl
 have j91:∀base,Cal P w K mg base "_law_drawn_place" 3 ["_law_pen","_law_sheet"] (sp_drawn_place K):=fun base=>cal_of j55 (g0 "_law_drawn_place" (by decide)) (ok_drawn_place B (j21 base) (j82 base) j55) (fun _ _ _ _ _ _ us hl=>match us,hl with|[_,_],_=>rfl)
 obtain⟨j164,j60⟩:=c.d.def_ 26 (d:=dD "lines_of" 13) rfl
 have j101:∀base,Cal P w K mg base "lines_of" 1 ["text"] (sp_p_lines_of K):=fun base=>cal_of j60 (g0 "lines_of" (by decide)) (ok_p_lines_of B j60) (fun _ _ _ _ _ _ us hl=>match us,hl with|[_],_=>rfl)
 obtain⟨j178,j74⟩:=c.d.def_ 27 (d:=dM "Rows" "__init__" 20 0) rfl
 have j114:∀base,OM P w K mg base "Rows" 1 ["self","tracks","signs"] (sp_Rows_init K):=fun base=>om_of j74 j85 j152 (GC "Rows" (by decide)) (ok_Rows_init B CF j74) (fun _ _ _ _ _ _ us hl=>match us,hl with|[_,_,_],_=>rfl)
 obtain⟨j189,j187,j123⟩:=c.exc (x:= "BadSheet") (qual:= "BadSheet.__init__") (st:=inClass (top 3) 0) (z11 (l:=xss) (i:=2) rfl)
 have j124:∀base,Mk P w K mg base "BadSheet" (He.ga K "BadSheet") ["self","line"] (spI1 (He.ga K "BadSheet") "line" fmtOk):=fun base=>mk_BadSheet j123 (GC "BadSheet" (by decide)) B.super j107
 obtain⟨j159,j56⟩:=c.d.def_ 28 (d:=dD "read_rows" 21) rfl
 have j92:∀base,Cal P w K mg base "read_rows" 3 ["text"] (sp_p_read_rows K):=fun base=>cal_of j56 (g0 "read_rows" (by decide)) (ok_p_read_rows B (j101 base) (j27 base) (j114 base) (j124 base) k_LINE_WORDS k_MOST_TRACKS k_MOST_COLUMNS j56) (fun _ _ _ _ _ _ us hl=>match us,hl with|[_],_=>rfl)
 obtain⟨j165,j61⟩:=c.d.def_ 29 (d:=dM "Sheet" "__init__" 22 0) rfl
 have j62:∀base,OM P w K mg base "Sheet" 4 ["self","text"] (sp_Sheet_init K):=fun base=>om_of j61 j25 j137 (GC "Sheet" (by decide)) (ok_Sheet_init B (j92 base) CF GC j61) (fun _ _ _ _ _ _ us hl=>match us,hl with|[_,_],_=>rfl)
 obtain⟨j166,j63⟩:=c.d.def_ 30 (d:=dD "_law_cells_text" 44) rfl
 have j102:∀base,Cal P w K mg base "_law_cells_text" 1 ["_law_sheet","_law_number"] (sp_cells_text K):=fun base=>cal_of j63 (g0 "_law_cells_text" (by decide)) (ok_cells_text B j63) (fun _ _ _ _ _ _ us hl=>match us,hl with|[_,_],_=>rfl)
 obtain⟨j167,j64⟩:=c.d.def_ 31 (d:=dD "_law_sheet_text" 45) rfl
 have j103:∀base,Cal P w K mg base "_law_sheet_text" 2 ["_law_sheet"] (sp_sheet_text K):=fun base=>cal_of j64 (g0 "_law_sheet_text" (by decide)) (ok_sheet_text B (j102 base) j64) (fun _ _ _ _ _ _ us hl=>match us,hl with|[_],_=>rfl)
 obtain⟨j194,j190,j65⟩:=c.exc (x:= "NoTrack") (qual:= "NoTrack.__init__") (st:=inClass (top 6) 0) (z11 (l:=xss) (i:=3) rfl)
 have j129:∀base,Mk P w K mg base "NoTrack" (He.ga K "NoTrack") ["self","name"] (spI1 (He.ga K "NoTrack") "name" fmtOk):=fun base=>mk_NoTrack j65 (GC "NoTrack" (by decide)) B.super j119
 obtain⟨j191,j188,j50⟩:=c.exc (x:= "NoColumn") (qual:= "NoColumn.__init__") (st:=inClass (top 7) 0) (z11 (l:=xss) (i:=4) rfl)
 have j125:∀base,Mk P w K mg base "NoColumn" (He.ga K "NoColumn") ["self","column"] (spI1 (He.ga K "NoColumn") "column" anyOk):=fun base=>mk_NoColumn j50 (GC "NoColumn" (by decide)) B.super j108
 obtain⟨j141,j35⟩:=c.d.def_ 32 (d:=dD "check_place" 23) rfl
 have j83:∀base,Cal P w K mg base "check_place" 3 ["sheet","place"] (sp_p_check_place K):=fun base=>cal_of j35 (g0 "check_place" (by decide)) (ok_p_check_place B (j129 base) (j125 base) CF j35) (fun _ _ _ _ _ _ us hl=>match us,hl with|[_,_],_=>rfl)
 obtain⟨j179,j75⟩:=c.d.def_ 33 (d:=dM "Sheet" "__len__" 22 2) rfl
 have j115:∀base,OMe P w K mg base "Sheet" "__len__" 1 ["self"] (sp_Sheet_len K):=fun base=>ome_of j75 j25 j95 (ok_Sheet_len B CF j75) (fun _ _ _ _ _ _ us hl=>match us,hl with|[_],_=>rfl)
 obtain⟨j180,j39⟩:=c.d.def_ 34 (d:=dD "is_true" 32) rfl
 obtain⟨j130,j12⟩:=c.d.def_ 35 (d:=dD "is_block_true" 33) rfl
 have d_p_is_true_p_is_block_true:∀(base:Heap) (N:Nat),Cal P w K mg base "is_true" (N+10) ["tree","sheet","columns"] (sp_p_is_true N K)∧Cal P w K mg base "is_block_true" (N+10) ["tree","sheet","columns","at"] (sp_p_is_block_true N K):=fun base N=>by
  induction N with
  |zero=>exact⟨cal_of j39 (g0 "is_true" (by decide)) ⟨fun vs H Q E h=>(nil_p_is_true h).elim,fun A outer s H args us vs Q E hr he hb hv h=>(nil_p_is_true h).elim⟩ (fun _ _ _ _ _ _ us hl=>match us,hl with|[_,_,_],_=>rfl),cal_of j12 (g0 "is_block_true" (by decide)) ⟨fun vs H Q E h=>(nil_p_is_block_true h).elim,fun A outer s H args us vs Q E hr he hb hv h=>(nil_p_is_block_true h).elim⟩ (fun _ _ _ _ _ _ us hl=>match us,hl with|[_,_,_,_],_=>rfl)⟩
  |succ N ih=>exact⟨cal_of j39 (g0 "is_true" (by decide)) (ok_p_is_true B ih.1 ih.2 CF j39) (fun _ _ _ _ _ _ us hl=>match us,hl with|[_,_,_],_=>rfl),cal_of j12 (g0 "is_block_true" (by decide)) (ok_p_is_block_true B ih.1 (j115 base) ih.2 j12) (fun _ _ _ _ _ _ us hl=>match us,hl with|[_,_,_,_],_=>rfl)⟩
 have j116:∀base,Cal P w K mg base "is_true" 34 ["tree","sheet","columns"] (sp_p_is_true 24 K):=fun base=>(d_p_is_true_p_is_block_true base 24).1
 have j133:∀base,Cal P w K mg base "is_block_true" 34 ["tree","sheet","columns","at"] (sp_p_is_block_true 24 K):=fun base=>(d_p_is_true_p_is_block_true base 24).2
 obtain⟨j168,j160,j32⟩:=c.exc (x:= "OtherTracks") (qual:= "OtherTracks.__init__") (st:=inClass (top 8) 0) (z11 (l:=xss) (i:=5) rfl)
 have j93:∀base,Mk P w K mg base "OtherTracks" (He.ga K "OtherTracks") ["self"] (spI0 (He.ga K "OtherTracks")):=fun base=>mk_OtherTracks j32 (GC "OtherTracks" (by decide)) B.super
 obtain⟨j145,j44⟩:=c.d.def_ 36 (d:=dM "Saying" "holds" 34 1) rfl
 have j26:∀base,OMe P w K mg base "Saying" "holds" 35 ["self","sheet","place"] (sp_Saying_holds K):=fun base=>ome_of j44 j17 j80 (ok_Saying_holds B (j83 base) (j116 base) (j93 base) CF j44) (fun _ _ _ _ _ _ us hl=>match us,hl with|[_,_,_],_=>rfl)
 obtain⟨j198,j104⟩:=c.d.def_ 37 (d:=dD "_law_says" 51) rfl
 have j181:∀(base:Heap) (N:Nat),Cal P w K mg base "_law_says" (N+4) ["_law_sheet","_law_saying","_law_spots"] (sp_says N K):=fun base N=>by
  induction N with
  |zero=>exact cal_of j104 (g0 "_law_says" (by decide)) ⟨fun vs H Q E h=>(nil_says h).elim,fun A outer s H args us vs Q E hr he hb hv h=>(nil_says h).elim⟩ (fun _ _ _ _ _ _ us hl=>match us,hl with|[_,_,_],_=>rfl)
  |succ N ih=>exact cal_of j104 (g0 "_law_says" (by decide)) (ok_says B ih j104) (fun _ _ _ _ _ _ us hl=>match us,hl with|[_,_,_],_=>rfl)
 have j182:∀base,Cal P w K mg base "_law_says" 28 ["_law_sheet","_law_saying","_law_spots"] (sp_says 24 K):=fun base=>j181 base 24
 obtain⟨j199,j146⟩:=c.d.def_ 38 (d:=dD "_law_bad" 52) rfl
 have j147:∀base,Cal P w K mg base "_law_bad" 70 ["_law_tracks","_law_words"] (sp_bad K):=fun base=>cal_of j146 (g0 "_law_bad" (by decide)) (ok_bad B (j16 base) GC j146) (fun _ _ _ _ _ _ us hl=>match us,hl with|[_,_],_=>rfl)
 obtain⟨j161,j57⟩:=c.d.def_ 39 (d:=dD "_law_ranks_right" 55) rfl
 have j94:∀base,Cal P w K mg base "_law_ranks_right" 70 ["_law_tracks","_law_made","_law_place","_law_is_filled"] (sp_ranks_right K):=fun base=>cal_of j57 (g0 "_law_ranks_right" (by decide)) (ok_ranks_right B (j16 base) (j26 base) j57) (fun _ _ _ _ _ _ us hl=>match us,hl with|[_,_,_,_],_=>rfl)
 obtain⟨j192,j131⟩:=c.d.def_ 40 (d:=dD "_law_refused" 53) rfl
 obtain⟨j148,j45⟩:=c.d.def_ 41 (d:=dD "_law_places_right" 56) rfl
 have j87:∀base,LamX.TabB base mg (He.cT K ("_law_places_right",none)).1 (He.cT K ("_law_places_right",none)).2→Cal P w K mg base "_law_places_right" 90 ["_law_tracks","_law_told","_law_made"] (sp_places_right K):=fun base j22=>cal_of j45 (g0 "_law_places_right" (by decide)) (ok_places_right B (j62 base) (j26 base) (j16 base) GC j131 (g0 "_law_refused" (by decide)) j22 j76 j77 j45) (fun _ _ _ _ _ _ us hl=>match us,hl with|[_,_,_],_=>rfl)
 obtain⟨j195,j105⟩:=c.d.def_ 42 (d:=dD "_law_barred" 40) rfl
 have j142:∀base,Cal P w K mg base "_law_barred" 1 [] (sp_barred K):=fun base=>cal_of j105 (g0 "_law_barred" (by decide)) (ok_barred B j105) (fun _ _ _ _ _ _ us hl=>match us,hl with|[],_=>rfl)
 obtain⟨j169,j66⟩:=c.d.def_ 43 (d:=dD "_law_hand_right" 54) rfl
 have j106:∀base,Cal P w K mg base "_law_hand_right" 71 ["_law_tracks"] (sp_hand_right K):=fun base=>cal_of j66 (g0 "_law_hand_right" (by decide)) (ok_hand_right B (j142 base) (j147 base) j66) (fun _ _ _ _ _ _ us hl=>match us,hl with|[_],_=>rfl)
 obtain⟨j183,j149⟩:=c.d.def_ 44 (d:=dD "law" 57) rfl
 have tup:∀(n:Nat) (x:Str) (ws:List Str),He.tupB K x (ws.map He.Dv.str)=true→∀H,SqT K H (He.ga K x) (ws.map V.str):=fun n x ws hb H=>by
  have z:=He.tupB_ok hb H
  rw[List.map_map] at z
  exact z
 have S:FS K:=⟨⟨tup 0 _ _ (exL_ok ex 0)⟩,of_decide_eq_true (exL_ok ex 1)⟩
 have XF:XFs K ERR:=xfsB_ok (exL_ok ex 2) (fun p hp=>by
        simp only[ERR,List.mem_cons,z13,or_false] at hp
        rcases hp with rfl|rfl|rfl|rfl|rfl
        ·exact⟨j32.xf,j32.ec⟩
        ·exact⟨j65.xf,j65.ec⟩
        ·exact⟨j50.xf,j50.ec⟩
        ·exact⟨j36.xf,j36.ec⟩
        ·exact⟨j37.xf,j37.ec⟩)
 have e:=hfa.symm.trans (g0 "law" (by decide))
 cases e
 have b:=FunD.bindsA (ps:= ["_law_script"]) j149 fun _ _ _ _ _ _ us hl=>match us,hl with|[_],_=>rfl
 exact⟨j183,fun s v=>b s [v] rfl,S,XF,fun base _ _ j22=>by
  exact ok_law B (j109 base) (j21 base) (j98 base) (j100 base) (j90 base) (j16 base) (j113 base) (j91 base) (j62 base) (j103 base) (j26 base) (j182 base) (j147 base) (j94 base) (j87 base j22) (j106 base) CF j149
  ⟩
end Eb
open PySem PySem.W PySem.Calls PyProof.Rows
theorem PySem.Challenge.cw_edgejumps_k40_sayings_read_holds : PySem.Challenge.rw_edgejumps_k40_sayings_read.Holds := by
 w_on;o_law
 refine HandSHeadRun.head_any (r:=OpenLaw.row PySem.Challenge.rw_edgejumps_k40_sayings_read) (q:=view (OpenLaw.row PySem.Challenge.rw_edgejumps_k40_sayings_read).prog [57]) (H:=Eb.hkk) (ob:=Eb.obb) (M:=20000) (loose:=Eb.loose) (d:=HandSHeadRun.topDef (OpenLaw.row PySem.Challenge.rw_edgejumps_k40_sayings_read).prog 57) (kwd:= []) Eb.obb_eq
  (by kernel_rfl) (fun s=>by kernel_rfl) Eb.runH (by kernel_rfl) (by kernel_rfl) (by kernel_rfl) (by rfl) (by first|assumption|decide+kernel) (by decide+kernel) ⟨rfl,rfl,rfl,rfl,rfl,by decide+kernel⟩ ?hw ?hc
 case hw=>w_witness2
 case hc=>
  refine Eb.walk_fits (l:=PySem.Challenge.rw_edgejumps_k40_sayings_read) (n:=63) (x:= "_law_script") rfl (by decide) (by kernel_rfl) ?F
  intro w mg fa h Y G hmg0
  obtain⟨K,KX,c⟩:=Y
  have hmg:mg ("law":PySem.Str)=some (.ref fa):=by
   have e:(HandSHeadRun.topDef (OpenLaw.row PySem.Challenge.rw_edgejumps_k40_sayings_read).prog 57).name=("law":PySem.Str):=by kernel_rfl
   rw[←e]
   exact hmg0
  obtain⟨fd,hb,S,XF,hF⟩:=Eb.theEndsK w (P:=(PySem.Challenge.rw_edgejumps_k40_sayings_read).prog) KX G hmg c
  have hc:=c.x
  have m1:(("_law_places_right":PySem.Str),(none:Option PySem.Str))∈Eb.hD.tf:=by decide
  refine⟨K,KX,fd,[He.cT K ("_law_places_right",none)],_,fun p hp=> ?_,hb,fun H a ns _ _ hT hS=>⟨a,ns,rfl,hS,?_,S,XF,fun _=>rfl⟩,fun base k1 k2 hT=>hF base k1 k2 (hT _ (.head _))⟩
  ·rw[z32.mp hp]
   exact⟨hc.empty _ m1,hc.out _ m1,PySem.W.codeHd_of_K KX (hc.hd _ m1)⟩
  ·intro q hq
   rw[z32.mp hq]
   exact LamX.TabS.nil (hT _ (.head _))
