import PyProof.Rows.All
import Wide.All
import OpenK.AllK
import HandS.Lambda
import HandS.TupAny
import HandS.IsInst
import HandS.Iter
import HandS.Zip
import HandS.Comp
import HandS.More
import HandS.Property
import HandS.ClsMeth
import HandS.SetKeys
import HandS.Small
import HandS.Zip0
import KE.KDictZip
import KE.GoesMore
import PyProof.Draws
import HandS.Deep
import HandS.ExcInit
import HandS.Nested
import KE.KExcSuper
import KE.KSuper
import HandS.ExcField
import HandS.HotCalls
import KE.KTryMore
import HandS.ExcInitHot
import KE.KNestM
import HandS.Head2
import HandS.HeadHook4
import HandS.HeadNt
import HandS.HeadWalk
import HandS.SortInts
import HandS.SetFor
import HandS.OwnEq
import HandS.WordsExc
import KE.KRevSl
import HandS.Conv
import KE.SortKeyHeap
import HandS.GenList
import HandS.GenCall
import HandS.TupSets
import HandS.SortRule
import KE.KExcInit
import HandS.Dict
import HandS.ReplaceLit
import HandS.SetBool
import HandS.Defaults
import HandS.DictSubView
import KE.KDictList
import HandS.Finally
import KE.SortData
import HandS.MakeKwOnly
import HandS.GenYield
import KE.KAsSuite
import KE.GoesComp
import PySem.Challenge.RW_mergesight_k05_sheets_and_walks
set_option Elab.async false
set_option linter.all false
set_option maxRecDepth 100000
namespace DL
open PySem PySem.Spec PyProof.Rows L2
inductive D where
 | non | bl (b:Bool) | int (i:Int) | str (x:Str) | ty (n:String) | ref (a:Addr)
 | tup (xs:List D) | lst (xs:List D)
 | dct (ks:List Key) (xs:List D)
 | dtt (ks:List (List Key)) (xs:List D)
 | ins (C:Addr) (ns:List Str) (xs:List D)
 | scr (ns:List Int)
 | tpn (xs:List D)
 | exc (a dd C:Addr) (ns:List Str) (xs:List D)
inductive MO where
 | lst (xs:List D) | dct (ks:List Key) (xs:List D) | dtt (ks:List (List Key)) (xs:List D) | ins (C:Addr) (ns:List Str) (xs:List D)
 | tab (q:Str)
abbrev Mem:=Addr→Option MO
def mput (M:Mem) (a:Addr) (o:MO):Mem:=fun b=>if b=a then some o else M b
def mdel (M:Mem) (a:Addr):Mem:=fun b=>if b=a then none else M b
theorem mput_same {M:Mem} {a:Addr} {o:MO}:mput M a o a=some o:=by unfold mput;rw [if_pos rfl]
theorem mput_ne {M:Mem} {a b:Addr} {o:MO} (h:b≠a):mput M a o b=M b:=by unfold mput;rw [if_neg h]
theorem mput_mput {M:Mem} {a:Addr} {o u:MO}:mput (mput M a o) a u=mput M a u:=by
 funext b;unfold mput;split <;> rfl
def Scr (K:PySem.W.Frag) (H:Hp) (a:Addr) (ns:List Int):Prop:=(∃o,H a=some (.frz o (.lst (ns.map V.int))))∨
 ∃(o:Obj) (its:Array Value) (n:Nat),K.lookup a=some o∧o.cls= .type "list"∧o.dict=none∧o.data= .seq its n∧its.size≤sizeLine∧Vals (ns.map V.int) its.toList
mutual
def DV (K:PySem.W.Frag) (H:Hp) (M:Mem):D→V→Prop
 | .non,v=>v= .non
 | .bl b,v=>v= .bl b
 | .int i,v=>v= .int i
 | .str x,v=>v= .str x
 | .ty n,v=>v= .ty n
 | .ref a,v=>v= .ref a
 | .tup ds,v=>∃a xs,v= .ref a∧SqT K H a xs∧DVs K H M ds xs
 | .lst ds,v=>∃a xs,v= .ref a∧H a=some (.lst xs)∧M a=none∧DVs K H M ds xs
 | .dct ks ds,v=>∃a kvs,v= .ref a∧Rd H a (.dK kvs)∧M a=none∧kvs.map (·.1)=ks∧DVs K H M ds (kvs.map (·.2))
 | .dtt ks ds,v=>∃a kvs,v= .ref a∧H a=some (.dT kvs)∧M a=none∧kvs.map (·.1)=ks∧DVs K H M ds (kvs.map (·.2))
 | .ins C ns ds,v=>∃a dx fs,v= .ref a∧H a=some (.ins C dx fs)∧M a=none∧fs.map (·.1)=ns∧DVs K H M ds (fs.map (·.2))
 | .scr ns,v=>∃a,v= .ref a∧Scr K H a ns
 | .exc a dd C ns ds,v=>v= .ref a∧∃fs,H dd=some (.xd fs)∧M dd=none∧fs.map (·.1)=ns∧DVs K H M ds (fs.map (·.2))
 | .tpn ds,v=>∃a xs o,v= .ref a∧H a=some (.frz o (.tup xs))∧o.dict=none∧DVs K H M ds xs
def DVs (K:PySem.W.Frag) (H:Hp) (M:Mem):List D→List V→Prop
 | [],xs=>xs= []
 | d :: ds,xs=>∃y ys,xs=y :: ys∧DV K H M d y∧DVs K H M ds ys
end
def TabM (H:Hp) (M:Mem) (a:Addr) (q:Str):Prop:=∃ps:Array Value,H a=some (.tbl ps)∧TriplesOk ps.toList∧∀(pos:Pos) (cv:Value),codeAmong pos ps.toList=some cv→∃c,cv= .ref c∧H c=some (LamX.CodeO c q)∧M c=none
def MOk (K:PySem.W.Frag) (H:Hp) (M:Mem) (a:Addr):MO→Prop
 | .lst ds=>∃xs,H a=some (.lst xs)∧DVs K H M ds xs
 | .dct ks ds=>∃kvs,H a=some (.dK kvs)∧kvs.map (·.1)=ks∧DVs K H M ds (kvs.map (·.2))
 | .dtt ks ds=>∃kvs,H a=some (.dT kvs)∧kvs.map (·.1)=ks∧DVs K H M ds (kvs.map (·.2))
 | .ins C ns ds=>∃dx fs,H a=some (.ins C dx fs)∧fs.map (·.1)=ns∧DVs K H M ds (fs.map (·.2))
 | .tab q=>TabM H M a q
def RelM (K:PySem.W.Frag) (H:Hp) (M:Mem):Prop:=∀a o,M a=some o→MOk K H M a o
inductive Gr:HO→HO→Prop
 | same {o:HO}:Gr o o
 | lock {kvs:List (Key×V)} {ob:Obj}:Gr (.dK kvs) (.frz ob (.dK kvs))
def Ext (H:Hp) (M:Mem) (H':Hp) (M':Mem):Prop:=∀a o,H a=some o→M a=none→(∀ps,o≠ .tbl ps)→(∃o',H' a=some o'∧Gr o o')∧M' a=none
theorem Ext.rfl' {H:Hp} {M:Mem}:Ext H M H M:=fun a o h m _=>⟨⟨o,h, .same⟩,m⟩
theorem Gr.tbl {o o':HO} (h:∀ps,o≠ .tbl ps) (e:Gr o o'):∀ps,o'≠ .tbl ps:=fun ps z=>by
 cases e with
 | same=>exact h ps z
 | lock=>cases z
theorem Gr.trans {a b c:HO} (h:Gr a b) (k:Gr b c):Gr a c:=by
 cases h with
 | same=>exact k
 | lock=>
  cases k
  exact .lock
theorem Ext.trans {H H1 H2:Hp} {M M1 M2:Mem} (a:Ext H M H1 M1) (b:Ext H1 M1 H2 M2):Ext H M H2 M2:=fun c o h m n=>by
 obtain ⟨⟨o1,h1,e1⟩,m1⟩:=a c o h m n
 obtain ⟨⟨o2,h2,e2⟩,m2⟩:=b c o1 h1 m1 (e1.tbl n)
 exact ⟨⟨o2,h2,e1.trans e2⟩,m2⟩
def Plain (o:HO):Prop:=(∀ps,o≠ .tbl ps)∧∀o',Gr o o'→o'=o
theorem plain_lst {xs:List V}:Plain (.lst xs):=⟨(fun ps z=>by cases z),(fun o' e=>by cases e;rfl)⟩
theorem plain_tup {xs:List V}:Plain (.tup xs):=⟨(fun ps z=>by cases z),(fun o' e=>by cases e;rfl)⟩
theorem plain_dT {kvs:List (List Key×V)}:Plain (.dT kvs):=⟨(fun ps z=>by cases z),(fun o' e=>by cases e;rfl)⟩
theorem plain_ins {C dx:Addr} {fs:List (Str×V)}:Plain (.ins C dx fs):=⟨(fun ps z=>by cases z),(fun o' e=>by cases e;rfl)⟩
theorem plain_xd {fs:List (Str×V)}:Plain (.xd fs):=⟨(fun ps z=>by cases z),(fun o' e=>by cases e;rfl)⟩
theorem plain_ftup {o:Obj} {xs:List V}:Plain (.frz o (.tup xs)):=⟨(fun ps z=>by cases z),(fun o' e=>by cases e;rfl)⟩
theorem plain_flst {o:Obj} {xs:List V}:Plain (.frz o (.lst xs)):=⟨(fun ps z=>by cases z),(fun o' e=>by cases e;rfl)⟩
theorem plain_fdK {o:Obj} {kvs:List (Key×V)}:Plain (.frz o (.dK kvs)):=⟨(fun ps z=>by cases z),(fun o' e=>by cases e;rfl)⟩
theorem Ext.at {H H':Hp} {M M':Mem} {a:Addr} {o:HO} (e:Ext H M H' M') (h:H a=some o) (m:M a=none) (p:Plain o):H' a=some o∧M' a=none:=by
 obtain ⟨⟨o',h',c⟩,m'⟩:=e a o h m p.1
 rw [p.2 o' c] at h'
 exact ⟨h',m'⟩
theorem Ext.dict {H H':Hp} {M M':Mem} {a:Addr} {kvs:List (Key×V)} (e:Ext H M H' M') (h:Rd H a (.dK kvs)) (m:M a=none):Rd H' a (.dK kvs)∧M' a=none:=by
 rcases h with h | ⟨o,h⟩
 ·obtain ⟨⟨o',h',c⟩,m'⟩:=e a _ h m fun ps z=>by cases z
  cases c with
  | same=>exact ⟨.inl h',m'⟩
  | lock=>exact ⟨.inr ⟨_,h'⟩,m'⟩
 ·obtain ⟨h',m'⟩:=e.at h m plain_fdK
  exact ⟨.inr ⟨o,h'⟩,m'⟩
section
variable {K : PySem.W.Frag} {H H' : Hp} {M M' : Mem}
theorem RelM.tup (R:RelM K H M) {a:Addr} {xs:List V} (h:H a=some (.tup xs)):M a=none:=by
 cases e:M a with
 | none=>rfl
 | some o=>
  have q:=R a o e
  cases o with
  | lst ds=>obtain ⟨_,q,_⟩:=q;rw [h] at q;cases q
  | dct ks ds=>obtain ⟨_,q,_⟩:=q;rw [h] at q;cases q
  | dtt ks ds=>obtain ⟨_,q,_⟩:=q;rw [h] at q;cases q
  | ins C ns ds=>obtain ⟨_,_,q,_⟩:=q;rw [h] at q;cases q
  | tab q'=>obtain ⟨_,q,_⟩:=q;rw [h] at q;cases q
theorem RelM.ftup (R:RelM K H M) {a:Addr} {o:Obj} {xs:List V} (h:H a=some (.frz o (.tup xs))):M a=none:=by
 cases e:M a with
 | none=>rfl
 | some o=>
  have q:=R a o e
  cases o with
  | lst ds=>obtain ⟨_,q,_⟩:=q;rw [h] at q;cases q
  | dct ks ds=>obtain ⟨_,q,_⟩:=q;rw [h] at q;cases q
  | dtt ks ds=>obtain ⟨_,q,_⟩:=q;rw [h] at q;cases q
  | ins C ns ds=>obtain ⟨_,_,q,_⟩:=q;rw [h] at q;cases q
  | tab q'=>obtain ⟨_,q,_⟩:=q;rw [h] at q;cases q
theorem RelM.flst (R:RelM K H M) {a:Addr} {o:Obj} {xs:List V} (h:H a=some (.frz o (.lst xs))):M a=none:=by
 cases e:M a with
 | none=>rfl
 | some o=>
  have q:=R a o e
  cases o with
  | lst ds=>obtain ⟨_,q,_⟩:=q;rw [h] at q;cases q
  | dct ks ds=>obtain ⟨_,q,_⟩:=q;rw [h] at q;cases q
  | dtt ks ds=>obtain ⟨_,q,_⟩:=q;rw [h] at q;cases q
  | ins C ns ds=>obtain ⟨_,_,q,_⟩:=q;rw [h] at q;cases q
  | tab q'=>obtain ⟨_,q,_⟩:=q;rw [h] at q;cases q
theorem Scr.ext (R:RelM K H M) (e:Ext H M H' M') {a:Addr} {ns:List Int} (h:Scr K H a ns):Scr K H' a ns:=by
 rcases h with ⟨o,h⟩ | h
 ·exact .inl ⟨o,(e.at h (R.flst h) plain_flst).1⟩
 ·exact .inr h
theorem SqT.ext (R:RelM K H M) (e:Ext H M H' M') {a:Addr} {xs:List V} (h:SqT K H a xs):SqT K H' a xs:=by
 rcases h with (h | ⟨o,h⟩) | h
 ·exact .inl (.inl (e.at h (R.tup h) plain_tup).1)
 ·exact .inl (.inr ⟨o,(e.at h (R.ftup h) plain_ftup).1⟩)
 ·exact .inr h
mutual
theorem DV.ext (R:RelM K H M) (e:Ext H M H' M'):∀(d:D) (v:V),DV K H M d v→DV K H' M' d v
 | .non,v,h=>h
 | .bl b,v,h=>h
 | .int i,v,h=>h
 | .str x,v,h=>h
 | .ty n,v,h=>h
 | .ref a,v,h=>h
 | .tup ds,v,h=>by
  obtain ⟨a,xs,h1,h2,h3⟩:=h
  exact ⟨a,xs,h1,SqT.ext R e h2,DVs.ext R e ds xs h3⟩
 | .lst ds,v,h=>by
  obtain ⟨a,xs,h1,h2,h3,h4⟩:=h
  obtain ⟨q1,q2⟩:=e.at h2 h3 plain_lst
  exact ⟨a,xs,h1,q1,q2,DVs.ext R e ds xs h4⟩
 | .dct ks ds,v,h=>by
  obtain ⟨a,kvs,h1,h2,h3,h4,h5⟩:=h
  obtain ⟨q1,q2⟩:=e.dict h2 h3
  exact ⟨a,kvs,h1,q1,q2,h4,DVs.ext R e ds _ h5⟩
 | .dtt ks ds,v,h=>by
  obtain ⟨a,kvs,h1,h2,h3,h4,h5⟩:=h
  obtain ⟨q1,q2⟩:=e.at h2 h3 plain_dT
  exact ⟨a,kvs,h1,q1,q2,h4,DVs.ext R e ds _ h5⟩
 | .ins C ns ds,v,h=>by
  obtain ⟨a,dx,fs,h1,h2,h3,h4,h5⟩:=h
  obtain ⟨q1,q2⟩:=e.at h2 h3 plain_ins
  exact ⟨a,dx,fs,h1,q1,q2,h4,DVs.ext R e ds _ h5⟩
 | .scr ns,v,h=>by
  obtain ⟨a,h1,h2⟩:=h
  exact ⟨a,h1,Scr.ext R e h2⟩
 | .exc a dd C ns ds,v,h=>by
  obtain ⟨h1,fs,h2,h3,h4,h5⟩:=h
  obtain ⟨q1,q2⟩:=e.at h2 h3 plain_xd
  exact ⟨h1,fs,q1,q2,h4,DVs.ext R e ds _ h5⟩
 | .tpn ds,v,h=>by
  obtain ⟨a,xs,o,h1,h2,h3,h4⟩:=h
  exact ⟨a,xs,o,h1,(e.at h2 (R.ftup h2) plain_ftup).1,h3,DVs.ext R e ds xs h4⟩
theorem DVs.ext (R:RelM K H M) (e:Ext H M H' M'):∀(ds:List D) (xs:List V),DVs K H M ds xs→DVs K H' M' ds xs
 | [],xs,h=>h
 | d :: ds,xs,h=>by
  obtain ⟨y,ys,h1,h2,h3⟩:=h
  exact ⟨y,ys,h1,DV.ext R e d y h2,DVs.ext R e ds ys h3⟩
end
end
end DL
namespace DL
open PySem PySem.Spec PyProof.Rows L2
abbrev SD:=List (Option D)
inductive Exn where
 | own (C:Addr) (ns:List Str) (ds:List D) | bi (n:String)
abbrev KN:=D→Mem→Prop
abbrev KX:=Exn→Mem→Prop
abbrev WG (α:Type):=SD→Mem→(α→Mem→Prop)→KX→Prop
abbrev WE:=WG D
abbrev WT:=WG Bool
abbrev WA:=WG (List D)
def uni (M F:Mem):Mem:=fun a=>match F a with
 | some o=>some o
 | none=>M a
structure Rm (K:PySem.W.Frag) (H:Hp) (M F:Mem):Prop where
 rel:RelM K H (uni M F)
 dj:∀a o,F a=some o→M a=none
theorem uni_get {M F:Mem} {a:Addr} (h:F a=none):uni M F a=M a:=by unfold uni;rw [h]
theorem uni_none {M F:Mem} {a:Addr} (h:uni M F a=none):F a=none∧M a=none:=by
 unfold uni at h
 split at h
 ·cases h
 ·rename_i e
  exact ⟨e,h⟩
theorem uni_put {M F:Mem} {a:Addr} {o:MO} (h:F a=none):uni (mput M a o) F=mput (uni M F) a o:=by
 funext b
 unfold uni mput
 by_cases e:b=a
 ·subst e
  simp [h]
 ·simp [e]
theorem Rm.fr {K:PySem.W.Frag} {H:Hp} {M F:Mem} (R:Rm K H M F) {a:Addr} {o:MO} (h:M a=some o):F a=none:=by
 cases e:F a with
 | none=>rfl
 | some u=>have q:=R.dj a u e;rw [h] at q;cases q
theorem Rm.at {K:PySem.W.Frag} {H:Hp} {M F:Mem} (R:Rm K H M F) {a:Addr} {o:MO} (h:M a=some o):uni M F a=some o:=by rw [uni_get (R.fr h)];exact h
theorem Rm.get {K:PySem.W.Frag} {H:Hp} {M F:Mem} (R:Rm K H M F) {a:Addr} {o:MO} (h:M a=some o):MOk K H (uni M F) a o:=R.rel a o (R.at h)
def RelS (K:PySem.W.Frag) (F:Mem) (σ:L2.St) (H:Hp) (ds:SD) (M:Mem):Prop:=
 Rm K H M F∧ds.length=σ.length∧∀(i:Nat) (d:D),ds[i]?=some (some d)→∃v,σ[i]?=some (some v)∧DV K H (uni M F) d v
def ExV (K:PySem.W.Frag) (H:Hp) (M:Mem) (cls:Value) (dc:Option Addr):Exn→Prop
 | .own C ns ds=>cls= .ref C∧∃dd fs,dc=some dd∧H dd=some (.xd fs)∧M dd=none∧fs.map (·.1)=ns∧DVs K H M ds (fs.map (·.2))
 | .bi n=>cls= .type n
def LkG (K:PySem.W.Frag) (F:Mem) {α β:Type} (Rr:Hp→Mem→α→β→Prop) (H:Hp) (M:Mem) (Qd:α→Mem→Prop) (Q:β→Hp→Prop):Prop:=
 ∀(v:β) (H':Hp) (d:α) (M':Mem),Ext H (uni M F) H' (uni M' F)→Rm K H' M' F→Rr H' (uni M' F) d v→Qd d M'→Q v H'
def LkX (K:PySem.W.Frag) (F:Mem) (H:Hp) (M:Mem) (σ:L2.St) (Xd:KX) (W:WX):Prop:=
 ∀(cls:Value) (dc:Option Addr) (H':Hp) (x:Exn) (M':Mem),Ext H (uni M F) H' (uni M' F)→Rm K H' M' F→ExV K H' (uni M' F) cls dc x→Xd x M'→W cls dc σ H'
abbrev rE (K:PySem.W.Frag):Hp→Mem→D→V→Prop:=fun H M d v=>DV K H M d v
abbrev rT:Hp→Mem→Bool→Bool→Prop:=fun _ _ b c=>c=b
abbrev rA (K:PySem.W.Frag):Hp→Mem→List D→List V→Prop:=fun H M ds vs=>DVs K H M ds vs
abbrev rO:Hp→Mem→Option Int→Option Int→Prop:=fun _ _ b c=>c=b
def lift (K:PySem.W.Frag) (W:WX) {α β:Type} (Rr:Hp→Mem→α→β→Prop) (es:List D) (vs:List V) (w:WG α):L2.St→Hp→(β→Hp→Prop)→Prop:=fun σ H Q=>
 ∃ds M F Qd Xd,RelS K F σ H ds M∧DVs K H (uni M F) es vs∧w ds M Qd Xd∧LkG K F Rr H M Qd Q∧LkX K F H M σ Xd W
abbrev liftE (K:PySem.W.Frag) (W:WX) (w:WE):TE:=lift K W (rE K) [] [] w
abbrev liftT (K:PySem.W.Frag) (W:WX) (w:WT):TT:=lift K W rT [] [] w
abbrev liftA (K:PySem.W.Frag) (W:WX) (w:WA):TA:=lift K W (rA K) [] [] w
abbrev liftO (K:PySem.W.Frag) (W:WX) (w:WG (Option Int)):TO:=lift K W rO [] [] w
abbrev JE (X:Cx) (W:WX) (e:Expr) (w:WE):Prop:=PE X e (liftE X.K W w)
abbrev JT (X:Cx) (W:WX) (e:Expr) (w:WT):Prop:=PT X e (liftT X.K W w)
abbrev JW (X:Cx) (W:WX) (e:Expr) (w:WT):Prop:=PW X e (liftT X.K W w)
abbrev JA (X:Cx) (W:WX) (es:List Expr) (w:WA):Prop:=PA X es (liftA X.K W w)
abbrev JK (X:Cx) (W:WX) (es:List Keyword) (w:WA):Prop:=PK X es (liftA X.K W w)
abbrev JO (X:Cx) (W:WX) (e:Option Expr) (w:WG (Option Int)):Prop:=PO X e (liftO X.K W w)
section
variable {K : PySem.W.Frag} {W : WX} {H H' : Hp} {M M' : Mem} {σ : L2.St} {ds : SD} {α β : Type} {Rr : Hp → Mem → α → β → Prop} {es : List D} {vs : List V} {Q : β → Hp → Prop}
theorem RelS.ext {F:Mem} (R:RelS K F σ H ds M) (e:Ext H (uni M F) H' (uni M' F)) (r:Rm K H' M' F):RelS K F σ H' ds M':=
 ⟨r,R.2.1,fun i d h=>by
  obtain ⟨v,h1,h2⟩:=R.2.2 i d h
  exact ⟨v,h1,DV.ext R.1.rel e d v h2⟩⟩
theorem LkG.ext {F:Mem} {Qd:α→Mem→Prop} (l:LkG K F Rr H M Qd Q) (e:Ext H (uni M F) H' (uni M' F)):LkG K F Rr H' M' Qd Q:=fun v H2 d M2 e2 r q w=>l v H2 d M2 (e.trans e2) r q w
theorem LkX.ext {F:Mem} {Xd:KX} (l:LkX K F H M σ Xd W) (e:Ext H (uni M F) H' (uni M' F)):LkX K F H' M' σ Xd W:=fun c dc H2 x M2 e2 r q w=>l c dc H2 x M2 (e.trans e2) r q w
theorem bindE {wa:WE} {f:D→WG α} {R:V→Hp→Prop} (h:lift K W Rr es vs (fun ds M Q Xc=>wa ds M (fun d M1=>f d ds M1 Q Xc) Xc) σ H Q)
  (k:∀v d H1,lift K W Rr (d :: es) (v :: vs) (f d) σ H1 Q→R v H1):liftE K W wa σ H R:=by
 obtain ⟨ds,M,F,Qd,Xd,hs,hv,hw,l1,l2⟩:=h
 exact ⟨ds,M,F,fun d M1=>f d ds M1 Qd Xd,Xd,hs,rfl,hw,fun v H' d M' e r dv q=>k v d H' ⟨ds,M',F,Qd,Xd,hs.ext e r,⟨v,vs,rfl,dv,DVs.ext hs.1.rel e es vs hv⟩,q,l1.ext e,l2.ext e⟩,l2⟩
theorem bindT {wa:WT} {f:Bool→WG α} {R:Bool→Hp→Prop} (h:lift K W Rr es vs (fun ds M Q Xc=>wa ds M (fun d M1=>f d ds M1 Q Xc) Xc) σ H Q)
  (k:∀b H1,lift K W Rr es vs (f b) σ H1 Q→R b H1):liftT K W wa σ H R:=by
 obtain ⟨ds,M,F,Qd,Xd,hs,hv,hw,l1,l2⟩:=h
 exact ⟨ds,M,F,fun d M1=>f d ds M1 Qd Xd,Xd,hs,rfl,hw,fun v H' d M' e r dv q=>k v H' ⟨ds,M',F,Qd,Xd,hs.ext e r,DVs.ext hs.1.rel e es vs hv,by rw [show v=d from dv];exact q,l1.ext e,l2.ext e⟩,l2⟩
theorem bindO {wa:WG (Option Int)} {f:Option Int→WG α} {R:Option Int→Hp→Prop} (h:lift K W Rr es vs (fun ds M Q Xc=>wa ds M (fun d M1=>f d ds M1 Q Xc) Xc) σ H Q)
  (k:∀b H1,lift K W Rr es vs (f b) σ H1 Q→R b H1):liftO K W wa σ H R:=by
 obtain ⟨ds,M,F,Qd,Xd,hs,hv,hw,l1,l2⟩:=h
 exact ⟨ds,M,F,fun d M1=>f d ds M1 Qd Xd,Xd,hs,rfl,hw,fun v H' d M' e r dv q=>k v H' ⟨ds,M',F,Qd,Xd,hs.ext e r,DVs.ext hs.1.rel e es vs hv,by rw [show v=d from dv];exact q,l1.ext e,l2.ext e⟩,l2⟩
theorem DVs.app:∀{ds es:List D} {xs ys:List V},DVs K H M ds xs→DVs K H M es ys→DVs K H M (ds ++ es) (xs ++ ys)
 | [],es,xs,ys,h,g=>by
  have e:xs= []:=h
  subst e
  exact g
 | d :: ds,es,xs,ys,h,g=>by
  obtain ⟨y,zs,e,h1,h2⟩:=h
  subst e
  exact ⟨y,zs ++ ys,rfl,h1,DVs.app h2 g⟩
theorem bindA {wa:WA} {f:List D→WG α} {R:List V→Hp→Prop} (h:lift K W Rr es vs (fun ds M Q Xc=>wa ds M (fun d M1=>f d ds M1 Q Xc) Xc) σ H Q)
  (k:∀v d H1,lift K W Rr (d ++ es) (v ++ vs) (f d) σ H1 Q→R v H1):liftA K W wa σ H R:=by
 obtain ⟨ds,M,F,Qd,Xd,hs,hv,hw,l1,l2⟩:=h
 exact ⟨ds,M,F,fun d M1=>f d ds M1 Qd Xd,Xd,hs,rfl,hw,fun v H' d M' e r dv q=>k v d H' ⟨ds,M',F,Qd,Xd,hs.ext e r,DVs.app dv (DVs.ext hs.1.rel e es vs hv),q,l1.ext e,l2.ext e⟩,l2⟩
end
section
variable {X : Cx} {W : WX} {e : Expr} {t t' : TE}
theorem pe_mono (h:PE X e t) (i:∀σ H Q,t' σ H Q→t σ H Q):PE X e t':=⟨fun pins s σ H Q I hw=>h.run pins s σ H Q I (i σ H Q hw)⟩
theorem pt_mono {t t':TT} (h:PT X e t) (i:∀σ H Q,t' σ H Q→t σ H Q):PT X e t':=⟨fun pins s σ H Q I hw=>h.run pins s σ H Q I (i σ H Q hw)⟩
theorem pw_mono {t t':TT} (h:PW X e t) (i:∀σ H Q,t' σ H Q→t σ H Q):PW X e t':=⟨fun wh pins s σ H Q I hw=>h.run wh pins s σ H Q I (i σ H Q hw)⟩
theorem pa_mono {es:List Expr} {t t':TA} (h:PA X es t) (i:∀σ H Q,t' σ H Q→t σ H Q):PA X es t':=⟨fun pos pins s σ H Q I hw=>h.run pos pins s σ H Q I (i σ H Q hw)⟩
theorem po_mono {o:Option Expr} {t t':TO} (h:PO X o t) (i:∀σ H Q,t' σ H Q→t σ H Q):PO X o t':=⟨fun pins s σ H Q I hw=>h.run pins s σ H Q I (i σ H Q hw)⟩
theorem ps_mono {st:Stmt} {t t':TS} (h:PS X st t) (i:∀D σ H,t' D σ H→t D σ H):PS X st t':=⟨fun pins s σ H D I hw=>h.run pins s σ H D I (i D σ H hw)⟩
theorem pss_mono {st:List Stmt} {t t':TS} (h:PSs X st t) (i:∀D σ H,t' D σ H→t D σ H):PSs X st t':=⟨fun pins s σ H D I hw=>h.run pins s σ H D I (i D σ H hw)⟩
end
def wGet:Option (Option D)→(D→Prop)→Prop
 | some (some d),k=>k d
 | _,_=>False
def wVar (i:Nat):WE:=fun ds M Q _=>wGet ds[i]? fun d=>Q d M
def wC (d:D):WE:=fun _ M Q _=>Q d M
section
variable {X : Cx} {W : WX}
theorem jv (i:Nat) {x:Str} {pos:Pos} (hN:X.N[i]?=some x:=by rfl) (hv:Vis X.env.scope x:=by first | exact Or.inl rfl | exact Or.inr (Or.inl rfl) | exact Or.inr (Or.inr rfl)) (hd:(x == ("__debug__":Str))=false:=by decide)
  (hcd:(x == ("__classdict__":Str))=false:=by decide):JE X W (.Name x pos) (wVar i):=pe_mono (pe_var hN hv hd hcd) fun σ H Q h=>by
 obtain ⟨ds,M,F,Qd,Xd,hs,_,hw,l1,_⟩:=h
 unfold wVar at hw
 cases e:ds[i]? with
 | none=>rw [e] at hw;exact hw.elim
 | some o=>
  cases o with
  | none=>rw [e] at hw;exact hw.elim
  | some d=>
   rw [e] at hw
   obtain ⟨v,h1,h2⟩:=hs.2.2 i d e
   exact ⟨v,h1,l1 v H d M Ext.rfl' hs.1 h2 hw⟩
theorem je_c {e:Expr} {v:V} {d:D} (h:PE X e (tC v)) (r:∀H M,DV X.K H M d v):JE X W e (wC d):=pe_mono h fun σ H Q h=>by
 obtain ⟨ds,M,F,Qd,Xd,hs,_,hw,l1,_⟩:=h
 exact l1 v H d M Ext.rfl' hs.1 (r H _) hw
theorem j_int {i:Int} {j pos}:JE X W (.Constant (.int i) j pos) (wC (.int i)):=je_c pe_int fun _ _=>rfl
theorem j_bl {b:Bool} {j pos}:JE X W (.Constant (.bool b) j pos) (wC (.bl b)):=je_c pe_bl fun _ _=>rfl
theorem j_non {j pos}:JE X W (.Constant .none j pos) (wC .non):=je_c pe_non fun _ _=>rfl
theorem j_str {x:Str} {j pos}:JE X W (.Constant (.str x) j pos) (wC (.str x)):=je_c pe_str fun _ _=>rfl
theorem j_glob {x:Str} {v:V} {d:D} {u:Value} {pos:Pos} (hm:X.mg x=some u) (r:RelV v u) (rd:∀H M,DV X.K H M d v) (hg:Gl X x:=by rfl) (hd:(x == ("__debug__":Str))=false:=by decide):JE X W (.Name x pos) (wC d):=je_c (pe_glob hg hm r hd) rd
theorem j_bltn {x:Str} {n:String} {pos:Pos} (hm:X.mg x=none) (hv:bootBuiltins x=some (.type n)) (hg:Gl X x:=by rfl) (hn:x≠"__name__":=by decide) (hd:(x == ("__debug__":Str))=false:=by decide):JE X W (.Name x pos) (wC (.ty n)):=
 je_c (pe_bltn (v:= .ty n) hg hm hv rfl hn hd) fun _ _=>rfl
end
abbrev RD1:=D→Mem→KN→Prop
abbrev RD2:=D→D→Mem→KN→Prop
abbrev RDs:=List D→Mem→KN→Prop
def liftV1 (K:PySem.W.Frag) (r:RD1):V→Hp→VK→Prop:=fun x H Q=>∃d M F Qd,Rm K H M F∧DV K H (uni M F) d x∧r d M Qd∧LkG K F (rE K) H M Qd Q
def liftV2 (K:PySem.W.Frag) (r:RD2):R2:=fun x y H Q=>∃d e M F Qd,Rm K H M F∧DV K H (uni M F) d x∧DV K H (uni M F) e y∧r d e M Qd∧LkG K F (rE K) H M Qd Q
def liftVs (K:PySem.W.Frag) (r:RDs):List V→Hp→VK→Prop:=fun xs H Q=>∃ds M F Qd,Rm K H M F∧DVs K H (uni M F) ds xs∧r ds M Qd∧LkG K F (rE K) H M Qd Q
def wOp (r:RD2) (wa wb:WE):WE:=fun ds M Q Xc=>wa ds M (fun x M1=>wb ds M1 (fun y M2=>r x y M2 Q) Xc) Xc
def wUn (r:RD1) (wa:WE):WE:=fun ds M Q Xc=>wa ds M (fun x M1=>r x M1 Q) Xc
def wCB (r:RDs) (wa:WA):WE:=fun ds M Q Xc=>wa ds M (fun xs M1=>r xs M1 Q) Xc
section
variable {X : Cx} {W : WX} {a b : Expr} {wa wb : WE} {pos : Pos} {K : PySem.W.Frag} {σ : L2.St} {H : Hp} {Q : VK}
theorem fin2 {r:RD2} {x y:V} {d e:D} (h:lift K W (rE K) [e,d] [y,x] (fun _ M Q _=>r d e M Q) σ H Q):liftV2 K r x y H Q:=by
 obtain ⟨ds,M,F,Qd,Xd,hs,hv,hw,l1,_⟩:=h
 obtain ⟨_,_,e1,h1,_,_,e2,h2,e3⟩:=hv
 cases e1
 cases e2
 exact ⟨d,e,M,F,Qd,hs.1,h2,h1,hw,l1⟩
theorem fin1 {r:RD1} {x:V} {d:D} (h:lift K W (rE K) [d] [x] (fun _ M Q _=>r d M Q) σ H Q):liftV1 K r x H Q:=by
 obtain ⟨ds,M,F,Qd,Xd,hs,hv,hw,l1,_⟩:=h
 obtain ⟨_,_,e1,h1,_⟩:=hv
 cases e1
 exact ⟨d,M,F,Qd,hs.1,h1,hw,l1⟩
theorem finS {r:RDs} {xs:List V} {ds:List D} (h:lift K W (rE K) ds xs (fun _ M Q _=>r ds M Q) σ H Q):liftVs K r xs H Q:=by
 obtain ⟨_,M,F,Qd,Xd,hs,hv,hw,l1,_⟩:=h
 exact ⟨ds,M,F,Qd,hs.1,hv,hw,l1⟩
theorem j_op {op:Operator} {r:RD2} (ho:OpR X (binaryOp op) (liftV2 X.K r)) (ha:JE X W a wa) (hb:JE X W b wb):JE X W (.BinOp a op b pos) (wOp r wa wb):=
 pe_mono (pe_op ho ha hb) fun σ H Q h=>bindE (wa:=wa) (f:=fun x ds M Q Xc=>wb ds M (fun y M2=>r x y M2 Q) Xc) h fun x d H1 h=>bindE (wa:=wb) (f:=fun y _ M Q _=>r d y M Q) h fun y e H2 h=>fin2 h
theorem j_un {op:UnaryOp} {r:RD1} (ho:UnR X (unaryOp op) (liftV1 X.K r)) (ha:JE X W a wa):JE X W (.UnaryOp op a pos) (wUn r wa):=
 pe_mono (pe_un ho ha) fun σ H Q h=>bindE (wa:=wa) (f:=fun x _ M Q _=>r x M Q) h fun x d H1 h=>fin1 h
theorem j_cmp {op:CmpOp} {r:RD2} (ho:OpR X (compareOp op) (liftV2 X.K r)) (ha:JE X W a wa) (hb:JE X W b wb) (hm:behindInMarks op b=false:=by first | exact nomark _ | rfl):JE X W (.Compare a [op] [b] pos) (wOp r wa wb):=
 pe_mono (pe_cmpR ho ha hb hm) fun σ H Q h=>bindE (wa:=wa) (f:=fun x ds M Q Xc=>wb ds M (fun y M2=>r x y M2 Q) Xc) h fun x d H1 h=>bindE (wa:=wb) (f:=fun y _ M Q _=>r d y M Q) h fun y e H2 h=>fin2 h
theorem j_ix {r:RD2} (hr:IxR X (liftV2 X.K r)) (ha:JE X W a wa) (hb:JE X W b wb) (hs:PlainIx b:=by exact fun _ _=>rfl):JE X W (.Subscript a b pos) (wOp r wa wb):=
 pe_mono (pe_ix hr ha hb hs) fun σ H Q h=>bindE (wa:=wa) (f:=fun x ds M Q Xc=>wb ds M (fun y M2=>r x y M2 Q) Xc) h fun x d H1 h=>bindE (wa:=wb) (f:=fun y _ M Q _=>r d y M Q) h fun y e H2 h=>fin2 h
end
def wNil:WA:=fun _ M Q _=>Q [] M
def wCons (wa:WE) (wr:WA):WA:=fun ds M Q Xc=>wa ds M (fun d M1=>wr ds M1 (fun xs M2=>Q (d :: xs) M2) Xc) Xc
section
variable {X : Cx} {W : WX} {e : Expr} {es : List Expr} {we : WE} {wr : WA} {pos : Pos}
theorem j_nil:JA X W [] wNil:=pa_mono pa_nil fun σ H Q h=>by
 obtain ⟨ds,M,F,Qd,Xd,hs,_,hw,l1,_⟩:=h
 exact l1 [] H [] M Ext.rfl' hs.1 rfl hw
theorem j_cons (ha:JE X W e we) (hr:JA X W es wr) (hs:starEach (e :: es) X.env=(false,eval e X.env) :: starEach es X.env:=by rfl):JA X W (e :: es) (wCons we wr):=
 pa_mono (pa_cons ha hr hs) fun σ H Q h=>bindE (wa:=we) (f:=fun d ds M Q Xc=>wr ds M (fun xs M2=>Q (d :: xs) M2) Xc) h fun v d H1 h=>bindA (wa:=wr) (f:=fun xs _ M Q _=>Q (d :: xs) M) h fun vs ds H2 h=>by
  obtain ⟨_,M,F,Qd,Xd,hs,hv,hw,l1,_⟩:=h
  refine l1 (v :: vs) H2 (d :: ds) M Ext.rfl' hs.1 ?_ hw
  have key:∀(ds:List D) (vs:List V),DVs X.K H2 (uni M F) (ds ++ [d]) (vs ++ [v])→DVs X.K H2 (uni M F) (d :: ds) (v :: vs):=by
   intro ds
   induction ds with
   | nil=>
    intro vs h
    obtain ⟨y,ys,e,h1,h2⟩:=h
    have e2:ys= []:=h2
    subst e2
    cases vs with
    | nil=>cases e;exact ⟨_,_,rfl,h1,rfl⟩
    | cons z zs=>
     exfalso
     have:=congrArg List.length e
     simp at this
   | cons c cs ih=>
    intro vs h
    obtain ⟨y,ys,e,h1,h2⟩:=h
    cases vs with
    | nil=>
     exfalso
     have e3:ys= []:=by
      have:=congrArg List.length e
      simp at this
      exact this
     subst e3
     cases cs with
     | nil=>obtain ⟨_,_,z,_⟩:=h2;cases z
     | cons _ _=>obtain ⟨_,_,z,_⟩:=h2;cases z
    | cons z zs=>
     cases e
     obtain ⟨y2,ys2,e2,g1,g2⟩:=ih zs h2
     cases e2
     exact ⟨_,_,rfl,g1,⟨_,_,rfl,h1,g2⟩⟩
  exact key ds vs hv
end
end DL
namespace DL
open PySem PySem.Spec PyProof.Rows L2
section
variable {K : PySem.W.Frag} {H H' : Hp} {M M' : Mem}
theorem TabM.ext {a:Addr} {q:Str} (e:Ext H M H' M') (h:TabM H M a q) (hs:∀u,H a=some u→H' a=some u):TabM H' M' a q:=by
 obtain ⟨ps,h1,h2,h3⟩:=h
 refine ⟨ps,hs _ h1,h2,fun pos cv hc=>?_⟩
 obtain ⟨c,e1,e2,e3⟩:=h3 pos cv hc
 obtain ⟨g1,g2⟩:=e.at e2 e3 ⟨LamX.codeO_ne,fun o' z=>by
  cases z
  rfl⟩
 exact ⟨c,e1,g1,g2⟩
theorem MOk.ext (R:RelM K H M) (e:Ext H M H' M') {a:Addr} {o:MO} (h:MOk K H M a o)
  (hs:∀u,H a=some u→H' a=some u):MOk K H' M' a o:=by
 cases o with
 | lst ds=>obtain ⟨xs,h1,h2⟩:=h;exact ⟨xs,hs _ h1,DVs.ext R e ds xs h2⟩
 | dct ks ds=>obtain ⟨kvs,h1,h2,h3⟩:=h;exact ⟨kvs,hs _ h1,h2,DVs.ext R e ds _ h3⟩
 | dtt ks ds=>obtain ⟨kvs,h1,h2,h3⟩:=h;exact ⟨kvs,hs _ h1,h2,DVs.ext R e ds _ h3⟩
 | ins C ns ds=>obtain ⟨dx,fs,h1,h2,h3⟩:=h;exact ⟨dx,fs,hs _ h1,h2,DVs.ext R e ds _ h3⟩
 | tab q=>exact TabM.ext e h hs
theorem RelM.free (R:RelM K H M) {p:Addr} (h:H p=none):M p=none:=by
 cases e:M p with
 | none=>rfl
 | some o=>
  have q:=R p o e
  cases o with
  | lst ds=>obtain ⟨_,q,_⟩:=q;rw [h] at q;cases q
  | dct ks ds=>obtain ⟨_,q,_⟩:=q;rw [h] at q;cases q
  | dtt ks ds=>obtain ⟨_,q,_⟩:=q;rw [h] at q;cases q
  | ins C ns ds=>obtain ⟨_,_,q,_⟩:=q;rw [h] at q;cases q
  | tab q'=>obtain ⟨_,q,_⟩:=q;rw [h] at q;cases q
theorem new_ext (R:RelM K H M) {p:Addr} {o:HO} (h:H p=none):Ext H M (upd H p o) M:=fun a u e m _=>⟨⟨u,by rw [upd_ne (ne_of_none e h)];exact e, .same⟩,m⟩
theorem new_rel (R:RelM K H M) {p:Addr} {o:HO} (h:H p=none):RelM K (upd H p o) M:=fun a u e=>
 MOk.ext R (new_ext R h) (R a u e) fun w q=>by rw [upd_ne (ne_of_none q h)];exact q
theorem own_ext (R:RelM K H M) {p:Addr} {o:HO} {u:MO} (h:H p=none):Ext H M (upd H p o) (mput M p u):=fun a w e m _=>
 ⟨⟨w,by rw [upd_ne (ne_of_none e h)];exact e, .same⟩,by rw [mput_ne (ne_of_none e h)];exact m⟩
theorem own_rel (R:RelM K H M) {p:Addr} {o:HO} {u:MO} (h:H p=none) (ok:MOk K (upd H p o) (mput M p u) p u):RelM K (upd H p o) (mput M p u):=fun a w e=>by
 by_cases ha:a=p
 ·subst ha
  rw [mput_same] at e
  cases e
  exact ok
 ·rw [mput_ne ha] at e
  exact MOk.ext R (own_ext R h) (R a w e) fun w q=>by rw [upd_ne ha];exact q
theorem set_ext {p:Addr} {o:HO} {u v:MO} (h:M p=some v):Ext H M (upd H p o) (mput M p u):=fun a w e m _=>by
 have ha:a≠p:=fun z=>by subst z;rw [h] at m;cases m
 exact ⟨⟨w,by rw [upd_ne ha];exact e, .same⟩,by rw [mput_ne ha];exact m⟩
theorem set_rel (R:RelM K H M) {p:Addr} {o:HO} {u v:MO} (h:M p=some v) (ok:MOk K (upd H p o) (mput M p u) p u):RelM K (upd H p o) (mput M p u):=fun a w e=>by
 by_cases ha:a=p
 ·subst ha
  rw [mput_same] at e
  cases e
  exact ok
 ·rw [mput_ne ha] at e
  exact MOk.ext R (set_ext h) (R a w e) fun w q=>by rw [upd_ne ha];exact q
theorem DVs.len:∀{ds:List D} {xs:List V},DVs K H M ds xs→xs.length=ds.length
 | [],xs,h=>by
  have e:xs= []:=h
  subst e
  rfl
 | d :: ds,xs,h=>by
  obtain ⟨y,ys,e,_,h2⟩:=h
  subst e
  show ys.length + 1=ds.length + 1
  rw [DVs.len h2]
theorem DVs.get:∀{ds:List D} {xs:List V} {i:Nat} {d:D},DVs K H M ds xs→ds[i]?=some d→∃x,xs[i]?=some x∧DV K H M d x
 | [],_,_,_,_,h=>by simp at h
 | d :: ds,xs,0,d',h,e=>by
  obtain ⟨y,ys,e1,h1,_⟩:=h
  subst e1
  have e2:d=d':=Option.some.inj e
  subst e2
  exact ⟨y,rfl,h1⟩
 | d :: ds,xs,i + 1,d',h,e=>by
  obtain ⟨y,ys,e1,_,h2⟩:=h
  subst e1
  exact DVs.get (i:=i) h2 e
theorem DVs.of_get:∀{ds:List D} {xs:List V},xs.length=ds.length→(∀(i:Nat) (d:D),ds[i]?=some d→∃x,xs[i]?=some x∧DV K H M d x)→DVs K H M ds xs
 | [],xs,h,_=>List.eq_nil_of_length_eq_zero h
 | d :: ds, [],h,_=>by cases h
 | d :: ds,x :: xs,h,g=>by
  obtain ⟨y,e,q⟩:=g 0 d rfl
  cases e
  exact ⟨x,xs,rfl,q,DVs.of_get (Nat.succ.inj h) fun i d' e=>g (i + 1) d' e⟩
theorem DVs.take {ds:List D} {xs:List V} (h:DVs K H M ds xs) (n:Nat):DVs K H M (ds.take n) (xs.take n):=
 DVs.of_get (by rw [List.length_take,List.length_take,h.len]) fun i d e=>by
  rw [List.getElem?_take] at e ⊢
  split at e
  ·rename_i hi
   rw [if_pos hi]
   exact h.get e
  ·cases e
theorem DVs.drop {ds:List D} {xs:List V} (h:DVs K H M ds xs) (n:Nat):DVs K H M (ds.drop n) (xs.drop n):=
 DVs.of_get (by rw [List.length_drop,List.length_drop,h.len]) fun i d e=>by
  rw [List.getElem?_drop] at e ⊢
  exact h.get e
theorem Rm.mfree {F:Mem} (R:Rm K H M F) {p:Addr} (h:H p=none):M p=none:=(uni_none (R.rel.free h)).2
theorem Rm.new {F:Mem} (R:Rm K H M F) {p:Addr} {o:HO} (h:H p=none):Rm K (upd H p o) M F:=⟨new_rel R.rel h,R.dj⟩
theorem Rm.xown {F:Mem} (R:Rm K H M F) {p:Addr} {o:HO} {u:MO} (h:H p=none):Ext H (uni M F) (upd H p o) (uni (mput M p u) F):=by
 rw [uni_put (uni_none (R.rel.free h)).1]
 exact own_ext R.rel h
theorem Rm.own {F:Mem} (R:Rm K H M F) {p:Addr} {o:HO} {u:MO} (h:H p=none) (ok:MOk K (upd H p o) (uni (mput M p u) F) p u):Rm K (upd H p o) (mput M p u) F:=by
 have hf:=(uni_none (R.rel.free h)).1
 refine ⟨?_,fun a w e=>?_⟩
 ·rw [uni_put hf] at ok ⊢
  exact own_rel R.rel h ok
 ·rw [mput_ne (fun z=>by subst z;rw [hf] at e;cases e)]
  exact R.dj a w e
theorem Rm.xset {F:Mem} (R:Rm K H M F) {p:Addr} {o:HO} {u v:MO} (h:M p=some v):Ext H (uni M F) (upd H p o) (uni (mput M p u) F):=by
 rw [uni_put (R.fr h)]
 exact set_ext (R.at h)
theorem Rm.set {F:Mem} (R:Rm K H M F) {p:Addr} {o:HO} {u v:MO} (h:M p=some v) (ok:MOk K (upd H p o) (uni (mput M p u) F) p u):Rm K (upd H p o) (mput M p u) F:=by
 have hf:=R.fr h
 refine ⟨?_,fun a w e=>?_⟩
 ·rw [uni_put hf] at ok ⊢
  exact set_rel R.rel (R.at h) ok
 ·rw [mput_ne (fun z=>by subst z;rw [hf] at e;cases e)]
  exact R.dj a w e
end
mutual
def toPy:D→PyData
 | .non=> .none
 | .bl b=> .bool b
 | .int i=> .int i
 | .str x=> .str x
 | .tup xs=> .tuple (toPys xs)
 | .lst xs=> .list (toPys xs)
 | _=> .none
def toPys:List D→List PyData
 | []=> []
 | d :: ds=>toPy d :: toPys ds
end
mutual
def Dat:D→Nat→Prop
 | .non,_=>True
 | .bl _,_=>True
 | .int _,_=>True
 | .str x,_=>PyData.strOk x=true
 | .tup xs,n=>0 < n∧Dats xs (n - 1)
 | .lst xs,n=>0 < n∧Dats xs (n - 1)
 | _,_=>False
def Dats:List D→Nat→Prop
 | [],_=>True
 | d :: ds,n=>Dat d n∧Dats ds n
end
mutual
theorem Dat.lay:∀{d:D} {n:Nat},Dat d n→(toPy d).canLay0=true∧(toPy d).depth≤n
 | .non,n,_=>⟨rfl,Nat.zero_le _⟩
 | .bl _,n,_=>⟨rfl,Nat.zero_le _⟩
 | .int _,n,_=>⟨rfl,Nat.zero_le _⟩
 | .str x,n,h=>⟨h,Nat.zero_le _⟩
 | .tup xs,n,h=>by
  obtain ⟨h0,h⟩:=h
  obtain ⟨q1,q2⟩:=Dats.lay h
  exact ⟨q1,by show PyData.depthAll (toPys xs) + 1≤n;omega⟩
 | .lst xs,n,h=>by
  obtain ⟨h0,h⟩:=h
  obtain ⟨q1,q2⟩:=Dats.lay h
  exact ⟨q1,by show PyData.depthAll (toPys xs) + 1≤n;omega⟩
 | .ty _,n,h=>h.elim
 | .ref _,n,h=>h.elim
 | .dct _ _,n,h=>h.elim
 | .dtt _ _,n,h=>h.elim
 | .ins _ _ _,n,h=>h.elim
 | .scr _,n,h=>h.elim
 | .tpn _,n,h=>h.elim
 | .exc _ _ _ _ _,n,h=>h.elim
theorem Dats.lay:∀{ds:List D} {n:Nat},Dats ds n→PyData.canLayAll0 (toPys ds)=true∧PyData.depthAll (toPys ds)≤n
 | [],n,_=>⟨rfl,Nat.zero_le _⟩
 | d :: ds,n,h=>by
  obtain ⟨h1,h2⟩:=h
  obtain ⟨q1,q2⟩:=Dat.lay h1
  obtain ⟨r1,r2⟩:=Dats.lay h2
  refine ⟨?_,?_⟩
  ·show ((toPy d).canLay0 && PyData.canLayAll0 (toPys ds))=true
   rw [q1,r1]
   rfl
  ·show max (toPy d).depth (PyData.depthAll (toPys ds))≤n
   omega
end
theorem Dat.shaped {d:D} {n:Nat} (h:Dat d n) (hn:n≤64):SeqAt.shaped (toPy d)=true:=by
 obtain ⟨q1,q2⟩:=h.lay
 unfold SeqAt.shaped
 rw [q1,decide_eq_true (Nat.le_trans q2 hn)]
 rfl
section
variable {K : PySem.W.Frag} {H : Hp} {M : Mem}
mutual
theorem Dat.dp:∀{d:D} {n:Nat} {v:V},Dat d n→DV K H M d v→Dp K H v (toPy d)
 | .non,n,v,_,h=>by cases (show v= .non from h);exact .non
 | .bl b,n,v,_,h=>by cases (show v= .bl b from h);exact .bl b
 | .int i,n,v,_,h=>by cases (show v= .int i from h);exact .int i
 | .str x,n,v,_,h=>by cases (show v= .str x from h);exact .str x
 | .tup xs,n,v,p,h=>by
  obtain ⟨a,ys,h1,h2,h3⟩:=h
  subst h1
  exact .tup h2 (Dats.dp p.2 h3)
 | .lst xs,n,v,p,h=>by
  obtain ⟨a,ys,h1,h2,_,h3⟩:=h
  subst h1
  exact .lst (SqL.of h2) (Dats.dp p.2 h3)
 | .ty _,n,v,p,_=>p.elim
 | .ref _,n,v,p,_=>p.elim
 | .dct _ _,n,v,p,_=>p.elim
 | .dtt _ _,n,v,p,_=>p.elim
 | .ins _ _ _,n,v,p,_=>p.elim
 | .scr _,n,v,p,_=>p.elim
 | .tpn _,n,v,p,_=>p.elim
 | .exc _ _ _ _ _,n,v,p,_=>p.elim
theorem Dats.dp:∀{ds:List D} {n:Nat} {vs:List V},Dats ds n→DVs K H M ds vs→DpAll K H vs (toPys ds)
 | [],n,vs,_,h=>by
  have e:vs= []:=h
  subst e
  exact .nil
 | d :: ds,n,vs,p,h=>by
  obtain ⟨y,ys,e,h1,h2⟩:=h
  subst e
  exact .cons (Dat.dp p.1 h1) (Dats.dp p.2 h2)
end
end
def deq (d e:D):Bool:=PyData.eqv (toPy d) (toPy e)
def rAddD:RD2:=fun d e M Q=>match d,e with
 | .int i, .int j=>Q (.int (i + j)) M
 | .str x, .str y=>x.length + y.length≤sizeLine∧Q (.str (x ++ y)) M
 | .tup xs, .tup ys=>xs.length + ys.length≤sizeLine∧Q (.tup (xs ++ ys)) M
 | .lst xs, .lst ys=>xs.length + ys.length≤sizeLine∧Q (.lst (xs ++ ys)) M
 | _,_=>False
def rIntD (C:Int→Int→Prop) (g:Int→Int→D):RD2:=fun d e M Q=>match d,e with
 | .int i, .int j=>C i j∧Q (g i j) M
 | _,_=>False
def rInt0D (g:Int→Int→D):RD2:=fun d e M Q=>match d,e with
 | .int i, .int j=>Q (g i j) M
 | _,_=>False
section
variable {X : Cx}
theorem od_int {f:Value→Value→Sem Value} {C:Int→Int→Prop} {gv:Int→Int→V} {g:Int→Int→D} (h:OpR X f (rI C gv)) (r:∀i j H M,DV X.K H M (g i j) (gv i j)):OpR X f (liftV2 X.K (rIntD C g)):=by
 intro pins s σ H x y v u Q I rx ry hh
 obtain ⟨d,e,M,F,Qd,R,h1,h2,h3,l⟩:=hh
 cases d <;> first | exact h3.elim | skip
 cases e <;> first | exact h3.elim | skip
 rename_i i j
 cases (show x= .int i from h1)
 cases (show y= .int j from h2)
 exact h pins s σ H _ _ v u Q I rx ry ⟨i,j,rfl,rfl,h3.1,l _ H _ M Ext.rfl' R (r i j H _) h3.2⟩
theorem od_int0 {f:Value→Value→Sem Value} {gv:Int→Int→V} {g:Int→Int→D} (h:OpR X f (rI0 gv)) (r:∀i j H M,DV X.K H M (g i j) (gv i j)):OpR X f (liftV2 X.K (rInt0D g)):=by
 intro pins s σ H x y v u Q I rx ry hh
 obtain ⟨d,e,M,F,Qd,R,h1,h2,h3,l⟩:=hh
 cases d <;> first | exact h3.elim | skip
 cases e <;> first | exact h3.elim | skip
 rename_i i j
 cases (show x= .int i from h1)
 cases (show y= .int j from h2)
 exact h pins s σ H _ _ v u Q I rx ry ⟨i,j,rfl,rfl,l _ H _ M Ext.rfl' R (r i j H _) h3⟩
theorem od_sub:OpR X (binaryOp .Sub) (liftV2 X.K (rInt0D fun i j=> .int (i - j))):=od_int0 op_sub fun _ _ _ _=>rfl
theorem od_mul:OpR X (binaryOp .Mult) (liftV2 X.K (rIntD CMul fun i j=> .int (i * j))):=od_int op_mul fun _ _ _ _=>rfl
theorem od_fdiv:OpR X (binaryOp .FloorDiv) (liftV2 X.K (rIntD CDiv fun i j=> .int (i / j))):=od_int op_fdiv fun _ _ _ _=>rfl
theorem od_mod:OpR X (binaryOp .Mod) (liftV2 X.K (rIntD (fun _ j=>0 < j) fun i j=> .int (i % j))):=od_int op_mod fun _ _ _ _=>rfl
theorem od_pow:OpR X (binaryOp .Pow) (liftV2 X.K (rIntD CPow fun i j=> .int (i ^ j.toNat))):=od_int op_pow fun _ _ _ _=>rfl
theorem od_lt:OpR X (compareOp .Lt) (liftV2 X.K (rInt0D fun i j=> .bl (decide (i < j)))):=od_int0 op_lt fun _ _ _ _=>rfl
theorem od_le:OpR X (compareOp .LtE) (liftV2 X.K (rInt0D fun i j=> .bl (decide (i≤j)))):=od_int0 op_le fun _ _ _ _=>rfl
theorem od_gt:OpR X (compareOp .Gt) (liftV2 X.K (rInt0D fun i j=> .bl (decide (j < i)))):=od_int0 op_gt fun _ _ _ _=>rfl
theorem od_ge:OpR X (compareOp .GtE) (liftV2 X.K (rInt0D fun i j=> .bl (decide (j≤i)))):=od_int0 op_ge fun _ _ _ _=>rfl
theorem od_add:OpR X (binaryOp .Add) (liftV2 X.K rAddD):=by
 intro pins s σ H x y v u Q I rx ry hh
 obtain ⟨d,e,M,F,Qd,R,h1,h2,h3,l⟩:=hh
 cases d <;> first | exact h3.elim | skip
 ·cases e <;> first | exact h3.elim | skip
  rename_i i j
  cases (show x= .int i from h1)
  cases (show y= .int j from h2)
  exact op_add pins s σ H _ _ v u Q I rx ry ⟨i,j,rfl,rfl,l _ H (.int (i + j)) M Ext.rfl' R rfl h3⟩
 ·cases e <;> first | exact h3.elim | skip
  rename_i i j
  cases (show x= .str i from h1)
  cases (show y= .str j from h2)
  exact op_add_str pins s σ H _ _ v u Q I rx ry ⟨i,j,rfl,rfl,h3.1,l _ H (.str (i ++ j)) M Ext.rfl' R rfl h3.2⟩
 ·cases e <;> first | exact h3.elim | skip
  rename_i ds es
  obtain ⟨a,xs,e1,a2,a3⟩:=h1
  obtain ⟨b,ys,e2,b2,b3⟩:=h2
  subst e1
  subst e2
  have n1:=a3.len
  have n2:=b3.len
  refine op_catA pins s σ H _ _ v u Q I rx ry ⟨a,b,xs,ys,rfl,rfl,a2,b2,by rw [n1,n2];exact h3.1,fun z=>?_,fun _ z=>?_,fun _ _ p hp=>?_⟩
  ·subst z
   have z':ds= []:=List.eq_nil_of_length_eq_zero n1.symm
   subst z'
   exact l _ H (.tup es) M Ext.rfl' R ⟨b,ys,rfl,b2,b3⟩ h3.2
  ·subst z
   have z':es= []:=List.eq_nil_of_length_eq_zero n2.symm
   subst z'
   refine l _ H (.tup ds) M Ext.rfl' R ⟨a,xs,rfl,a2,a3⟩ ?_
   have q:=h3.2
   rw [List.append_nil] at q
   exact q
  ·have e':=new_ext R.rel (o:=HO.tup (xs ++ ys)) hp
   exact l _ _ (.tup (ds ++ es)) M e' (R.new hp) ⟨p,xs ++ ys,rfl,SqT.of upd_same,DVs.app (DVs.ext R.rel e' _ _ a3) (DVs.ext R.rel e' _ _ b3)⟩ h3.2
 ·cases e <;> first | exact h3.elim | skip
  rename_i ds es
  obtain ⟨a,xs,e1,a2,am,a3⟩:=h1
  obtain ⟨b,ys,e2,b2,bm,b3⟩:=h2
  subst e1
  subst e2
  refine op_cat pins s σ H _ _ v u Q I rx ry ⟨a,b,xs,ys,rfl,rfl,a2,b2,by rw [a3.len,b3.len];exact h3.1,fun p hp=>?_⟩
  have e':=new_ext R.rel (o:=HO.lst (xs ++ ys)) hp
  exact l _ _ (.lst (ds ++ es)) M e' (R.new hp) ⟨p,xs ++ ys,rfl,upd_same,R.rel.free hp,DVs.app (DVs.ext R.rel e' _ _ a3) (DVs.ext R.rel e' _ _ b3)⟩ h3.2
end
def rEqD (neg:Bool):RD2:=fun d e M Q=>match d,e with
 | .int i, .int j=>Q (.bl (xor neg (decide (i=j)))) M
 | .str x, .str y=>Q (.bl (xor neg (decide (x=y)))) M
 | .bl x, .bl y=>Q (.bl (xor neg (decide (x=y)))) M
 | d,e=>Dat d 60∧Dat e 60∧Q (.bl (xor neg (deq d e))) M
def rIsND (neg:Bool):RD2:=fun d e M Q=>match e with
 | .non=>match d with
  | .non=>Q (.bl (!neg)) M
  | _=>Q (.bl neg) M
 | _=>False
section
variable {X : Cx}
theorem od_eq (hu:X.A.units + 64 < cLine):OpR X (compareOp .Eq) (liftV2 X.K (rEqD false)):=by
 intro pins s σ H x y v u Q I rx ry hh
 obtain ⟨d,e,M,F,Qd,R,h1,h2,h3,l⟩:=hh
 have deep:Dat d 60∧Dat e 60∧Qd (.bl (xor false (deq d e))) M→wpAny (model X.prog X.w) X.A (compareOp .Eq v u) (EP X pins σ Q) X.xe s:=fun ⟨p1,p2,q⟩=>
  op_eqD hu pins s σ H x y v u Q I rx ry ⟨toPy d,toPy e,p1.dp h1,p2.dp h2,p1.shaped (by decide),p2.shaped (by decide),l _ H (.bl (deq d e)) M Ext.rfl' R rfl (by rw [Bool.false_xor] at q;exact q)⟩
 unfold rEqD at h3
 split at h3
 ·rename_i i j
  cases (show x= .int i from h1)
  cases (show y= .int j from h2)
  refine op_eq pins s σ H _ _ v u Q I rx ry ⟨rfl,l _ H (.bl _) M Ext.rfl' R rfl ?_⟩
  rw [Bool.false_xor] at h3
  have e:decide (V.int i=V.int j)=decide (i=j):=by simp
  rw [e];exact h3
 ·rename_i i j
  cases (show x= .str i from h1)
  cases (show y= .str j from h2)
  refine op_eq pins s σ H _ _ v u Q I rx ry ⟨rfl,l _ H (.bl _) M Ext.rfl' R rfl ?_⟩
  rw [Bool.false_xor] at h3
  have e:decide (V.str i=V.str j)=decide (i=j):=by simp
  rw [e];exact h3
 ·rename_i i j
  cases (show x= .bl i from h1)
  cases (show y= .bl j from h2)
  refine op_eq pins s σ H _ _ v u Q I rx ry ⟨rfl,l _ H (.bl _) M Ext.rfl' R rfl ?_⟩
  rw [Bool.false_xor] at h3
  have e:decide (V.bl i=V.bl j)=decide (i=j):=by simp
  rw [e];exact h3
 ·exact deep h3
theorem od_ne (hu:X.A.units + 64 < cLine):OpR X (compareOp .NotEq) (liftV2 X.K (rEqD true)):=by
 intro pins s σ H x y v u Q I rx ry hh
 obtain ⟨d,e,M,F,Qd,R,h1,h2,h3,l⟩:=hh
 have deep:Dat d 60∧Dat e 60∧Qd (.bl (xor true (deq d e))) M→wpAny (model X.prog X.w) X.A (compareOp .NotEq v u) (EP X pins σ Q) X.xe s:=fun ⟨p1,p2,q⟩=>
  op_neD hu pins s σ H x y v u Q I rx ry ⟨toPy d,toPy e,p1.dp h1,p2.dp h2,p1.shaped (by decide),p2.shaped (by decide),l _ H (.bl (!deq d e)) M Ext.rfl' R rfl (by rw [Bool.true_xor] at q;exact q)⟩
 unfold rEqD at h3
 split at h3
 ·rename_i i j
  cases (show x= .int i from h1)
  cases (show y= .int j from h2)
  refine op_ne pins s σ H _ _ v u Q I rx ry ⟨rfl,l _ H (.bl _) M Ext.rfl' R rfl ?_⟩
  rw [Bool.true_xor] at h3
  have e:decide (V.int i=V.int j)=decide (i=j):=by simp
  rw [e];exact h3
 ·rename_i i j
  cases (show x= .str i from h1)
  cases (show y= .str j from h2)
  refine op_ne pins s σ H _ _ v u Q I rx ry ⟨rfl,l _ H (.bl _) M Ext.rfl' R rfl ?_⟩
  rw [Bool.true_xor] at h3
  have e:decide (V.str i=V.str j)=decide (i=j):=by simp
  rw [e];exact h3
 ·rename_i i j
  cases (show x= .bl i from h1)
  cases (show y= .bl j from h2)
  refine op_ne pins s σ H _ _ v u Q I rx ry ⟨rfl,l _ H (.bl _) M Ext.rfl' R rfl ?_⟩
  rw [Bool.true_xor] at h3
  have e:decide (V.bl i=V.bl j)=decide (i=j):=by simp
  rw [e];exact h3
 ·exact deep h3
theorem isN_of {K:PySem.W.Frag} {H:Hp} {M:Mem} {d:D} {x:V} (h:DV K H M d x):decide (x= .non)=(match d with | .non=>true | _=>false):=by
 cases d with
 | non=>cases (show x= .non from h);rfl
 | bl b=>cases (show x= .bl b from h);rfl
 | int b=>cases (show x= .int b from h);rfl
 | str b=>cases (show x= .str b from h);rfl
 | ty b=>cases (show x= .ty b from h);rfl
 | ref b=>cases (show x= .ref b from h);rfl
 | tup b=>obtain ⟨_,_,e,_⟩:=h;subst e;rfl
 | lst b=>obtain ⟨_,_,e,_⟩:=h;subst e;rfl
 | dct b c=>obtain ⟨_,_,e,_⟩:=h;subst e;rfl
 | dtt b c=>obtain ⟨_,_,e,_⟩:=h;subst e;rfl
 | ins a b c=>obtain ⟨_,_,_,e,_⟩:=h;subst e;rfl
 | scr b=>obtain ⟨_,e,_⟩:=h;subst e;rfl
 | tpn b=>obtain ⟨_,_,_,e,_⟩:=h;subst e;rfl
 | exc _ _ _ _ _=>obtain ⟨e,_⟩:=h;subst e;rfl
theorem od_isN:OpR X (compareOp .Is) (liftV2 X.K (rIsND false)):=by
 intro pins s σ H x y v u Q I rx ry hh
 obtain ⟨d,e,M,F,Qd,R,h1,h2,h3,l⟩:=hh
 cases e <;> first | exact h3.elim | skip
 cases (show y= .non from h2)
 refine op_isN pins s σ H _ _ v u Q I rx ry ⟨rfl,l _ H (.bl _) M Ext.rfl' R rfl ?_⟩
 rw [isN_of h1]
 cases d <;> exact h3
end
end DL
namespace DL
open PySem PySem.Spec PyProof.Rows L2
def optK {α:Type}:Option α→(α→Prop)→Prop
 | some a,k=>k a
 | none,_=>False
theorem optK_of {α:Type} {o:Option α} {k:α→Prop} (h:optK o k):∃a,o=some a∧k a:=by
 cases o with
 | none=>exact h.elim
 | some a=>exact ⟨a,rfl,h⟩
def moSeq:Option MO→Option (List D)
 | some (.lst xs)=>some xs
 | _=>none
def moTy:Option MO→Option String
 | some (.lst _)=>some "list"
 | some (.dct _ _)=>some "dict"
 | _=>none
def seqOf (M:Mem):D→Option (List D)
 | .lst xs=>some xs
 | .tup xs=>some xs
 | .ref a=>moSeq (M a)
 | _=>none
def tyN (M:Mem):D→Option String
 | .non=>some "NoneType"
 | .bl _=>some "bool"
 | .int _=>some "int"
 | .str _=>some "str"
 | .tup _=>some "tuple"
 | .lst _=>some "list"
 | .dct _ _=>some "dict"
 | .ref a=>moTy (M a)
 | _=>none
def isB (a b:String):Bool:=a == b || (a == "bool" && b == "int")
theorem isB_ok:∀a∈ ["NoneType","bool","int","str","tuple","list","dict"],∀b∈ ["bool","int","str","tuple","list","dict"],kitB a b=some (isB a b):=by decide +kernel
section
variable {K : PySem.W.Frag} {H : Hp} {M F : Mem}
theorem seqOf_ok (R:Rm K H M F) {d:D} {xs:List D} {x:V} (h:seqOf M d=some xs) (g:DV K H (uni M F) d x):∃a ys,x= .ref a∧(SqL K H a ys∨SqT K H a ys)∧DVs K H (uni M F) xs ys:=by
 cases d <;> first | cases h | skip
 ·rename_i a
  cases (show x= .ref a from g)
  have h':moSeq (M a)=some xs:=h
  unfold moSeq at h'
  split at h'
  ·rename_i ys e
   cases h'
   obtain ⟨zs,q1,q2⟩:=R.get e
   exact ⟨a,zs,rfl, .inl (SqL.of q1),q2⟩
  ·cases h'
 ·obtain ⟨a,ys,e,q1,q2⟩:=g
  exact ⟨a,ys,e, .inr q1,q2⟩
 ·obtain ⟨a,ys,e,q1,_,q2⟩:=g
  exact ⟨a,ys,e, .inl (SqL.of q1),q2⟩
theorem tyX_tup {a:Addr} {xs:List V} (h:SqT K H a xs):TyX K H (.ref a) (.type "tuple"):=by
 rcases h with (h | ⟨o,h⟩) | ⟨o,its,n,h1,h2,_⟩
 ·exact .base (.tup h)
 ·exact .fTuple h
 ·exact .kTuple h1 h2
theorem tyN_ok (R:Rm K H M F) {d:D} {n:String} {x:V} (h:tyN M d=some n) (g:DV K H (uni M F) d x):TyX K H x (.type n)∧n∈ ["NoneType","bool","int","str","tuple","list","dict"]:=by
 cases d <;> first | cases h | skip
 ·cases (show x= .non from g);exact ⟨.base .non,by decide⟩
 ·rename_i b;cases (show x= .bl b from g);exact ⟨.base (.bl b),by decide⟩
 ·rename_i b;cases (show x= .int b from g);exact ⟨.base (.int b),by decide⟩
 ·rename_i b;cases (show x= .str b from g);exact ⟨.base (.str b),by decide⟩
 ·rename_i a
  cases (show x= .ref a from g)
  have h':moTy (M a)=some n:=h
  unfold moTy at h'
  split at h'
  ·rename_i ys e
   cases h'
   obtain ⟨zs,q1,q2⟩:=R.get e
   exact ⟨.base (.lst q1),by decide⟩
  ·rename_i ks ys e
   cases h'
   obtain ⟨zs,q1,q2⟩:=R.get e
   exact ⟨.base (.dK q1),by decide⟩
  ·cases h'
 ·obtain ⟨a,ys,e,q1,q2⟩:=g
  subst e
  exact ⟨tyX_tup q1,by decide⟩
 ·obtain ⟨a,ys,e,q1,_,q2⟩:=g
  subst e
  exact ⟨.base (.lst q1),by decide⟩
 ·obtain ⟨a,ys,e,q1,_,q2⟩:=g
  subst e
  rcases q1 with q1 | ⟨o,q1⟩
  ·exact ⟨.base (.dK q1),by decide⟩
  ·exact ⟨.fDict q1,by decide⟩
theorem atI_rel {ds:List D} {xs:List V} {i:Int} {d:D} (h:DVs K H M ds xs) (e:atI ds i=some d):∃x,atI xs i=some x∧DV K H M d x:=by
 unfold atI at e ⊢
 rw [h.len]
 cases q:ixN ds.length i with
 | none=>rw [q] at e;cases e
 | some j=>
  rw [q] at e
  exact h.get e
theorem cut_rel {ds:List D} {xs:List V} {lo hi:Option Int} (h:DVs K H M ds xs):
  DVs K H M ((ds.drop (HT.sIx ds.length 0 lo)).take (HT.sIx ds.length ds.length hi - HT.sIx ds.length 0 lo)) (cutV xs lo hi):=by
 unfold cutV
 rw [h.len]
 exact (h.drop _).take _
end
def rIxD:RD2:=fun d e M Q=>match e with
 | .int i=>match d with
  | .str z=>z.length≤sizeLine∧optK (atI z.cps.toList i) fun c=>Q (.str ⟨#[c]⟩) M
  | d=>optK (seqOf M d) fun xs=>optK (atI xs i) fun v=>Q v M
 | _=>False
def cutL {α:Type} (xs:List α) (lo hi:Option Int):List α:=(xs.drop (HT.sIx xs.length 0 lo)).take (HT.sIx xs.length xs.length hi - HT.sIx xs.length 0 lo)
def rSlD (d:D) (lo hi:Option Int) (M:Mem) (Q:KN):Prop:=match d with
 | .str z=>z.length≤sizeLine∧Q (.str (cutS z lo hi)) M
 | .tup xs=>Q (.tup (cutL xs lo hi)) M
 | .lst xs=>Q (.lst (cutL xs lo hi)) M
 | .scr ns=>Q (.lst ((cutL ns lo hi).map D.int)) M
 | .ref a=>optK (moSeq (M a)) fun xs=>Q (.lst (cutL xs lo hi)) M
 | _=>False
def liftSl (K:PySem.W.Frag) (r:D→Option Int→Option Int→Mem→KN→Prop):V→Option Int→Option Int→Hp→VK→Prop:=fun x lo hi H Q=>∃d M F Qd,Rm K H M F∧DV K H (uni M F) d x∧r d lo hi M Qd∧LkG K F (rE K) H M Qd Q
theorem cutV_map {α:Type} (f:α→V) (ns:List α) (lo hi:Option Int):cutV (ns.map f) lo hi=(cutL ns lo hi).map f:=by
 unfold cutV cutL
 rw [List.length_map,List.map_take,List.map_drop]
theorem DVs.ints {K:PySem.W.Frag} {H:Hp} {M:Mem}:∀ns:List Int,DVs K H M (ns.map D.int) (ns.map V.int)
 | []=>rfl
 | n :: ns=>⟨.int n,ns.map V.int,rfl,rfl,DVs.ints ns⟩
section
variable {X : Cx}
theorem id_ix:IxR X (liftV2 X.K rIxD):=by
 intro value slice pins s σ H x y v u Q I rx ry hh hsub
 obtain ⟨d,e,M,F,Qd,R,h1,h2,h3,l⟩:=hh
 cases e <;> first | exact h3.elim | skip
 rename_i i
 cases (show y= .int i from h2)
 have seq:optK (seqOf M d) (fun xs=>optK (atI xs i) fun v=>Qd v M)→wpAny (model X.prog X.w) X.A (subscriptTail value slice v u) (EP X pins σ Q) X.xe s:=fun q=>by
  obtain ⟨xs,q1,q⟩:=optK_of q
  obtain ⟨w,q2,q⟩:=optK_of q
  obtain ⟨a,ys,e,sq,dv⟩:=seqOf_ok R q1 h1
  subst e
  obtain ⟨z,g1,g2⟩:=atI_rel dv q2
  rcases sq with sq | sq
  ·exact ix_list value slice pins s σ H _ _ v u Q I rx ry ⟨a,ys,i,z,rfl,rfl,sq,g1,l z H w M Ext.rfl' R g2 q⟩ hsub
  ·exact ix_tup value slice pins s σ H _ _ v u Q I rx ry ⟨a,ys,i,z,rfl,rfl,sq,g1,l z H w M Ext.rfl' R g2 q⟩ hsub
 cases d <;> first | exact seq h3 | skip
 rename_i z
 cases (show x= .str z from h1)
 obtain ⟨hz,h3⟩:=h3
 obtain ⟨c,q1,q⟩:=optK_of h3
 exact ix_str value slice pins s σ H _ _ v u Q I rx ry ⟨z,i,c,rfl,rfl,hz,q1,l (.str ⟨#[c]⟩) H (.str ⟨#[c]⟩) M Ext.rfl' R rfl q⟩ hsub
theorem sd_sl:SlR X (liftSl X.K rSlD):=by
 intro pins s σ H x v vl vu lo hi sl Q I rx hs pl pu hh
 obtain ⟨d,M,F,Qd,R,h1,h3,l⟩:=hh
 cases d <;> first | exact h3.elim | skip
 ·rename_i z
  cases (show x= .str z from h1)
  exact sl_str pins s σ H _ v vl vu lo hi sl Q I rx hs pl pu ⟨z,rfl,h3.1,l (.str (cutS z lo hi)) H (.str (cutS z lo hi)) M Ext.rfl' R rfl h3.2⟩
 ·rename_i a
  cases (show x= .ref a from h1)
  obtain ⟨xs,e,h3⟩:=optK_of (show optK (moSeq (M a)) (fun xs=>Qd (.lst (cutL xs lo hi)) M) from h3)
  unfold moSeq at e
  split at e
  ·rename_i zs e'
   cases e
   obtain ⟨ys,q1,q2⟩:=R.get e'
   refine sl_list pins s σ H _ v vl vu lo hi sl Q I rx hs pl pu ⟨a,ys,rfl,SqL.of q1,fun p hp=>?_⟩
   have e':=new_ext R.rel (o:=HO.lst (cutV ys lo hi)) hp
   exact l _ _ (.lst (cutL xs lo hi)) M e' (R.new hp) ⟨p,_,rfl,upd_same,R.rel.free hp,DVs.ext R.rel e' _ _ (cut_rel q2)⟩ h3
  ·cases e
 ·rename_i xs
  obtain ⟨a,ys,e,q1,q2⟩:=h1
  subst e
  refine sl_tupA pins s σ H _ v vl vu lo hi sl Q I rx hs pl pu ⟨a,ys,rfl,q1,fun hw=>?_,fun _ p hp=>?_⟩
  ·refine l _ H (.tup (cutL xs lo hi)) M Ext.rfl' R ⟨a,ys,rfl,q1,?_⟩ h3
   have ee:cutL xs lo hi=xs:=by
    rw [q2.len] at hw
    unfold cutL
    rw [hw.1,hw.2,List.drop_zero,Nat.sub_zero,List.take_length]
   rw [ee]
   exact q2
  ·have e':=new_ext R.rel (o:=HO.tup (cutV ys lo hi)) hp
   exact l _ _ (.tup (cutL xs lo hi)) M e' (R.new hp) ⟨p,_,rfl,SqT.of upd_same,DVs.ext R.rel e' _ _ (cut_rel q2)⟩ h3
 ·rename_i xs
  obtain ⟨a,ys,e,q1,qm,q2⟩:=h1
  subst e
  refine sl_list pins s σ H _ v vl vu lo hi sl Q I rx hs pl pu ⟨a,ys,rfl,SqL.of q1,fun p hp=>?_⟩
  have e':=new_ext R.rel (o:=HO.lst (cutV ys lo hi)) hp
  exact l _ _ (.lst (cutL xs lo hi)) M e' (R.new hp) ⟨p,_,rfl,upd_same,R.rel.free hp,DVs.ext R.rel e' _ _ (cut_rel q2)⟩ h3
 ·rename_i ns
  obtain ⟨a,e,q1⟩:=h1
  subst e
  have sq:SqL X.K H a (ns.map V.int):=by
   rcases q1 with ⟨o,q⟩ | q
   ·exact .inl (.inr ⟨o,q⟩)
   ·exact .inr q
  refine sl_list pins s σ H _ v vl vu lo hi sl Q I rx hs pl pu ⟨a,_,rfl,sq,fun p hp=>?_⟩
  have e':=new_ext R.rel (o:=HO.lst (cutV (ns.map V.int) lo hi)) hp
  refine l _ _ (.lst ((cutL ns lo hi).map D.int)) M e' (R.new hp) ⟨p,_,rfl,upd_same,R.rel.free hp,?_⟩ h3
  rw [cutV_map]
  exact DVs.ints _
end
abbrev WO:=WG (Option Int)
def wNo:WO:=fun _ M Q _=>Q none M
def intK:D→(Int→Prop)→Prop
 | .int i,k=>k i
 | _,_=>False
def wSome (w:WE):WO:=fun ds M Q Xc=>w ds M (fun d M1=>intK d fun i=>Q (some i) M1) Xc
def wSl (we:WE) (wl wh:WO):WE:=fun ds M Q Xc=>we ds M (fun d M1=>wl ds M1 (fun l M2=>wh ds M2 (fun h M3=>rSlD d l h M3 Q) Xc) Xc) Xc
section
variable {X : Cx} {W : WX} {e : Expr} {we : WE} {lo hi : Option Expr} {wl wh : WO} {pos p2 : Pos}
theorem jo_none:JO X W none wNo:=po_mono po_none fun σ H Q h=>by
 obtain ⟨ds,M,F,Qd,Xd,hs,_,hw,l1,_⟩:=h
 exact l1 none H none M Ext.rfl' hs.1 rfl hw
theorem jo_some (h:JE X W e we):JO X W (some e) (wSome we):=po_mono (po_some h) fun σ H Q h=>bindE (wa:=we) (f:=fun d _ M Q _=>intK d fun i=>Q (some i) M) h fun v d H1 h=>by
 obtain ⟨ds,M,F,Qd,Xd,hs,hv,hw,l1,_⟩:=h
 obtain ⟨_,_,e1,h1,_⟩:=hv
 cases e1
 cases d <;> first | exact hw.elim | skip
 rename_i i
 cases (show v= .int i from h1)
 exact ⟨i,rfl,l1 (some i) H1 (some i) M Ext.rfl' hs.1 rfl hw⟩
theorem j_sl (he:JE X W e we) (hl:JO X W lo wl) (hh:JO X W hi wh):JE X W (.Subscript e (.Slice lo hi none p2) pos) (wSl we wl wh):=
 pe_mono (pe_slice sd_sl he hl hh) fun σ H Q h=>bindE (wa:=we) (f:=fun d ds M Q Xc=>wl ds M (fun l M2=>wh ds M2 (fun h M3=>rSlD d l h M3 Q) Xc) Xc) h fun v d H1 h=>
  bindO (wa:=wl) (f:=fun l ds M Q Xc=>wh ds M (fun h M3=>rSlD d l h M3 Q) Xc) h fun l H2 h=>bindO (wa:=wh) (f:=fun u _ M Q _=>rSlD d l u M Q) h fun u H3 h=>by
   obtain ⟨ds,M,F,Qd,Xd,hs,hv,hw,l1,_⟩:=h
   obtain ⟨_,_,e1,h1,_⟩:=hv
   cases e1
   exact ⟨d,M,F,Qd,hs.1,h1,hw,l1⟩
end
def rLenD:RDs:=fun ds M Q=>match ds with
 | [.str z]=>z.length≤sizeLine∧Q (.int z.length) M
 | [d]=>optK (seqOf M d) fun xs=>Q (.int xs.length) M
 | _=>False
def rIsD:RDs:=fun ds M Q=>match ds with
 | [d, .ty c]=>c∈ ["bool","int","str","tuple","list","dict"]∧optK (tyN M d) fun n=>Q (.bl (isB n c)) M
 | _=>False
def rIntCD:RDs:=fun ds M Q=>match ds with
 | [.int i]=>Q (.int i) M
 | [.bl b]=>Q (.int (if b then 1 else 0)) M
 | _=>False
def rStrCD:RDs:=fun ds M Q=>match ds with
 | [.int i]=>i.natAbs.log2 < 1920∧Q (.str (toString i)) M
 | _=>False
def rListD:RDs:=fun ds M Q=>match ds with
 | [d]=>optK (seqOf M d) fun xs=>Q (.lst xs) M
 | _=>False
def rListO:RDs:=fun ds M Q=>match ds with
 | [d]=>optK (seqOf M d) fun xs=>∀a,M a=none→Q (.ref a) (mput M a (.lst xs))
 | _=>False
def rTupD:RDs:=fun ds M Q=>match ds with
 | [d]=>optK (seqOf M d) fun xs=>Q (.tup xs) M
 | _=>False
def bools:List D→Option (List Bool)
 | []=>some []
 | .bl b :: ds=>(bools ds).map (b :: ·)
 | _=>none
def rAllD (any:Bool):RDs:=fun ds M Q=>match ds with
 | [.lst xs]=>optK (bools xs) fun bs=>Q (.bl (if any then bs.any id else bs.all id)) M
 | _=>False
theorem bools_map {α:Type} (f:α→Bool):∀xs:List α,bools (xs.map fun x=>D.bl (f x))=some (xs.map f)
 | []=>rfl
 | x :: xs=>by
  show (bools (xs.map fun x=>D.bl (f x))).map (f x :: ·)=_
  rw [bools_map f xs]
  rfl
theorem DVs.bools {K:PySem.W.Frag} {H:Hp} {M:Mem}:∀{ds:List D} {bs:List Bool} {xs:List V},bools ds=some bs→DVs K H M ds xs→xs=bs.map V.bl
 | [],bs,xs,h,g=>by
  cases h
  exact g
 | d :: ds,bs,xs,h,g=>by
  obtain ⟨y,ys,e,g1,g2⟩:=g
  subst e
  cases d <;> first | cases h | skip
  rename_i b
  cases (show y= .bl b from g1)
  cases q:DL.bools ds with
  | none=>
   have h':(DL.bools ds).map (b :: ·)=some bs:=h
   rw [q] at h'
   cases h'
  | some cs=>
   have h':(DL.bools ds).map (b :: ·)=some bs:=h
   rw [q] at h'
   cases h'
   rw [DVs.bools q g2]
   rfl
section
variable {X : Cx}
theorem dv1 {K:PySem.W.Frag} {H:Hp} {M:Mem} {d:D} {xs:List V} (h:DVs K H M [d] xs):∃x,xs= [x]∧DV K H M d x:=by
 obtain ⟨x,ys,e,h1,h2⟩:=h
 cases (show ys= [] from h2)
 exact ⟨x,e,h1⟩
theorem dv2 {K:PySem.W.Frag} {H:Hp} {M:Mem} {d e:D} {xs:List V} (h:DVs K H M [d,e] xs):∃x y,xs= [x,y]∧DV K H M d x∧DV K H M e y:=by
 obtain ⟨x,ys,e,h1,h2⟩:=h
 obtain ⟨y,e2,h3⟩:=dv1 h2
 subst e2
 exact ⟨x,y,e,h1,h3⟩
theorem cd_len:CallR X (.builtin "len") (liftVs X.K rLenD):=by
 intro pins s σ H xs us Q I r hh
 obtain ⟨ds,M,F,Qd,R,h1,h3,l⟩:=hh
 unfold rLenD at h3
 split at h3
 ·rename_i z
  obtain ⟨x,e,g⟩:=dv1 h1
  subst e
  cases (show x= .str z from g)
  exact call_len pins s σ H _ us Q I r ⟨_,z.length,rfl,⟨h3.1,rfl⟩,l (.int z.length) H (.int z.length) M Ext.rfl' R rfl h3.2⟩
 ·rename_i d _
  obtain ⟨x,e,g⟩:=dv1 h1
  subst e
  obtain ⟨ys,q1,q⟩:=optK_of h3
  obtain ⟨a,zs,e,sq,dv⟩:=seqOf_ok R q1 g
  subst e
  refine call_len_seq pins s σ H _ us Q I r ⟨a,zs,rfl,sq,?_⟩
  rw [dv.len]
  exact l (.int ys.length) H (.int ys.length) M Ext.rfl' R rfl q
 ·exact h3.elim
theorem cd_isi:CallR X (.builtin "isinstance") (liftVs X.K rIsD):=by
 intro pins s σ H xs us Q I r hh
 obtain ⟨ds,M,F,Qd,R,h1,h3,l⟩:=hh
 unfold rIsD at h3
 split at h3
 ·rename_i d c
  obtain ⟨x,y,e,g1,g2⟩:=dv2 h1
  subst e
  cases (show y= .ty c from g2)
  obtain ⟨hc,h3⟩:=h3
  obtain ⟨n,q1,q⟩:=optK_of h3
  obtain ⟨t,hn⟩:=tyN_ok R q1 g1
  exact call_isi pins s σ H _ us Q I r ⟨x, .ty c, .type n, .type c,isB n c,rfl, .ty c,t,kit_ty (isB_ok n hn c hc),l (.bl (isB n c)) H (.bl (isB n c)) M Ext.rfl' R rfl q⟩
 ·exact h3.elim
theorem cd_int:CallR X (.type "int") (liftVs X.K rIntCD):=by
 intro pins s σ H xs us Q I r hh
 obtain ⟨ds,M,F,Qd,R,h1,h3,l⟩:=hh
 unfold rIntCD at h3
 split at h3
 ·rename_i i
  obtain ⟨x,e,g⟩:=dv1 h1
  subst e
  cases (show x= .int i from g)
  exact call_int1 pins s σ H _ us Q I r (.inl ⟨i,rfl,l (.int i) H (.int i) M Ext.rfl' R rfl h3⟩)
 ·rename_i b
  obtain ⟨x,e,g⟩:=dv1 h1
  subst e
  cases (show x= .bl b from g)
  exact call_int1 pins s σ H _ us Q I r (.inr ⟨b,rfl,l (.int (if b then 1 else 0)) H (.int (if b then 1 else 0)) M Ext.rfl' R rfl h3⟩)
 ·exact h3.elim
theorem cd_list:CallR X (.type "list") (liftVs X.K rListD):=by
 intro pins s σ H xs us Q I r hh
 obtain ⟨ds,M,F,Qd,R,h1,h3,l⟩:=hh
 unfold rListD at h3
 split at h3
 ·rename_i d
  obtain ⟨x,e,g⟩:=dv1 h1
  subst e
  obtain ⟨ys,q1,q⟩:=optK_of h3
  obtain ⟨a,zs,e,sq,dv⟩:=seqOf_ok R q1 g
  subst e
  refine call_list_of pins s σ H _ us Q I r ⟨a,zs,rfl,sq,fun p hp=>?_⟩
  have e':=new_ext R.rel (o:=HO.lst zs) hp
  exact l _ _ (.lst ys) M e' (R.new hp) ⟨p,_,rfl,upd_same,R.rel.free hp,DVs.ext R.rel e' _ _ dv⟩ q
 ·exact h3.elim
theorem cd_tup:CallR X (.type "tuple") (liftVs X.K rTupD):=by
 intro pins s σ H xs us Q I r hh
 obtain ⟨ds,M,F,Qd,R,h1,h3,l⟩:=hh
 unfold rTupD at h3
 split at h3
 ·rename_i d
  obtain ⟨x,e,g⟩:=dv1 h1
  subst e
  obtain ⟨ys,q1,q⟩:=optK_of h3
  obtain ⟨a,zs,e,sq,dv⟩:=seqOf_ok R q1 g
  subst e
  rcases sq with sq | sq
  ·refine call_tuple_of pins s σ H _ us Q I r ⟨a,zs,rfl, .inl ⟨sq,fun p hp=>?_⟩⟩
   have e':=new_ext R.rel (o:=HO.tup zs) hp
   exact l _ _ (.tup ys) M e' (R.new hp) ⟨p,_,rfl,SqT.of upd_same,DVs.ext R.rel e' _ _ dv⟩ q
  ·exact call_tuple_of pins s σ H _ us Q I r ⟨a,zs,rfl, .inr ⟨sq,l (.ref a) H (.tup ys) M Ext.rfl' R ⟨a,zs,rfl,sq,dv⟩ q⟩⟩
 ·exact h3.elim
theorem cd_all (hc:X.calm=true):CallR X (.builtin "all") (liftVs X.K (rAllD false)):=by
 intro pins s σ H xs us Q I r hh
 obtain ⟨ds,M,F,Qd,R,h1,h3,l⟩:=hh
 unfold rAllD at h3
 split at h3
 ·rename_i ys
  obtain ⟨x,e,g⟩:=dv1 h1
  subst e
  obtain ⟨bs,q1,q⟩:=optK_of h3
  obtain ⟨a,zs,e,g1,_,g2⟩:=g
  subst e
  have e:=DVs.bools q1 g2
  subst e
  exact cr_all hc pins s σ H _ us Q I r ⟨a,bs,rfl,SqL.of g1,l (.bl (bs.all id)) H (.bl (bs.all id)) M Ext.rfl' R rfl q⟩
 ·exact h3.elim
theorem cd_any (hc:X.calm=true):CallR X (.builtin "any") (liftVs X.K (rAllD true)):=by
 intro pins s σ H xs us Q I r hh
 obtain ⟨ds,M,F,Qd,R,h1,h3,l⟩:=hh
 unfold rAllD at h3
 split at h3
 ·rename_i ys
  obtain ⟨x,e,g⟩:=dv1 h1
  subst e
  obtain ⟨bs,q1,q⟩:=optK_of h3
  obtain ⟨a,zs,e,g1,_,g2⟩:=g
  subst e
  have e:=DVs.bools q1 g2
  subst e
  exact cr_any hc pins s σ H _ us Q I r ⟨a,bs,rfl,SqL.of g1,l (.bl (bs.any id)) H (.bl (bs.any id)) M Ext.rfl' R rfl q⟩
 ·exact h3.elim
end
section
variable {X : Cx} {W : WX} {x : Str} {p pos : Pos} {e : Expr} {es : List Expr} {wa : WA} {id T : String} {r : RDs}
theorem j_callB (hc:CallR X (.builtin id) (liftVs X.K r)) (hm:X.mg x=none) (hv:bootBuiltins x=some (.builtin id)) (ha:JA X W (e :: es) wa) (hg:Gl X x:=by rfl) (hn:x≠"__name__":=by decide) (hdb:(x == ("__debug__":Str))=false:=by decide)
  (he:starEach (e :: es) X.env=(false,eval e X.env) :: starEach es X.env:=by rfl) (hpl:(backTo pos (starEach es X.env)).any (·.1)=false:=by rfl):JE X W (.Call (.Name x p) (e :: es) [] pos) (wCB r wa):=
 pe_mono (pe_callB hc hg hm hv ha hn hdb he hpl) fun σ H Q h=>bindA (wa:=wa) (f:=fun xs _ M Q _=>r xs M Q) h fun xs ds H1 h=>finS (by rw [List.append_nil,List.append_nil] at h;exact h)
theorem j_callTy (hc:CallR X (.type T) (liftVs X.K r)) (hm:X.mg x=none) (hv:bootBuiltins x=some (.type T)) (ha:JA X W (e :: es) wa) (hg:Gl X x:=by rfl) (hn:x≠"__name__":=by decide) (hdb:(x == ("__debug__":Str))=false:=by decide)
  (he:starEach (e :: es) X.env=(false,eval e X.env) :: starEach es X.env:=by rfl) (hpl:(backTo pos (starEach es X.env)).any (·.1)=false:=by rfl):JE X W (.Call (.Name x p) (e :: es) [] pos) (wCB r wa):=
 pe_mono (pe_callTy hc hg hm hv ha hn hdb he hpl) fun σ H Q h=>bindA (wa:=wa) (f:=fun xs _ M Q _=>r xs M Q) h fun xs ds H1 h=>finS (by rw [List.append_nil,List.append_nil] at h;exact h)
end
end DL
namespace DL
open PySem PySem.Spec PyProof.Rows L2
def isBl:D→(Bool→Prop)→Prop
 | .bl b,k=>k b
 | _,_=>False
def wTest (w:WE):WT:=fun ds M Q Xc=>w ds M (fun d M1=>isBl d fun b=>Q b M1) Xc
def wAndT (t u:WT):WT:=fun ds M Q Xc=>t ds M (fun b M1=>if b=true then u ds M1 Q Xc else Q false M1) Xc
def wOrT (t u:WT):WT:=fun ds M Q Xc=>t ds M (fun b M1=>if b=true then Q true M1 else u ds M1 Q Xc) Xc
def wNotT (t:WT):WT:=fun ds M Q Xc=>t ds M (fun b M1=>Q (!b) M1) Xc
def wAndV (wa wb:WE):WE:=fun ds M Q Xc=>wa ds M (fun d M1=>isBl d fun b=>if b=true then wb ds M1 Q Xc else Q (.bl false) M1) Xc
def wOrV (wa wb:WE):WE:=fun ds M Q Xc=>wa ds M (fun d M1=>isBl d fun b=>if b=true then Q (.bl true) M1 else wb ds M1 Q Xc) Xc
def wNotV (wa:WE):WE:=fun ds M Q Xc=>wa ds M (fun d M1=>isBl d fun b=>Q (.bl (!b)) M1) Xc
def wIfE (t:WT) (wa wb:WE):WE:=fun ds M Q Xc=>t ds M (fun b M1=>if b=true then wa ds M1 Q Xc else wb ds M1 Q Xc) Xc
section
variable {X : Cx} {W : WX} {a b c e : Expr} {wa wb wc : WE} {t u : WT} {rest : List Expr} {pos : Pos} {K : PySem.W.Frag} {σ : L2.St} {H : Hp}
theorem isBl_of {d:D} {k:Bool→Prop} (h:isBl d k):∃b,d= .bl b∧k b:=by
 cases d <;> first | exact h.elim | skip
 exact ⟨_,rfl,h⟩
theorem finT {v:V} {d:D} {Q:Bool→Hp→Prop} (h:lift K W rT [d] [v] (fun _ M Q _=>isBl d fun b=>Q b M) σ H Q):∃k,v= .bl k∧Q k H:=by
 obtain ⟨ds,M,F,Qd,Xd,hs,hv,hw,l1,_⟩:=h
 obtain ⟨_,_,e1,h1,_⟩:=hv
 cases e1
 obtain ⟨b,e2,hw⟩:=isBl_of hw
 subst e2
 cases (show v= .bl b from h1)
 exact ⟨b,rfl,l1 b H b M Ext.rfl' hs.1 rfl hw⟩
theorem finB {b:Bool} {Q:Bool→Hp→Prop} {es:List D} {vs:List V} (h:lift K W rT es vs (fun _ M Q _=>Q b M) σ H Q):Q b H:=by
 obtain ⟨ds,M,F,Qd,Xd,hs,hv,hw,l1,_⟩:=h
 exact l1 b H b M Ext.rfl' hs.1 rfl hw
theorem jt_val (h:JE X W e wa) (he:∀whole,isTrue e X.env whole=(do let v ← whole;standAt e.pos;holding [v] (truthy v)):=by intro _;rfl):JT X W e (wTest wa):=
 pt_mono (pt_val h he) fun σ H Q h=>bindE (wa:=wa) (f:=fun d _ M Q _=>isBl d fun b=>Q b M) h fun v d H1 h=>finT h
theorem jt_cmp {op:CmpOp} {r:RD2} (ho:OpR X (compareOp op) (liftV2 X.K r)) (ha:JE X W a wa) (hb:JE X W b wb) (hm:behindInMarks op b=false:=by first | exact nomark _ | rfl):JT X W (.Compare a [op] [b] pos) (wTest (wOp r wa wb)):=
 pt_mono (pt_cmpR ho ha hb hm) fun σ H Q h=>bindE (wa:=wa) (f:=fun x ds M Q Xc=>wb ds M (fun y M2=>r x y M2 fun d M3=>isBl d fun b=>Q b M3) Xc) h fun x d H1 h=>
  bindE (wa:=wb) (f:=fun y _ M Q _=>r d y M fun d M3=>isBl d fun b=>Q b M3) h fun y e H2 h=>by
   obtain ⟨ds,M,F,Qd,Xd,hs,hv,hw,l1,_⟩:=h
   obtain ⟨_,_,e1,h1,_,_,e2,h2,_⟩:=hv
   cases e1
   cases e2
   refine ⟨d,e,M,F,_,hs.1,h2,h1,hw,fun v H' z M' ex r2 dv q=>?_⟩
   obtain ⟨b,e3,q⟩:=isBl_of q
   subst e3
   cases (show v= .bl b from dv)
   exact ⟨b,rfl,l1 b H' b M' ex r2 rfl q⟩
theorem jt_and1 (ha:JT X W a t):JW X W (.BoolOp .And [a] pos) t:=pw_and1 ha
theorem jt_or1 (ha:JT X W a t):JW X W (.BoolOp .Or [a] pos) t:=pw_or1 ha
theorem ite_tt {A B:Prop} (h:if true=true then A else B):A:=by simpa using h
theorem ite_ff {A B:Prop} (h:if false=true then A else B):B:=by simpa using h
theorem jt_and (ha:JT X W a t) (hb:JW X W (.BoolOp .And (b :: rest) pos) u):JW X W (.BoolOp .And (a :: b :: rest) pos) (wAndT t u):=
 pw_mono (pw_and ha hb) fun σ H Q h=>bindT (wa:=t) (f:=fun b ds M Q Xc=>if b=true then u ds M Q Xc else Q false M) h fun k H1 h=>by
  cases k with
  | true=>
   rw [if_pos rfl]
   obtain ⟨ds,M,F,Qd,Xd,hs,hv,hw,l1,l2⟩:=h
   exact ⟨ds,M,F,Qd,Xd,hs,hv,DL.ite_tt hw,l1,l2⟩
  | false=>
   rw [if_neg Bool.false_ne_true]
   obtain ⟨ds,M,F,Qd,Xd,hs,hv,hw,l1,l2⟩:=h
   exact l1 false H1 false M Ext.rfl' hs.1 rfl (DL.ite_ff hw)
theorem jt_or (ha:JT X W a t) (hb:JW X W (.BoolOp .Or (b :: rest) pos) u):JW X W (.BoolOp .Or (a :: b :: rest) pos) (wOrT t u):=
 pw_mono (pw_or ha hb) fun σ H Q h=>bindT (wa:=t) (f:=fun b ds M Q Xc=>if b=true then Q true M else u ds M Q Xc) h fun k H1 h=>by
  cases k with
  | true=>
   rw [if_pos rfl]
   obtain ⟨ds,M,F,Qd,Xd,hs,hv,hw,l1,l2⟩:=h
   exact l1 true H1 true M Ext.rfl' hs.1 rfl (DL.ite_tt hw)
  | false=>
   rw [if_neg Bool.false_ne_true]
   obtain ⟨ds,M,F,Qd,Xd,hs,hv,hw,l1,l2⟩:=h
   exact ⟨ds,M,F,Qd,Xd,hs,hv,DL.ite_ff hw,l1,l2⟩
theorem jt_not (ha:JT X W a t):JT X W (.UnaryOp .Not a pos) (wNotT t):=
 pt_mono (pt_not ha) fun σ H Q h=>bindT (wa:=t) (f:=fun b _ M Q _=>Q (!b) M) h fun k H1 h=>by
  obtain ⟨ds,M,F,Qd,Xd,hs,hv,hw,l1,_⟩:=h
  exact l1 (!k) H1 (!k) M Ext.rfl' hs.1 rfl hw
theorem jt_bool (h:JW X W e t):JT X W e t:=PW.pt h
theorem j_one {op} (h:JE X W a wa):JE X W (.BoolOp op [a] pos) wa:=pe_one h
theorem j_and (ha:JE X W a wa) (hb:JE X W (.BoolOp .And (b :: rest) pos) wb):JE X W (.BoolOp .And (a :: b :: rest) pos) (wAndV wa wb):=
 pe_mono (pe_and ha hb) fun σ H Q h=>bindE (wa:=wa) (f:=fun d ds M Q Xc=>isBl d fun b=>if b=true then wb ds M Q Xc else Q (D.bl false) M) h fun v d H1 h=>by
  obtain ⟨ds,M,F,Qd,Xd,hs,hv,hw,l1,l2⟩:=h
  obtain ⟨_,_,e1,h1,_⟩:=hv
  cases e1
  obtain ⟨k,e2,hw2⟩:=isBl_of hw
  clear hw
  subst e2
  refine ⟨k,h1,?_⟩
  cases k with
  | true=>
   rw [if_pos rfl]
   exact ⟨ds,M,F,Qd,Xd,hs,rfl,DL.ite_tt hw2,l1,l2⟩
  | false=>
   rw [if_neg Bool.false_ne_true]
   exact l1 (.bl false) H1 (.bl false) M Ext.rfl' hs.1 rfl (DL.ite_ff hw2)
theorem j_or (ha:JE X W a wa) (hb:JE X W (.BoolOp .Or (b :: rest) pos) wb):JE X W (.BoolOp .Or (a :: b :: rest) pos) (wOrV wa wb):=
 pe_mono (pe_or ha hb) fun σ H Q h=>bindE (wa:=wa) (f:=fun d ds M Q Xc=>isBl d fun b=>if b=true then Q (D.bl true) M else wb ds M Q Xc) h fun v d H1 h=>by
  obtain ⟨ds,M,F,Qd,Xd,hs,hv,hw,l1,l2⟩:=h
  obtain ⟨_,_,e1,h1,_⟩:=hv
  cases e1
  obtain ⟨k,e2,hw2⟩:=isBl_of hw
  clear hw
  subst e2
  refine ⟨k,h1,?_⟩
  cases k with
  | true=>
   rw [if_pos rfl]
   exact l1 (.bl true) H1 (.bl true) M Ext.rfl' hs.1 rfl (DL.ite_tt hw2)
  | false=>
   rw [if_neg Bool.false_ne_true]
   exact ⟨ds,M,F,Qd,Xd,hs,rfl,DL.ite_ff hw2,l1,l2⟩
theorem j_not (ha:JE X W a wa):JE X W (.UnaryOp .Not a pos) (wNotV wa):=
 pe_mono (pe_not ha) fun σ H Q h=>bindE (wa:=wa) (f:=fun d _ M Q _=>isBl d fun b=>Q (D.bl (!b)) M) h fun v d H1 h=>by
  obtain ⟨ds,M,F,Qd,Xd,hs,hv,hw,l1,l2⟩:=h
  obtain ⟨_,_,e1,h1,_⟩:=hv
  cases e1
  obtain ⟨k,e2,hw2⟩:=isBl_of hw
  clear hw
  subst e2
  exact ⟨k,h1,l1 (.bl (!k)) H1 (.bl (!k)) M Ext.rfl' hs.1 rfl hw2⟩
theorem j_if (hc:JT X W c t) (ha:JE X W a wa) (hb:JE X W b wb):JE X W (.IfExp c a b pos) (wIfE t wa wb):=
 pe_mono (pe_ifExp hc ha hb) fun σ H Q h=>bindT (wa:=t) (f:=fun b ds M Q Xc=>if b=true then wa ds M Q Xc else wb ds M Q Xc) h fun k H1 h=>by
  obtain ⟨ds,M,F,Qd,Xd,hs,hv,hw,l1,l2⟩:=h
  cases k with
  | true=>
   rw [if_pos rfl]
   exact ⟨ds,M,F,Qd,Xd,hs,rfl,DL.ite_tt hw,l1,l2⟩
  | false=>
   rw [if_neg Bool.false_ne_true]
   exact ⟨ds,M,F,Qd,Xd,hs,rfl,DL.ite_ff hw,l1,l2⟩
def wChain (r r':RD2) (wa wb wc:WE):WE:=fun ds M Q Xc=>wa ds M (fun x M1=>wb ds M1 (fun y M2=>r x y M2 fun z M3=>isBl z fun k=>
 if k=true then wc ds M3 (fun w M4=>r' y w M4 fun z2 M5=>isBl z2 fun k2=>Q (.bl k2) M5) Xc else Q (.bl false) M3) Xc) Xc
end
def wTup (wa:WA):WE:=fun ds M Q Xc=>wa ds M (fun xs M1=>xs.length≤sizeLine∧Q (.tup xs) M1) Xc
def wLst (wa:WA):WE:=fun ds M Q Xc=>wa ds M (fun xs M1=>xs.length≤sizeLine∧Q (.lst xs) M1) Xc
def wLstO (wa:WA):WE:=fun ds M Q Xc=>wa ds M (fun xs M1=>xs.length≤sizeLine∧∀a,M1 a=none→Q (.ref a) (mput M1 a (.lst xs))) Xc
section
variable {X : Cx} {W : WX} {es : List Expr} {wa : WA} {pos : Pos}
theorem j_tup {k:Nat} (h:JA X W es wa):JE X W (.Tuple es k pos) (wTup wa):=
 pe_mono (pe_tup h) fun σ H Q h=>bindA (wa:=wa) (f:=fun xs _ M Q _=>xs.length≤sizeLine∧Q (D.tup xs) M) h fun xs ds H1 h=>by
  obtain ⟨_,M,F,Qd,Xd,hs,hv,hw,l1,l2⟩:=h
  rw [List.append_nil,List.append_nil] at hv
  refine ⟨by rw [hv.len];exact hw.1,fun p hp=>?_⟩
  have e':=new_ext hs.1.rel (o:=HO.tup xs) hp
  exact l1 _ _ (.tup ds) M e' (hs.1.new hp) ⟨p,xs,rfl,SqT.of upd_same,DVs.ext hs.1.rel e' _ _ hv⟩ hw.2
theorem j_lst (h:JA X W es wa):JE X W (.List es pos) (wLst wa):=
 pe_mono (pe_lst h) fun σ H Q h=>bindA (wa:=wa) (f:=fun xs _ M Q _=>xs.length≤sizeLine∧Q (D.lst xs) M) h fun xs ds H1 h=>by
  obtain ⟨_,M,F,Qd,Xd,hs,hv,hw,l1,l2⟩:=h
  rw [List.append_nil,List.append_nil] at hv
  refine ⟨by rw [hv.len];exact hw.1,fun p hp=>?_⟩
  have e':=new_ext hs.1.rel (o:=HO.lst xs) hp
  exact l1 _ _ (.lst ds) M e' (hs.1.new hp) ⟨p,xs,rfl,upd_same,hs.1.rel.free hp,DVs.ext hs.1.rel e' _ _ hv⟩ hw.2
theorem j_lstO (h:JA X W es wa):JE X W (.List es pos) (wLstO wa):=
 pe_mono (pe_lst h) fun σ H Q h=>bindA (wa:=wa) (f:=fun xs _ M Q _=>xs.length≤sizeLine∧∀a,M a=none→Q (D.ref a) (mput M a (.lst xs))) h fun xs ds H1 h=>by
  obtain ⟨_,M,F,Qd,Xd,hs,hv,hw,l1,l2⟩:=h
  rw [List.append_nil,List.append_nil] at hv
  refine ⟨by rw [hv.len];exact hw.1,fun p hp=>?_⟩
  have e':=hs.1.xown (o:=HO.lst xs) (u:= .lst ds) hp
  exact l1 _ _ (.ref p) _ e' (hs.1.own hp ⟨xs,upd_same,DVs.ext hs.1.rel e' _ _ hv⟩) rfl (hw.2 p (hs.1.mfree hp))
end
def oneSign (x:Str):Option Nat:=match x.cps.toList with
 | [c]=>some c
 | _=>none
def flatD:D→Bool
 | .non=>true
 | .bl _=>true
 | .int _=>true
 | .str _=>true
 | _=>false
def inD (d:D) (xs:List D):Bool:=xs.any fun y=>deq y d
def rInD (neg:Bool):RD2:=fun d e M Q=>match e with
 | .str z=>match d with
  | .str x=>optK (oneSign x) fun c=>Q (.bl (xor neg (decide (c∈z.cps.toList)))) M
  | _=>False
 | e=>optK (seqOf M e) fun xs=>flatD d=true∧xs.all flatD=true∧Q (.bl (xor neg (inD d xs))) M
section
variable {X : Cx} {K : PySem.W.Frag} {H : Hp} {M : Mem}
theorem flat_ok {d:D} {x:V} (h:flatD d=true) (g:DV K H M d x):flatV x=true:=by
 cases d <;> first | cases h | skip
 ·cases (show x= .non from g);rfl
 ·rename_i b;cases (show x= .bl b from g);rfl
 ·rename_i b;cases (show x= .int b from g);rfl
 ·rename_i b;cases (show x= .str b from g);rfl
theorem eqV_ok {d e:D} {x y:V} (h:flatD d=true) (h2:flatD e=true) (g:DV K H M d x) (g2:DV K H M e y):eqV x y=deq d e:=by
 cases d <;> first | cases h | skip
 all_goals (cases e <;> first | cases h2 | skip)
 all_goals (cases (show x=_ from g);cases (show y=_ from g2);rfl)
theorem flats_ok:∀{ds:List D} {xs:List V},ds.all flatD=true→DVs K H M ds xs→xs.all flatV=true
 | [],xs,_,g=>by
  cases (show xs= [] from g)
  rfl
 | d :: ds,xs,h,g=>by
  obtain ⟨y,ys,e,g1,g2⟩:=g
  subst e
  rw [List.all_cons,Bool.and_eq_true] at h
  rw [List.all_cons,flat_ok h.1 g1,flats_ok h.2 g2]
  rfl
theorem inV_ok {d:D} {x:V} (hd:flatD d=true) (g:DV K H M d x):∀{ds:List D} {xs:List V},ds.all flatD=true→DVs K H M ds xs→inV x xs=inD d ds
 | [],xs,_,g=>by
  cases (show xs= [] from g)
  rfl
 | e :: ds,xs,h,g'=>by
  obtain ⟨y,ys,e2,g1,g2⟩:=g'
  subst e2
  rw [List.all_cons,Bool.and_eq_true] at h
  show (eqV y x || inV x ys)=(deq e d || inD d ds)
  rw [eqV_ok h.1 hd g1 g,inV_ok hd g h.2 g2]
theorem one_of {x:Str} {c:Nat} (h:oneSign x=some c):x=⟨#[c]⟩:=by
 unfold oneSign at h
 split at h
 ·rename_i c' e
  cases h
  cases x with
  | mk a=>
   have e':a.toList= [c]:=e
   have:a= #[c]:=by
    apply Array.ext'
    rw [e']
   rw [this]
 ·cases h
theorem od_in:OpR X (compareOp .In) (liftV2 X.K (rInD false)):=by
 intro pins s σ H x y v u Q I rx ry hh
 obtain ⟨d,e,M,F,Qd,R,h1,h2,h3,l⟩:=hh
 have seq:optK (seqOf M e) (fun xs=>flatD d=true∧xs.all flatD=true∧Qd (.bl (xor false (inD d xs))) M)→wpAny (model X.prog X.w) X.A (compareOp .In v u) (EP X pins σ Q) X.xe s:=fun q=>by
  obtain ⟨xs,q1,q2,q3,q⟩:=optK_of q
  obtain ⟨a,ys,e,sq,dv⟩:=seqOf_ok R q1 h2
  subst e
  refine op_in_seq pins s σ H _ _ v u Q I rx ry ⟨a,ys,rfl,sq,flat_ok q2 h1,flats_ok q3 dv,?_⟩
  rw [inV_ok q2 h1 q3 dv]
  rw [Bool.false_xor] at q
  exact l (.bl _) H (.bl _) M Ext.rfl' R rfl q
 cases e <;> first | exact seq h3 | skip
 rename_i z
 cases (show y= .str z from h2)
 cases d <;> first | exact h3.elim | skip
 rename_i w
 cases (show x= .str w from h1)
 obtain ⟨c,q1,q⟩:=optK_of h3
 rw [Bool.false_xor] at q
 cases one_of q1
 exact op_in_sign pins s σ H _ _ v u Q I rx ry ⟨c,z,rfl,rfl,l (.bl _) H (.bl _) M Ext.rfl' R rfl q⟩
theorem od_notIn:OpR X (compareOp .NotIn) (liftV2 X.K (rInD true)):=by
 intro pins s σ H x y v u Q I rx ry hh
 obtain ⟨d,e,M,F,Qd,R,h1,h2,h3,l⟩:=hh
 have seq:optK (seqOf M e) (fun xs=>flatD d=true∧xs.all flatD=true∧Qd (.bl (xor true (inD d xs))) M)→wpAny (model X.prog X.w) X.A (compareOp .NotIn v u) (EP X pins σ Q) X.xe s:=fun q=>by
  obtain ⟨xs,q1,q2,q3,q⟩:=optK_of q
  obtain ⟨a,ys,e,sq,dv⟩:=seqOf_ok R q1 h2
  subst e
  refine op_notIn_seq pins s σ H _ _ v u Q I rx ry ⟨a,ys,rfl,sq,flat_ok q2 h1,flats_ok q3 dv,?_⟩
  rw [inV_ok q2 h1 q3 dv]
  rw [Bool.true_xor] at q
  exact l (.bl _) H (.bl _) M Ext.rfl' R rfl q
 cases e <;> first | exact seq h3 | skip
 rename_i z
 cases (show y= .str z from h2)
 cases d <;> first | exact h3.elim | skip
 rename_i w
 cases (show x= .str w from h1)
 obtain ⟨c,q1,q⟩:=optK_of h3
 rw [Bool.true_xor] at q
 cases one_of q1
 exact op_notIn_sign pins s σ H _ _ v u Q I rx ry ⟨c,z,rfl,rfl,l (.bl _) H (.bl _) M Ext.rfl' R rfl q⟩
end
section
variable {X : Cx} {W : WX} {a b c : Expr} {wa wb wc : WE} {pos : Pos} {K : PySem.W.Frag}
theorem testE {w:WE} {σ:L2.St} {H:Hp} {Q:Bool→Hp→Prop} (h:liftT K W (wTest w) σ H Q):liftE K W w σ H (fun x H'=>∃k,x= .bl k∧Q k H'):=
 bindE (wa:=w) (f:=fun d _ M Q _=>isBl d fun b=>Q b M) h fun v d H1 h=>finT h
theorem chainE {r r':RD2} {σ:L2.St} {H:Hp} {Q:VK} (h:liftE K W (wChain r r' wa wb wc) σ H Q):tChain (liftV2 K r) (liftV2 K r') (liftE K W wa) (liftE K W wb) (liftE K W wc) σ H Q:=
 bindE (wa:=wa) (f:=fun x ds M Q Xc=>wb ds M (fun y M2=>r x y M2 fun z M3=>isBl z fun k=>
   if k=true then wc ds M3 (fun w M4=>r' y w M4 fun z2 M5=>isBl z2 fun k2=>Q (D.bl k2) M5) Xc else Q (D.bl false) M3) Xc) h fun x d H1 h=>
  bindE (wa:=wb) (f:=fun y ds M Q Xc=>r d y M fun z M3=>isBl z fun k=>if k=true then wc ds M3 (fun w M4=>r' y w M4 fun z2 M5=>isBl z2 fun k2=>Q (D.bl k2) M5) Xc else Q (D.bl false) M3) h fun y e H2 h=>by
   obtain ⟨ds,M,F,Qd,Xd,hs,hv,hw,l1,l2⟩:=h
   obtain ⟨_,_,e1,h1,_,_,e2,h2,_⟩:=hv
   cases e1
   cases e2
   refine ⟨d,e,M,F,_,hs.1,h2,h1,hw,fun v H' z M' ex r2 dv q=>?_⟩
   obtain ⟨b,e3,q2⟩:=isBl_of q
   clear q
   subst e3
   cases (show v= .bl b from dv)
   refine ⟨b,rfl,?_⟩
   cases b with
   | false=>exact l1 (.bl false) H' (.bl false) M' ex r2 rfl (DL.ite_ff q2)
   | true=>
    have q:=DL.ite_tt q2
    show lift K W (rE K) [] [] wc σ H' _
    refine bindE (wa:=wc) (es:= [e]) (vs:= [y]) (f:=fun w _ M Q _=>r' e w M fun z2 M5=>isBl z2 fun k2=>Q (D.bl k2) M5) (Rr:=rE K) (Q:=Q) ⟨ds,M',F,Qd,Xd,hs.ext ex r2,⟨y, [],rfl,DV.ext hs.1.rel ex _ _ h1,rfl⟩,q,l1.ext ex,l2.ext ex⟩ fun u g H3 h=>?_
    obtain ⟨ds,M2,F2,Qd2,Xd2,hs2,hv2,hw2,l12,l22⟩:=h
    obtain ⟨_,_,e1,g1,_,_,e2,g2,_⟩:=hv2
    cases e1
    cases e2
    refine ⟨e,g,M2,F2,_,hs2.1,g2,g1,hw2,fun v H' z M' ex r2 dv q=>?_⟩
    obtain ⟨b,e3,q2⟩:=isBl_of q
    clear q
    subst e3
    cases (show v= .bl b from dv)
    exact l12 (.bl b) H' (.bl b) M' ex r2 rfl q2
theorem j_chain {op op':CmpOp} {r r':RD2} (ho:OpR X (compareOp op) (liftV2 X.K r)) (ho':OpR X (compareOp op') (liftV2 X.K r')) (ha:JE X W a wa) (hb:JE X W b wb) (hc:JE X W c wc)
  (hm:lastMarks [op,op'] [b,c]=false:=by with_unfolding_all rfl):JE X W (.Compare a [op,op'] [b,c] pos) (wChain r r' wa wb wc):=
 pe_mono (pe_chain ho ho' ha hb hc hm) fun σ H Q h=>chainE h
theorem jt_chain {op op':CmpOp} {r r':RD2} (ho:OpR X (compareOp op) (liftV2 X.K r)) (ho':OpR X (compareOp op') (liftV2 X.K r')) (ha:JE X W a wa) (hb:JE X W b wb) (hc:JE X W c wc)
  (hm:lastMarks [op,op'] [b,c]=false:=by with_unfolding_all rfl):JT X W (.Compare a [op,op'] [b,c] pos) (wTest (wChain r r' wa wb wc)):=
 pt_mono (pt_chain ho ho' ha hb hc hm) fun σ H Q h=>chainE (testE h)
end
end DL
namespace DL
open PySem PySem.Spec PyProof.Rows L2 RZ
def Sl (K:PySem.W.Frag) (H:Hp) (N:Mem) (σ:L2.St) (ds:SD):Prop:=ds.length=σ.length∧∀(i:Nat) (d:D),ds[i]?=some (some d)→∃v,σ[i]?=some (some v)∧DV K H N d v
def PW' (is:List Nat) (σ σ':L2.St):Prop:=∀vs,(∀i∈is,i∈vs)→wipe σ' vs=wipe σ vs
abbrev GD:=D→SD→(SD→Prop)→Prop
abbrev GDs:=List D→SD→(SD→Prop)→Prop
def liftG (K:PySem.W.Frag) (is:List Nat) (g:GD):TG:=fun v σ H Q=>∃d ds N Gd,RelM K H N∧Sl K H N σ ds∧DV K H N d v∧g d ds Gd∧∀σ' ds',Sl K H N σ' ds'→PW' is σ σ'→Gd ds'→Q σ' H
def liftGs (K:PySem.W.Frag) (is:List Nat) (g:GDs):TGs:=fun vs σ H Q=>∃es ds N Gd,RelM K H N∧Sl K H N σ ds∧DVs K H N es vs∧g es ds Gd∧∀σ' ds',Sl K H N σ' ds'→PW' is σ σ'→Gd ds'→Q σ' H
abbrev JG (X:Cx) (tg:Expr) (is:List Nat) (g:GD):Prop:=PG X tg (liftG X.K is g)
abbrev JGs (X:Cx) (ts:List Expr) (is:List Nat) (g:GDs):Prop:=PGs X ts (liftGs X.K is g)
def gN (i:Nat):GD:=fun d ds Q=>Q (ds.set i (some d))
def gNil':GDs:=fun es ds Q=>match es with
 | []=>Q ds
 | _=>False
def gCons' (g:GD) (gs:GDs):GDs:=fun es ds Q=>match es with
 | e :: es=>g e ds fun ds2=>gs es ds2 Q
 | _=>False
def gT (n:Nat) (gs:GDs):GD:=fun d ds Q=>match d with
 | .tup es=>es.length=n∧gs es ds Q
 | _=>False
section
variable {X : Cx} {K : PySem.W.Frag} {H : Hp} {N : Mem} {σ : L2.St} {ds : SD}
theorem pg_mono {tg:Expr} {t t':TG} (h:PG X tg t) (i:∀v σ H Q,t' v σ H Q→t v σ H Q):PG X tg t':=⟨fun pins s σ H v u Q I r hw=>h.run pins s σ H v u Q I r (i v σ H Q hw)⟩
theorem pgs_mono {ts:List Expr} {t t':TGs} (h:PGs X ts t) (i:∀v σ H Q,t' v σ H Q→t v σ H Q):PGs X ts t':=⟨fun pins s σ H v u Q I r hw=>h.run pins s σ H v u Q I r (i v σ H Q hw)⟩
theorem Sl.set (S:Sl K H N σ ds) {i:Nat} {d:D} {v:V} (h:DV K H N d v):Sl K H N (σ.set i (some v)) (ds.set i (some d)):=by
 refine ⟨by rw [List.length_set,List.length_set];exact S.1,fun j e q=>?_⟩
 by_cases hj:i=j
 ·subst hj
  by_cases hi:i < ds.length
  ·rw [List.getElem?_set_self hi] at q
   cases q
   exact ⟨v,by rw [List.getElem?_set_self (S.1 ▸ hi)],h⟩
  ·rw [List.getElem?_eq_none (by rw [List.length_set];omega)] at q
   cases q
 ·rw [List.getElem?_set_ne hj] at q ⊢
  exact S.2 j e q
theorem wipe_get_in {σ:L2.St} {i:Nat}:∀{vs:List Nat},i∈vs→i < σ.length→(wipe σ vs)[i]?=some none
 | [],h,_=>by simp at h
 | v :: vs,h,hl=>by
  unfold wipe
  by_cases e:v=i
  ·subst e
   rw [List.getElem?_set_self (by rw [wipe_length];exact hl)]
  ·rw [List.getElem?_set_ne e]
   refine wipe_get_in (vs:=vs) ?_ hl
   rcases List.mem_cons.mp h with q | q
   ·exact absurd q.symm e
   ·exact q
theorem wipe_eq {σ τ:L2.St} {vs:List Nat} (hl:σ.length=τ.length) (h:∀i,i∉vs→σ[i]?=τ[i]?):wipe σ vs=wipe τ vs:=by
 refine List.ext_getElem? fun i=>?_
 by_cases hi:i∈vs
 ·by_cases hlt:i < σ.length
  ·rw [wipe_get_in hi hlt,wipe_get_in hi (hl ▸ hlt)]
  ·rw [List.getElem?_eq_none (by rw [wipe_length];omega),List.getElem?_eq_none (by rw [wipe_length];omega)]
 ·rw [wipe_out hi,wipe_out hi]
  exact h i hi
theorem pw_set {i:Nat} {o:Option V}:PW' [i] σ (σ.set i o):=fun vs h=>wipe_eq (by rw [List.length_set]) fun j hj=>by
 rw [List.getElem?_set_ne]
 intro e
 subst e
 exact hj (h _ List.mem_cons_self)
theorem pw_trans {is js:List Nat} {σ σ1 σ2:L2.St} (a:PW' is σ σ1) (b:PW' js σ1 σ2):PW' (is ++ js) σ σ2:=fun vs h=>
 (b vs fun i hi=>h i (List.mem_append_right _ hi)).trans (a vs fun i hi=>h i (List.mem_append_left _ hi))
theorem pw_refl:PW' [] σ σ:=fun _ _=>rfl
theorem jg_name {i:Nat} {x:Str} {pos:Pos} (hN:X.N.Nodup) (hi:X.N[i]?=some x:=by rfl) (hx:Loc X.env.scope x:=by first | exact Or.inl rfl | exact Or.inr rfl) (hf:X.fn x=true∨X.env.scope.names.lookup x=some .local:=by first | exact .inl rfl | exact .inr rfl | assumption):JG X (.Name x pos) [i] (gN i):=
 pg_mono (pg_name hN hi hx hf) fun v σ H Q h=>by
  obtain ⟨d,ds,N,Gd,R,S,dv,hw,l⟩:=h
  exact l _ _ (S.set dv) pw_set hw
theorem jgs_nil:JGs X [] [] gNil':=pgs_mono pgs_nil fun vs σ H Q h=>by
 obtain ⟨es,ds,N,Gd,R,S,dv,hw,l⟩:=h
 cases es with
 | nil=>exact ⟨dv,l _ _ S pw_refl hw⟩
 | cons e es=>exact hw.elim
theorem jgs_cons {e:Expr} {es:List Expr} {is js:List Nat} {g:GD} {gs:GDs} (h1:JG X e is g) (h2:JGs X es js gs) (hs:(assignEach (e :: es) X.env).map (·.2)=assign e X.env :: (assignEach es X.env).map (·.2):=by rfl):JGs X (e :: es) (is ++ js) (gCons' g gs):=
 pgs_mono (pgs_cons h1 h2 hs) fun vs σ H Q h=>by
  obtain ⟨es,ds,N,Gd,R,S,dv,hw,l⟩:=h
  cases es with
  | nil=>exact hw.elim
  | cons d es=>
   obtain ⟨y,ys,e,d1,d2⟩:=dv
   subst e
   exact ⟨y,ys,rfl,d,ds,N,_,R,S,d1,hw,fun σ' ds' S' P q=>⟨es,ds',N,Gd,R,S',d2,q,fun σ2 ds2 S2 P2 q2=>l σ2 ds2 S2 (pw_trans P P2) q2⟩⟩
theorem jg_tup {es:List Expr} {k n:Nat} {is:List Nat} {gs:GDs} {pos:Pos} (hc:X.calm=true) (h:JGs X es is gs)
  (hn:(assignEach es X.env).length=n:=by rfl) (hst:(assignEach es X.env).findIdx? (·.1)=none:=by rfl):JG X (.Tuple es k pos) is (gT n gs):=
 pg_mono (pg_tup hc h hn hst) fun v σ H Q h=>by
  obtain ⟨d,ds,N,Gd,R,S,dv,hw,l⟩:=h
  cases d <;> first | exact hw.elim | skip
  rename_i xs
  obtain ⟨a,ys,e,q1,q2⟩:=dv
  exact ⟨a,ys,e,q1,by rw [q2.len];exact hw.1,xs,ds,N,Gd,R,S,q2,hw.2,l⟩
end
def Yl (K:PySem.W.Frag) (J:It) (items:List D) (H0:Hp) (N0:Mem):Prop:=∀(i:Nat) (H:Hp) (N:Mem),Ext H0 N0 H N→RelM K H N→
 (items.length≤i→J.stop i H)∧∀d,items[i]?=some d→J.go i H∧∀x H',J.yld i H x H'→Ext H N H' N∧RelM K H' N∧DV K H' N d x
abbrev WI:=WG (List D)
def liftI (K:PySem.W.Frag) (W:WX) (w:WI):TI:=fun σ H R=>∃ds M F Qd Xd,RelS K F σ H ds M∧w ds M Qd Xd∧
 (∀J H' items M',Ext H (uni M F) H' (uni M' F)→Rm K H' M' F→Yl K J items H' (uni M' F)→Qd items M'→R J H')∧LkX K F H M σ Xd W
abbrev JI (X:Cx) (W:WX) (tg iter:Expr) (w:WI):Prop:=PI X tg iter (liftI X.K W w)
def rngD (lo:Int) (n:Nat):List D:=(List.range n).map fun i=>D.int (lo + (i:Nat))
def sgnD (x:Str):List D:=x.cps.toList.map fun c=>D.str ⟨#[c]⟩
def enumD (xs:List D):List D:=xs.zipIdx.map fun p=>D.tup [.int (p.2:Nat),p.1]
def zipD (xs ys:List D):List D:=List.zipWith (fun x y=>D.tup [x,y]) xs ys
section
variable {K : PySem.W.Frag} {H0 : Hp} {N0 : Mem}
theorem yl_list {a:Addr} {ds:List D} {xs:List V} (R0:RelM K H0 N0) (h:H0 a=some (.lst xs)) (m:N0 a=none) (dv:DVs K H0 N0 ds xs):Yl K (Itl K a) ds H0 N0:=fun i H N e R=>by
 obtain ⟨q1,q2⟩:=e.at h m plain_lst
 refine ⟨fun hi=>⟨xs,SqL.of q1,by rw [dv.len];exact hi⟩,fun d hd=>?_⟩
 obtain ⟨x,h1,h2⟩:=(DVs.ext R0 e _ _ dv).get hd
 refine ⟨⟨xs,x,SqL.of q1,h1⟩,fun y H' hy=>?_⟩
 obtain ⟨e1,e2⟩:=hy
 subst e1
 have e3:=e2 xs (SqL.of q1)
 rw [h1] at e3
 cases e3
 exact ⟨Ext.rfl',R,h2⟩
theorem yl_tup {a:Addr} {ds:List D} {xs:List V} (R0:RelM K H0 N0) (h:SqT K H0 a xs) (dv:DVs K H0 N0 ds xs):Yl K (Itt K a) ds H0 N0:=fun i H N e R=>by
 have q1:=SqT.ext R0 e h
 refine ⟨fun hi=>⟨xs,q1,by rw [dv.len];exact hi⟩,fun d hd=>?_⟩
 obtain ⟨x,h1,h2⟩:=(DVs.ext R0 e _ _ dv).get hd
 refine ⟨⟨xs,x,q1,h1⟩,fun y H' hy=>?_⟩
 obtain ⟨e1,e2⟩:=hy
 subst e1
 have e3:=e2 xs q1
 rw [h1] at e3
 cases e3
 exact ⟨Ext.rfl',R,h2⟩
theorem rngD_len (lo:Int) (n:Nat):(rngD lo n).length=n:=by unfold rngD;rw [List.length_map,List.length_range]
theorem yl_rng {lo:Int} {n:Nat}:Yl K (Itr lo n) (rngD lo n) H0 N0:=fun i H N e R=>by
 refine ⟨fun hi=>by rw [rngD_len] at hi;exact hi,fun d hd=>?_⟩
 have hi:i < n:=by
  have q:=(List.getElem?_eq_some_iff.mp hd).1
  rw [rngD_len] at q
  exact q
 refine ⟨hi,fun x H' hy=>?_⟩
 obtain ⟨e1,e2⟩:=hy
 subst e1
 subst e2
 unfold rngD at hd
 rw [List.getElem?_map,List.getElem?_range hi] at hd
 cases hd
 exact ⟨Ext.rfl',R,rfl⟩
theorem yl_str {x:Str}:Yl K (Its x) (sgnD x) H0 N0:=fun i H N e R=>by
 refine ⟨fun hi=>by unfold sgnD at hi;rw [List.length_map,Array.length_toList] at hi;exact hi,fun d hd=>?_⟩
 unfold sgnD at hd
 rw [List.getElem?_map,Array.getElem?_toList] at hd
 cases q:x.cps[i]? with
 | none=>rw [q] at hd;cases hd
 | some c=>
  rw [q] at hd
  cases hd
  refine ⟨(Array.getElem?_eq_some_iff.mp q).1,fun v H' hy=>?_⟩
  obtain ⟨e1,c',e2,e3⟩:=hy
  subst e1
  subst e3
  rw [q] at e2
  cases e2
  exact ⟨Ext.rfl',R,rfl⟩
theorem pair_new {H:Hp} {N:Mem} (R:RelM K H N) {T:Addr} {d e:D} {x y:V} (hT:H T=none) (h1:DV K H N d x) (h2:DV K H N e y):
  Ext H N (upd H T (.tup [x,y])) N∧RelM K (upd H T (.tup [x,y])) N∧DV K (upd H T (.tup [x,y])) N (.tup [d,e]) (.ref T):=by
 have e':=new_ext R (o:=HO.tup [x,y]) hT
 exact ⟨e',new_rel R hT,T, [x,y],rfl,SqT.of upd_same,_,_,rfl,DV.ext R e' _ _ h1,_,_,rfl,DV.ext R e' _ _ h2,rfl⟩
theorem zip_get {xs ys:List D} {i:Nat} {d:D} (h:(zipD xs ys)[i]?=some d):∃x y,xs[i]?=some x∧ys[i]?=some y∧d= .tup [x,y]:=by
 unfold zipD at h
 rw [List.getElem?_zipWith] at h
 cases q:xs[i]? with
 | none=>rw [q] at h;cases h
 | some x=>
  rw [q] at h
  cases q2:ys[i]? with
  | none=>rw [q2] at h;cases h
  | some y=>
   rw [q2] at h
   cases h
   exact ⟨x,y,rfl,rfl,rfl⟩
theorem zip_len {xs ys:List D} {i:Nat} (h:(zipD xs ys).length≤i):xs.length≤i∨ys.length≤i:=by
 unfold zipD at h
 rw [List.length_zipWith] at h
 omega
theorem yl_zipL {a b:Addr} {ds es:List D} {xs ys:List V} (R0:RelM K H0 N0) (h:H0 a=some (.lst xs)) (m:N0 a=none) (dv:DVs K H0 N0 ds xs) (h':H0 b=some (.lst ys)) (m':N0 b=none) (dv':DVs K H0 N0 es ys):
  Yl K (Itz K a b) (zipD ds es) H0 N0:=fun i H N e R=>by
 obtain ⟨q1,_⟩:=e.at h m plain_lst
 obtain ⟨q2,_⟩:=e.at h' m' plain_lst
 refine ⟨fun hi=>⟨xs,ys,SqL.of q1,SqL.of q2,by rw [dv.len,dv'.len];exact zip_len hi⟩,fun d hd=>?_⟩
 obtain ⟨u,v,g1,g2,g3⟩:=zip_get hd
 subst g3
 obtain ⟨x,h1,h2⟩:=(DVs.ext R0 e _ _ dv).get g1
 obtain ⟨y,k1,k2⟩:=(DVs.ext R0 e _ _ dv').get g2
 refine ⟨⟨xs,ys,x,y,SqL.of q1,SqL.of q2,h1,k1⟩,fun z H' hy=>?_⟩
 obtain ⟨T,x',y',e1,e2,e3,e4,e5⟩:=hy
 subst e1
 subst e3
 have f1:=e4 xs (SqL.of q1)
 have f2:=e5 ys (SqL.of q2)
 rw [h1] at f1
 rw [k1] at f2
 cases f1
 cases f2
 exact pair_new R e2 h2 k2
theorem yl_zipT {a b:Addr} {ds es:List D} {xs ys:List V} (R0:RelM K H0 N0) (h:SqT K H0 a xs) (dv:DVs K H0 N0 ds xs) (h':SqT K H0 b ys) (dv':DVs K H0 N0 es ys):
  Yl K (ItzT K a b) (zipD ds es) H0 N0:=fun i H N e R=>by
 have q1:=SqT.ext R0 e h
 have q2:=SqT.ext R0 e h'
 refine ⟨fun hi=>⟨xs,ys,q1,q2,by rw [dv.len,dv'.len];exact zip_len hi⟩,fun d hd=>?_⟩
 obtain ⟨u,v,g1,g2,g3⟩:=zip_get hd
 subst g3
 obtain ⟨x,h1,h2⟩:=(DVs.ext R0 e _ _ dv).get g1
 obtain ⟨y,k1,k2⟩:=(DVs.ext R0 e _ _ dv').get g2
 refine ⟨⟨xs,ys,x,y,q1,q2,h1,k1⟩,fun z H' hy=>?_⟩
 obtain ⟨T,x',y',e1,e2,e3,e4,e5⟩:=hy
 subst e1
 subst e3
 have f1:=e4 xs q1
 have f2:=e5 ys q2
 rw [h1] at f1
 rw [k1] at f2
 cases f1
 cases f2
 exact pair_new R e2 h2 k2
end
def frzSeq:D→Option (List D)
 | .lst xs=>some xs
 | .tup xs=>some xs
 | _=>none
def wiSeq (we:WE):WI:=fun ds M Q Xc=>we ds M (fun d M1=>optK (frzSeq d) fun xs=>Q xs M1) Xc
def wiStr (we:WE):WI:=fun ds M Q Xc=>we ds M (fun d M1=>match d with | .str x=>Q (sgnD x) M1 | _=>False) Xc
def wiRng1 (wa:WA):WI:=fun ds M Q Xc=>wa ds M (fun es M1=>match es with | [.int j]=>(-(2 ^ 62)≤j∧j < 2 ^ 62)∧Q (rngD 0 j.toNat) M1 | _=>False) Xc
def wiRng2 (wa:WA):WI:=fun ds M Q Xc=>wa ds M (fun es M1=>match es with | [.int i, .int j]=>(-(2 ^ 62)≤i∧i < 2 ^ 62∧ -(2 ^ 62)≤j∧j < 2 ^ 62)∧Q (rngD i (j - i).toNat) M1 | _=>False) Xc
def wiEnum (wa:WA):WI:=fun ds M Q Xc=>wa ds M (fun es M1=>match es with | [.lst xs]=>Q (enumD xs) M1 | _=>False) Xc
def wiZip (wa:WA):WI:=fun ds M Q Xc=>wa ds M (fun es M1=>match es with | [.lst xs, .lst ys]=>Q (zipD xs ys) M1 | [.tup xs, .tup ys]=>Q (zipD xs ys) M1 | _=>False) Xc
section
variable {X : Cx} {W : WX} {tg l a b : Expr} {we : WE} {wa : WA} {p pos : Pos}
theorem pi_mono {iter:Expr} {t t':TI} (h:PI X tg iter t) (i:∀σ H R,t' σ H R→t σ H R):PI X tg iter t':=⟨fun pins s σ H R I hw=>h.run pins s σ H R I (i σ H R hw)⟩
theorem pi_any {tl:TE} (hl:PE X l tl):PI X tg l (fun σ H R=>tl σ H fun x H1=>∃a,x=V.ref a∧(((∃xs,SqL X.K H1 a xs)∧R (Itl X.K a) H1)∨((∃xs,SqT X.K H1 a xs)∧R (Itt X.K a) H1))):=by
 refine ⟨fun pins s σ H R I h=>?_⟩
 refine thn (hl.run pins s σ H _ I h) ?_
 rintro v s1 ⟨x,H1,I1,r1,a,rfl,q⟩
 cases r1
 have fresh:=I1.hok.fresh (Nat.le_refl s1.heap.objs.size)
 rcases q with ⟨⟨xs,hq⟩,q⟩ | ⟨⟨xs,hq⟩,q⟩
 ·obtain ⟨its,rv,pl,_⟩:=I1.list hq
  refine wpAny_pyIter_list pl.isList ⟨_, [s1.heap.objs.size],_,_,H1,rfl,I1.kept (t':=s1.toks) (fun b o e=>Heap.get?_push_of_some _ e),turn_list a _,⟨_,Heap.get?_push_size _ rfl,rfl,rfl⟩,?_,q⟩
  intro b hb
  rw [List.mem_singleton.mp hb]
  exact I1.fpOk (Nat.le_refl _) fresh
 ·obtain ⟨its,rv,pt,_⟩:=I1.tuple hq
  have pt':s1.heap.IsTuple a its.toArray:=pt
  refine wpAny_pyIter_tuple pt' ⟨_, [s1.heap.objs.size],_,_,H1,rfl,I1.kept (t':=s1.toks) (fun b o e=>Heap.get?_push_of_some _ e),turn_tuple a _,⟨_,Heap.get?_push_size _ rfl,rfl,rfl⟩,?_,q⟩
  intro b hb
  rw [List.mem_singleton.mp hb]
  exact I1.fpOk (Nat.le_refl _) fresh
theorem ji_seq (h:JE X W l we):JI X W tg l (wiSeq we):=pi_mono (pi_any h) fun σ H R h=>by
 obtain ⟨ds,M,F,Qd,Xd,hs,hw,l1,l2⟩:=h
 refine ⟨ds,M,F,_,Xd,hs,rfl,hw,fun v H' d M' e r dv q=>?_,l2⟩
 obtain ⟨xs,q1,q⟩:=optK_of q
 cases d <;> first | cases q1 | skip
 ·obtain ⟨a,ys,e1,g1,g2⟩:=dv
  exact ⟨a,e1, .inr ⟨⟨ys,g1⟩,l1 _ H' _ M' e r (yl_tup r.rel g1 g2) q⟩⟩
 ·obtain ⟨a,ys,e1,g1,gm,g2⟩:=dv
  exact ⟨a,e1, .inl ⟨⟨ys,SqL.of g1⟩,l1 _ H' _ M' e r (yl_list r.rel g1 gm g2) q⟩⟩
theorem ji_str (h:JE X W l we):JI X W tg l (wiStr we):=pi_mono (pi_str h) fun σ H R h=>by
 obtain ⟨ds,M,F,Qd,Xd,hs,hw,l1,l2⟩:=h
 refine ⟨ds,M,F,_,Xd,hs,rfl,hw,fun v H' d M' e r dv q=>?_,l2⟩
 cases d <;> first | exact q.elim | skip
 rename_i x
 exact ⟨x,dv,l1 _ H' _ M' e r yl_str q⟩
theorem ji_rng1 (hm:X.mg "range"=none) (ha:JA X W [a] wa) (hg:Gl X "range":=by rfl) (hs:starEach [a] X.env= [(false,eval a X.env)]:=by rfl):JI X W tg (.Call (.Name "range" p) [a] [] pos) (wiRng1 wa):=pi_mono (pi_range1 hg hm ha hs) fun σ H R h=>by
 obtain ⟨ds,M,F,Qd,Xd,hs,hw,l1,l2⟩:=h
 refine ⟨ds,M,F,_,Xd,hs,rfl,hw,fun v H' d M' e r dv q=>?_,l2⟩
 dsimp only at q
 split at q
 ·rename_i j
  obtain ⟨x,e1,g⟩:=dv1 dv
  subst e1
  cases (show x= .int j from g)
  exact ⟨j,rfl,q.1.1,q.1.2,l1 _ H' _ M' e r yl_rng q.2⟩
 ·exact q.elim
variable {elts : List Expr} {kk : Nat} {tpos : Pos}
theorem ji_zip (hm:X.mg "zip"=none) (ha:JA X W [a,b] wa) (hg:Gl X "zip":=by rfl) (hs:starEach [a,b] X.env=(false,eval a X.env) :: starEach [b] X.env:=by rfl) (hpl:(backTo pos (starEach [b] X.env)).any (·.1)=false:=by rfl):
  JI X W (.Tuple elts kk tpos) (.Call (.Name "zip" p) [a,b] [] pos) (wiZip wa):=pi_mono (pi_zipA hg hm ha hs hpl) fun σ H R h=>by
 obtain ⟨ds,M,F,Qd,Xd,hs,hw,l1,l2⟩:=h
 refine ⟨ds,M,F,_,Xd,hs,rfl,hw,fun v H' d M' e r dv q=>?_,l2⟩
 dsimp only at q
 split at q
 ·obtain ⟨x,y,e1,g,g'⟩:=dv2 dv
  subst e1
  obtain ⟨c,ys,e2,g1,gm,g2⟩:=g
  obtain ⟨c',ys',e2',g1',gm',g2'⟩:=g'
  subst e2
  subst e2'
  exact ⟨c,c',ys,ys',rfl, .inl ⟨SqL.of g1,SqL.of g1',l1 _ H' _ M' e r (yl_zipL r.rel g1 gm g2 g1' gm' g2') q⟩⟩
 ·obtain ⟨x,y,e1,g,g'⟩:=dv2 dv
  subst e1
  obtain ⟨c,ys,e2,g1,g2⟩:=g
  obtain ⟨c',ys',e2',g1',g2'⟩:=g'
  subst e2
  subst e2'
  exact ⟨c,c',ys,ys',rfl, .inr ⟨g1,g1',l1 _ H' _ M' e r (yl_zipT r.rel g1 g2 g1' g2') q⟩⟩
 ·exact q.elim
end
end DL
namespace DL
open PySem PySem.Spec PyProof.Rows L2 RZ
def WF:WX:=fun _ _ _ _=>False
def XF:KX:=fun _ _=>False
def wipeD (ds:SD):List Nat→SD
 | []=>ds
 | v :: vs=>(wipeD ds vs).set v none
def lcR (g:GD) (tt:WT) (te:WE) (ds:SD):List D→List D→Mem→(List D→Mem→Prop)→Prop
 | [],acc,M,k=>k acc M
 | d :: items,acc,M,k=>g d ds fun ds2=>tt ds2 M (fun b M1=>if b=true then te ds2 M1 (fun y M2=>acc.length < sizeLine∧lcR g tt te ds items (acc ++ [y]) M2 k) XF else lcR g tt te ds items acc M1 k) XF
def wLc (wi:WI) (g:GD) (tt:WT) (te:WE) (vs:List Nat):WE:=fun ds M Q Xc=>wi ds M (fun items M1=>lcR g tt te (wipeD ds vs) items [] M1 fun ys M2=>Q (.lst ys) M2) Xc
def wLcO (wi:WI) (g:GD) (tt:WT) (te:WE) (vs:List Nat):WE:=fun ds M Q Xc=>wi ds M (fun items M1=>lcR g tt te (wipeD ds vs) items [] M1 fun ys M2=>∀a,M2 a=none→Q (.ref a) (mput M2 a (.lst ys))) Xc
def wYes:WT:=fun _ M Q _=>Q true M
section
variable {K : PySem.W.Frag} {H H' : Hp} {M M' F N N' : Mem} {σ : L2.St} {ds : SD}
theorem Ext.down {N'':Mem} (e:Ext H N H' N') (d:∀a,N' a=none→N'' a=none):Ext H N H' N'':=fun a o h m n=>by
 obtain ⟨q1,q2⟩:=e a o h m n
 exact ⟨q1,d a q2⟩
mutual
theorem DV.down (e:∀a,N a=none→N' a=none):∀(d:D) (v:V),DV K H N d v→DV K H N' d v
 | .non,v,h=>h
 | .bl b,v,h=>h
 | .int i,v,h=>h
 | .str x,v,h=>h
 | .ty n,v,h=>h
 | .ref a,v,h=>h
 | .tup ds,v,h=>by
  obtain ⟨a,xs,h1,h2,h3⟩:=h
  exact ⟨a,xs,h1,h2,DVs.down e ds xs h3⟩
 | .lst ds,v,h=>by
  obtain ⟨a,xs,h1,h2,h3,h4⟩:=h
  exact ⟨a,xs,h1,h2,e a h3,DVs.down e ds xs h4⟩
 | .dct ks ds,v,h=>by
  obtain ⟨a,kvs,h1,h2,h3,h4,h5⟩:=h
  exact ⟨a,kvs,h1,h2,e a h3,h4,DVs.down e ds _ h5⟩
 | .dtt ks ds,v,h=>by
  obtain ⟨a,kvs,h1,h2,h3,h4,h5⟩:=h
  exact ⟨a,kvs,h1,h2,e a h3,h4,DVs.down e ds _ h5⟩
 | .ins C ns ds,v,h=>by
  obtain ⟨a,dx,fs,h1,h2,h3,h4,h5⟩:=h
  exact ⟨a,dx,fs,h1,h2,e a h3,h4,DVs.down e ds _ h5⟩
 | .scr ns,v,h=>h
 | .exc a dd C ns ds,v,h=>by
  obtain ⟨h1,fs,h2,h3,h4,h5⟩:=h
  exact ⟨h1,fs,h2,e _ h3,h4,DVs.down e ds _ h5⟩
 | .tpn ds,v,h=>by
  obtain ⟨a,xs,o,h1,h2,h3,h4⟩:=h
  exact ⟨a,xs,o,h1,h2,h3,DVs.down e ds xs h4⟩
theorem DVs.down (e:∀a,N a=none→N' a=none):∀(ds:List D) (xs:List V),DVs K H N ds xs→DVs K H N' ds xs
 | [],xs,h=>h
 | d :: ds,xs,h=>by
  obtain ⟨y,ys,h1,h2,h3⟩:=h
  exact ⟨y,ys,h1,DV.down e d y h2,DVs.down e ds ys h3⟩
end
theorem RelM.down (R:RelM K H N) (e:∀a o,N' a=some o→N a=some o):RelM K H N':=fun a o h=>by
 have e':∀b,N b=none→N' b=none:=fun b hb=>by
  cases q:N' b with
  | none=>rfl
  | some u=>rw [e b u q] at hb;cases hb
 have q:=R a o (e a o h)
 cases o with
 | lst ds=>obtain ⟨xs,h1,h2⟩:=q;exact ⟨xs,h1,DVs.down e' ds xs h2⟩
 | dct ks ds=>obtain ⟨kvs,h1,h2,h3⟩:=q;exact ⟨kvs,h1,h2,DVs.down e' ds _ h3⟩
 | dtt ks ds=>obtain ⟨kvs,h1,h2,h3⟩:=q;exact ⟨kvs,h1,h2,DVs.down e' ds _ h3⟩
 | ins C ns ds=>obtain ⟨dx,fs,h1,h2,h3⟩:=q;exact ⟨dx,fs,h1,h2,DVs.down e' ds _ h3⟩
 | tab q'=>
  obtain ⟨ps,h1,h2,h3⟩:=q
  refine ⟨ps,h1,h2,fun pos cv hc=>?_⟩
  obtain ⟨c,e1,e2,e3⟩:=h3 pos cv hc
  exact ⟨c,e1,e2,e' _ e3⟩
theorem uni_frame {D:Addr} {o:MO}:uni M (mput F D o)=mput (uni M F) D o:=by
 funext b
 unfold uni mput
 by_cases e:b=D
 ·simp [e]
 ·simp [e]
theorem Sl.ext (R:RelM K H N) (S:Sl K H N σ ds) (e:Ext H N H' N'):Sl K H' N' σ ds:=⟨S.1,fun i d h=>by
 obtain ⟨v,h1,h2⟩:=S.2 i d h
 exact ⟨v,h1,DV.ext R e d v h2⟩⟩
theorem wipeD_len (ds:SD):∀vs:List Nat,(wipeD ds vs).length=ds.length
 | []=>rfl
 | v :: vs=>by unfold wipeD;rw [List.length_set,wipeD_len ds vs]
theorem wipeD_some {i:Nat} {x:D}:∀{vs:List Nat},(wipeD ds vs)[i]?=some (some x)→ds[i]?=some (some x)∧i∉vs
 | [],h=>⟨h,by simp⟩
 | v :: vs,h=>by
  unfold wipeD at h
  by_cases hi:v=i
  ·subst hi
   by_cases hv:v < (wipeD ds vs).length
   ·rw [List.getElem?_set_self hv] at h;cases h
   ·rw [List.getElem?_eq_none (by rw [List.length_set];omega)] at h;cases h
  ·rw [List.getElem?_set_ne hi] at h
   obtain ⟨h1,h2⟩:=wipeD_some h
   exact ⟨h1,fun z=>by rcases List.mem_cons.mp z with q | q;exact hi q.symm;exact h2 q⟩
theorem Sl.wipe (S:Sl K H N σ ds) (vs:List Nat):Sl K H N (L2.wipe σ vs) (wipeD ds vs):=⟨by rw [wipeD_len,wipe_length];exact S.1,fun i d h=>by
 obtain ⟨h1,h2⟩:=wipeD_some h
 rw [wipe_out h2]
 exact S.2 i d h1⟩
theorem wipe_wipe (σ:L2.St) (vs:List Nat):wipe (wipe σ vs) vs=wipe σ vs:=wipe_eq (wipe_length _ _) fun i hi=>wipe_out hi
theorem lc_run {W:WX} {wi:WI} {g:GD} {tt:WT} {te:WE} {vs is:List Nat} {Q:VK} {k:(D→Mem→Prop)→List D→Mem→Prop}
  (hin:∀i∈is,i∈vs)
  (hk:∀(Qd:D→Mem→Prop) (acc:List D) (M:Mem) (F:Mem) (H0:Hp) (M0:Mem) (H:Hp) (Dd:Addr),LkG K F (rE K) H0 M0 Qd Q→F Dd=none→Ext H0 (uni M0 F) H (uni M (mput F Dd (.lst acc)))→Rm K H M (mput F Dd (.lst acc))→k Qd acc M→Q (.ref Dd) H)
  (h:lift K W (rE K) [] [] (fun ds M Q Xc=>wi ds M (fun items M1=>lcR g tt te (wipeD ds vs) items [] M1 fun ys M2=>k Q ys M2) Xc) σ H Q):
  tLc (liftI K W wi) (liftG K is g) (liftT K WF tt) (liftE K WF te) vs σ H Q:=by
 obtain ⟨ds,M,F,Qd,Xd,hs,_,hw,l1,l2⟩:=h
 refine ⟨ds,M,F,_,Xd,hs,hw,fun J H1 items M1 e1 r1 yl q=>fun D hD=>?_,l2⟩
 have hF:F D=none:=(uni_none (r1.rel.free hD)).1
 have S1:Sl K H1 (uni M1 F) σ ds:=Sl.ext hs.1.rel hs.2 e1
 refine ⟨fun i m H'=>m=items.length - i∧i≤items.length∧∃M' acc,Rm K H' M' (mput F D (.lst acc))∧Ext H1 (uni M1 F) H' (uni M' (mput F D (.lst acc)))∧lcR g tt te (wipeD ds vs) (items.drop i) acc M' fun ys M2=>k Qd ys M2,
  ⟨items.length,rfl,Nat.zero_le _,M1, [],⟨?_,fun a o ha=>?_⟩,?_,q⟩,?_⟩
 ·rw [uni_frame]
  exact own_rel r1.rel hD ⟨[],upd_same,rfl⟩
 ·by_cases hz:a=D
  ·subst hz
   exact r1.mfree hD
  ·rw [mput_ne hz] at ha
   exact r1.dj a o ha
 ·rw [uni_frame]
  exact own_ext r1.rel hD
 ·rintro i m H' ⟨rfl,hi,M',acc,R',X',lc⟩
  have hDM:M' D=none:=R'.dj D _ mput_same
  have hDu:uni M' (mput F D (.lst acc)) D=some (.lst acc):=by rw [uni_frame,mput_same]
  by_cases hlt:i < items.length
  ·have hget:items[i]?=some items[i]:=List.getElem?_eq_getElem hlt
   obtain ⟨go,hy⟩:=(yl i H' _ X' R'.rel).2 _ hget
   refine .inr ⟨go,fun H''=>∃M' acc,Rm K H'' M' (mput F D (.lst acc))∧Ext H1 (uni M1 F) H'' (uni M' (mput F D (.lst acc)))∧lcR g tt te (wipeD ds vs) (items.drop (i + 1)) acc M' fun ys M2=>k Qd ys M2,
    fun H'' hn=>⟨items.length - (i + 1),by omega,rfl,hlt,hn⟩,fun x H'' hyl=>?_⟩
   obtain ⟨x1,x2,x3⟩:=hy x H'' hyl
   rw [List.drop_eq_getElem_cons hlt] at lc
   refine ⟨items[i],wipeD ds vs,_,_,x2,(Sl.ext r1.rel S1 (X'.trans x1)).wipe vs,x3,lc,fun σ' ds' S' P' q'=>⟨by rw [P' vs hin,wipe_wipe],?_⟩⟩
   refine ⟨ds',M',mput F D (.lst acc),_,XF,⟨⟨x2,R'.dj⟩,S'⟩,rfl,q',fun b' H3 b M3 e3 r3 rb q3=>?_,fun _ _ _ _ _ _ _ _ z=>z.elim⟩
   have rb':b'=b:=rb
   subst rb'
   have X3:=(X'.trans x1).trans e3
   dsimp only at q3 ⊢
   cases b' with
   | false=>
    rw [if_neg Bool.false_ne_true] at q3 ⊢
    exact ⟨M3,acc,r3,X3,q3⟩
   | true=>
    rw [if_pos rfl] at q3 ⊢
    refine ⟨ds',M3,mput F D (.lst acc),_,XF,⟨r3,Sl.ext x2 S' e3⟩,rfl,q3,fun y H4 dy M4 e4 r4 dvy q4=>?_,fun _ _ _ _ _ _ _ _ z=>z.elim⟩
    obtain ⟨q4,q5⟩:=q4
    have hDu4:uni M4 (mput F D (.lst acc)) D=some (.lst acc):=by rw [uni_frame,mput_same]
    obtain ⟨xs,hx1,hx2⟩:=r4.rel D _ hDu4
    refine ⟨xs,hx1,by rw [hx2.len];exact q4,M4,acc ++ [dy],⟨?_,fun a o ha=>?_⟩,?_,q5⟩
    ·have e5:uni M4 (mput F D (.lst (acc ++ [dy])))=mput (uni M4 (mput F D (.lst acc))) D (.lst (acc ++ [dy])):=by rw [uni_frame,uni_frame,mput_mput]
     rw [e5]
     have xx:=set_ext (H:=H4) (o:=HO.lst (xs ++ [y])) (u:=MO.lst (acc ++ [dy])) hDu4
     exact set_rel r4.rel hDu4 ⟨xs ++ [y],upd_same,DVs.app (DVs.ext r4.rel xx _ _ hx2) ⟨y, [],rfl,DV.ext r4.rel xx _ _ dvy,rfl⟩⟩
    ·by_cases hz:a=D
     ·subst hz
      exact r4.dj a _ mput_same
     ·rw [mput_ne hz] at ha
      exact r4.dj a o (by rw [mput_ne hz];exact ha)
    ·have e5:uni M4 (mput F D (.lst (acc ++ [dy])))=mput (uni M4 (mput F D (.lst acc))) D (.lst (acc ++ [dy])):=by rw [uni_frame,uni_frame,mput_mput]
     rw [e5]
     exact (X3.trans e4).trans (set_ext hDu4)
  ·have e:i=items.length:=by omega
   subst e
   refine .inl ⟨(yl _ H' _ X' R'.rel).1 (Nat.le_refl _),?_⟩
   rw [List.drop_length] at lc
   exact hk Qd acc M' F H1 M1 H' D (l1.ext e1) hF X' R' lc
theorem lc_frz {W:WX} {wi:WI} {g:GD} {tt:WT} {te:WE} {vs is:List Nat} {Q:VK} (hin:∀i∈is,i∈vs) (h:liftE K W (wLc wi g tt te vs) σ H Q):
  tLc (liftI K W wi) (liftG K is g) (liftT K WF tt) (liftE K WF te) vs σ H Q:=
 lc_run (k:=fun Qd acc M=>Qd (.lst acc) M) hin (fun Qd acc M F H0 M0 H Dd l hF X' R' q=>by
  have hDM:M Dd=none:=R'.dj Dd _ mput_same
  have hDu:uni M (mput F Dd (.lst acc)) Dd=some (.lst acc):=by rw [uni_frame,mput_same]
  have dn:∀a,uni M (mput F Dd (.lst acc)) a=none→uni M F a=none:=fun a ha=>by
   rw [uni_frame] at ha
   by_cases hz:a=Dd
   ·subst hz
    rw [mput_same] at ha
    cases ha
   ·rw [mput_ne hz] at ha
    exact ha
  have up:∀a o,uni M F a=some o→uni M (mput F Dd (.lst acc)) a=some o:=fun a o ha=>by
   rw [uni_frame,mput_ne]
   ·exact ha
   ·intro z
    subst z
    rw [uni_get hF,hDM] at ha
    cases ha
  obtain ⟨xs,hx1,hx2⟩:=R'.rel Dd _ hDu
  refine l (.ref Dd) H (.lst acc) M (X'.down dn) ⟨R'.rel.down up,fun a o ha=>?_⟩ ⟨Dd,xs,rfl,hx1,by rw [uni_get hF];exact hDM,DVs.down dn _ _ hx2⟩ q
  have hz:a≠Dd:=fun z=>by subst z;rw [hF] at ha;cases ha
  exact R'.dj a o (by rw [mput_ne hz];exact ha)) h
theorem lc_own {W:WX} {wi:WI} {g:GD} {tt:WT} {te:WE} {vs is:List Nat} {Q:VK} (hin:∀i∈is,i∈vs) (h:liftE K W (wLcO wi g tt te vs) σ H Q):
  tLc (liftI K W wi) (liftG K is g) (liftT K WF tt) (liftE K WF te) vs σ H Q:=
 lc_run (k:=fun Qd acc M=>∀a,M a=none→Qd (.ref a) (mput M a (.lst acc))) hin (fun Qd acc M F H0 M0 H Dd l hF X' R' q=>by
  have hDM:M Dd=none:=R'.dj Dd _ mput_same
  have e:uni (mput M Dd (.lst acc)) F=uni M (mput F Dd (.lst acc)):=by rw [uni_put hF,uni_frame]
  refine l (.ref Dd) H (.ref Dd) (mput M Dd (.lst acc)) (by rw [e];exact X') ⟨by rw [e];exact R'.rel,fun a o ha=>?_⟩ rfl (q Dd hDM)
  have hz:a≠Dd:=fun z=>by subst z;rw [hF] at ha;cases ha
  rw [mput_ne hz]
  exact R'.dj a o (by rw [mput_ne hz];exact ha)) h
end
section
variable {X : Cx} {W : WX} {elt tg iter c : Expr} {ifs : List Expr} {scope : Scope} {own : List (Str × Nat)} {pos : Pos} {wi : WI} {g : GD} {tt : WT} {te : WE} {is : List Nat}
abbrev JTs (X:Cx) (W:WX) (ifs:List Expr) (t:WT):Prop:=PTs X ifs (liftT X.K W t)
theorem pts_mono {t t':TT} (h:PTs X ifs t) (i:∀σ H Q,t' σ H Q→t σ H Q):PTs X ifs t':=⟨fun pins s σ H Q I hw=>h.run pins s σ H Q I (i σ H Q hw)⟩
theorem jts_nil:JTs X W [] wYes:=pts_mono pts_nil fun σ H Q h=>finB (b:=true) h
theorem j_lc (hc:X.calm=true) (hN:X.N.Nodup) (hi:JI X W tg iter wi) (ok:BlkOk X.N X.env.scope scope own)
  (hg:∀(s:Shared) (H:Hp) (C:Addr) (cl:List (Str×Addr)) (fp:List Addr),JG (X.blk s H scope (compEnvC scope cl C X.env) fp) tg is g) (ht:∀(s:Shared) (H:Hp) (C:Addr) (cl:List (Str×Addr)) (fp:List Addr),JTs (X.blk s H scope (compEnvC scope cl C X.env) fp) WF ifs tt)
  (he:∀(s:Shared) (H:Hp) (C:Addr) (cl:List (Str×Addr)) (fp:List Addr),JE (X.blk s H scope (compEnvC scope cl C X.env) fp) WF elt te) (hin:∀i∈is,i∈own.map (·.2):=by decide) (hs:∀x,foldedSetIterable iter X.env x=pure x:=by intro _;rfl):
  JE X W (.ListComp elt [⟨tg,iter,ifs,0⟩] scope pos) (wLc wi g tt te (own.map (·.2))):=
 pe_mono (pe_lc hc hN hi ok hg ht he hs) fun σ H Q h=>lc_frz hin h
theorem j_lcO (hc:X.calm=true) (hN:X.N.Nodup) (hi:JI X W tg iter wi) (ok:BlkOk X.N X.env.scope scope own)
  (hg:∀(s:Shared) (H:Hp) (C:Addr) (cl:List (Str×Addr)) (fp:List Addr),JG (X.blk s H scope (compEnvC scope cl C X.env) fp) tg is g) (ht:∀(s:Shared) (H:Hp) (C:Addr) (cl:List (Str×Addr)) (fp:List Addr),JTs (X.blk s H scope (compEnvC scope cl C X.env) fp) WF ifs tt)
  (he:∀(s:Shared) (H:Hp) (C:Addr) (cl:List (Str×Addr)) (fp:List Addr),JE (X.blk s H scope (compEnvC scope cl C X.env) fp) WF elt te) (hin:∀i∈is,i∈own.map (·.2):=by decide) (hs:∀x,foldedSetIterable iter X.env x=pure x:=by intro _;rfl):
  JE X W (.ListComp elt [⟨tg,iter,ifs,0⟩] scope pos) (wLcO wi g tt te (own.map (·.2))):=
 pe_mono (pe_lc hc hN hi ok hg ht he hs) fun σ H Q h=>lc_own hin h
end
end DL
namespace DL
open PySem PySem.Spec PyProof.Rows L2 RZ
structure ED where
 nx:SD→Mem→Prop
 rt:KN
 bk:SD→Mem→Prop:=fun _ _=>False
 ct:SD→Mem→Prop:=fun _ _=>False
 ex:Exn→SD→Mem→Prop
abbrev WS:=ED→SD→Mem→Prop
abbrev ED.xc (E:ED) (ds:SD):KX:=fun x M=>E.ex x ds M
structure LkS (K:PySem.W.Frag) (F:Mem) (H:Hp) (M:Mem) (E:ED) (D:Ends) (W:WX):Prop where
 nx:∀σ' H' ds' M',Ext H (uni M F) H' (uni M' F)→RelS K F σ' H' ds' M'→E.nx ds' M'→D.nx σ' H'
 rt:LkG K F (rE K) H M E.rt D.rt
 bk:∀σ' H' ds' M',Ext H (uni M F) H' (uni M' F)→RelS K F σ' H' ds' M'→E.bk ds' M'→D.bk σ' H'
 ct:∀σ' H' ds' M',Ext H (uni M F) H' (uni M' F)→RelS K F σ' H' ds' M'→E.ct ds' M'→D.ct σ' H'
 ex:∀cls dc σ' H' x ds' M',Ext H (uni M F) H' (uni M' F)→RelS K F σ' H' ds' M'→ExV K H' (uni M' F) cls dc x→E.ex x ds' M'→W cls dc σ' H'
def liftS (K:PySem.W.Frag) (W:WX) (es:List D) (vs:List V) (w:WS):TS:=fun D σ H=>
 ∃ds M F E,RelS K F σ H ds M∧DVs K H (uni M F) es vs∧w E ds M∧LkS K F H M E D W
abbrev JS (X:Cx) (W:WX) (st:Stmt) (w:WS):Prop:=PS X st (liftS X.K W [] [] w)
abbrev JSs (X:Cx) (W:WX) (sts:List Stmt) (w:WS):Prop:=PSs X sts (liftS X.K W [] [] w)
section
variable {K : PySem.W.Frag} {W : WX} {H H' : Hp} {M M' F : Mem} {σ : L2.St} {ds : SD} {E : ED} {D' : Ends} {es : List D} {vs : List V}
theorem LkS.ext (l:LkS K F H M E D' W) (e:Ext H (uni M F) H' (uni M' F)):LkS K F H' M' E D' W:=
 ⟨fun a b c d e2=>l.nx a b c d (e.trans e2),fun a b c d e2=>l.rt a b c d (e.trans e2),fun a b c d e2=>l.bk a b c d (e.trans e2),fun a b c d e2=>l.ct a b c d (e.trans e2),fun a b c d x y z e2=>l.ex a b c d x y z (e.trans e2)⟩
theorem bindSE {wa:WE} {f:D→WS} {R:V→Hp→Prop} (h:liftS K W es vs (fun E ds M=>wa ds M (fun d M1=>f d E ds M1) (E.xc ds)) D' σ H)
  (k:∀v d H1,liftS K W (d :: es) (v :: vs) (f d) D' σ H1→R v H1):liftE K W wa σ H R:=by
 obtain ⟨ds,M,F,E,hs,hv,hw,l⟩:=h
 exact ⟨ds,M,F,fun d M1=>f d E ds M1,E.xc ds,hs,rfl,hw,fun v H' d M' e r dv q=>k v d H' ⟨ds,M',F,E,hs.ext e r,⟨v,vs,rfl,dv,DVs.ext hs.1.rel e es vs hv⟩,q,l.ext e⟩,
  fun cls dc H' x M' e r dv q=>l.ex cls dc σ H' x ds M' e (hs.ext e r) dv q⟩
theorem bindST {wa:WT} {f:Bool→WS} {R:Bool→Hp→Prop} (h:liftS K W es vs (fun E ds M=>wa ds M (fun d M1=>f d E ds M1) (E.xc ds)) D' σ H)
  (k:∀b H1,liftS K W es vs (f b) D' σ H1→R b H1):liftT K W wa σ H R:=by
 obtain ⟨ds,M,F,E,hs,hv,hw,l⟩:=h
 exact ⟨ds,M,F,fun d M1=>f d E ds M1,E.xc ds,hs,rfl,hw,fun v H' d M' e r dv q=>k v H' ⟨ds,M',F,E,hs.ext e r,DVs.ext hs.1.rel e es vs hv,by rw [show v=d from dv];exact q,l.ext e⟩,
  fun cls dc H' x M' e r dv q=>l.ex cls dc σ H' x ds M' e (hs.ext e r) dv q⟩
end
def wNx:WS:=fun E ds M=>E.nx ds M
def wSeq (t u:WS):WS:=fun E ds M=>t {E with nx:=fun ds' M'=>u E ds' M'} ds M
def wIf (t:WT) (a b:WS):WS:=fun E ds M=>t ds M (fun c M1=>if c=true then a E ds M1 else b E ds M1) (E.xc ds)
def wRet (we:WE):WS:=fun E ds M=>we ds M E.rt (E.xc ds)
def wRetN:WS:=fun E _ M=>E.rt .non M
def wDrop (we:WE):WS:=fun E ds M=>we ds M (fun _ M1=>E.nx ds M1) (E.xc ds)
def wAsg (we:WE) (g:GD):WS:=fun E ds M=>we ds M (fun d M1=>g d ds fun ds2=>E.nx ds2 M1) (E.xc ds)
def wNever:WS:=fun _ _ _=>False
def wBrk:WS:=fun E ds M=>E.bk ds M
def wCnt:WS:=fun E ds M=>E.ct ds M
section
variable {X : Cx} {W : WX} {st : Stmt} {rest : List Stmt} {w u : WS} {e : Expr} {we : WE} {pos : Pos} {t : WT} {a b : List Stmt} {c : Expr}
theorem js_nil:JSs X W [] wNx:=pss_mono pss_nil fun D σ H h=>by
 obtain ⟨ds,M,F,E,hs,_,hw,l⟩:=h
 exact l.nx _ _ ds M Ext.rfl' hs hw
theorem js_brk:JS X W (.Break pos) wBrk:=ps_mono ps_break fun D σ H h=>by
 obtain ⟨ds,M,F,E,hs,_,hw,l⟩:=h
 exact l.bk _ _ ds M Ext.rfl' hs hw
theorem js_cons (h1:JS X W st w) (h2:JSs X W rest u):JSs X W (st :: rest) (wSeq w u):=pss_mono (pss_cons h1 h2) fun D σ H h=>by
 obtain ⟨ds,M,F,E,hs,_,hw,l⟩:=h
 exact ⟨ds,M,F,_,hs,rfl,hw,⟨fun σ' H' ds' M' e r q=>⟨ds',M',F,E,r,rfl,q,l.ext e⟩,l.rt,l.bk,l.ct,l.ex⟩⟩
theorem js_one (h1:JS X W st w):JSs X W [st] w:=pss_one h1
theorem js_if (hc:JT X W c t) (ha:JSs X W a w) (hb:JSs X W b u):JS X W (.If c a b pos) (wIf t w u):=ps_mono (ps_if hc ha hb) fun D σ H h=>
 bindST (wa:=t) (f:=fun c E ds M=>if c=true then w E ds M else u E ds M) h fun k H1 h=>by
  obtain ⟨ds,M,F,E,hs,hv,hw,l⟩:=h
  cases k with
  | true=>
   rw [if_pos rfl]
   exact ⟨ds,M,F,E,hs,hv,DL.ite_tt hw,l⟩
  | false=>
   rw [if_neg Bool.false_ne_true]
   exact ⟨ds,M,F,E,hs,hv,DL.ite_ff hw,l⟩
theorem js_ret (he:JE X W e we):JS X W (.Return (some e) pos) (wRet we):=ps_mono (ps_ret he) fun D σ H h=>
 bindSE (wa:=we) (f:=fun d E _ M=>E.rt d M) h fun v d H1 h=>by
  obtain ⟨ds,M,F,E,hs,hv,hw,l⟩:=h
  obtain ⟨_,_,e1,h1,_⟩:=hv
  cases e1
  exact l.rt v H1 d M Ext.rfl' hs.1 h1 hw
theorem js_expr (he:JE X W e we) (hs:swapsWith e none pos.line X.env=pure false:=by rfl):JS X W (.Expr e pos) (wDrop we):=ps_mono (ps_expr he hs) fun D σ H h=>
 bindSE (wa:=we) (f:=fun _ E ds M=>E.nx ds M) h fun v d H1 h=>by
  obtain ⟨ds,M,F,E,hs,hv,hw,l⟩:=h
  exact l.nx _ _ ds M Ext.rfl' hs hw
theorem jss_never {sts:List Stmt}:JSs X W sts wNever:=pss_mono pss_never fun D σ H h=>by
 obtain ⟨ds,M,F,E,hs,hv,hw,l⟩:=h
 exact hw
theorem asg_run {is:List Nat} {g:GD} {D':Ends} {σ:L2.St} {H:Hp} (h:liftS X.K W [] [] (wAsg we g) D' σ H):tAsg (liftE X.K W we) (liftG X.K is g) D' σ H:=
 bindSE (wa:=we) (f:=fun d E ds M=>g d ds fun ds2=>E.nx ds2 M) h fun v d H1 h=>by
  obtain ⟨ds,M,F,E,hs,hv,hw,l⟩:=h
  obtain ⟨_,_,e1,h1,_⟩:=hv
  cases e1
  exact ⟨d,ds,uni M F,_,hs.1.rel,hs.2,h1,hw,fun σ' ds' S _ q=>l.nx σ' H1 ds' M Ext.rfl' ⟨hs.1,S⟩ q⟩
theorem js_asg {tg:Expr} {is:List Nat} {g:GD} (he:JE X W e we) (hg:JG X tg is g) (hs:swapsWithSole [tg] e pos.line X.env=pure false:=by rfl) (hw:swappedStores [tg] e X.env=pure none:=by rfl)
  (h1:(assignEach [tg] X.env).map (·.2)= [assign tg X.env]:=by rfl):JS X W (.Assign [tg] e pos) (wAsg we g):=ps_mono (ps_asg he hg hs hw h1) fun D σ H h=>asg_run h
theorem js_set {i:Nat} {x:Str} {pos':Pos} (hN:X.N.Nodup) (he:JE X W e we) (hi:X.N[i]?=some x:=by rfl) (hx:Loc X.env.scope x:=by first | exact Or.inl rfl | exact Or.inr rfl) (hs:swapsWith e (some (.Name x pos')) pos.line X.env=pure false:=by rfl) (hf:X.fn x=true∨X.env.scope.names.lookup x=some .local:=by first | exact .inl rfl | exact .inr rfl | assumption):
  JS X W (.Assign [.Name x pos'] e pos) (wAsg we (gN i)):=ps_mono (ps_set hN hi hx he hs hf) fun D σ H h=>
 bindSE (wa:=we) (f:=fun d E ds M=>E.nx (ds.set i (some d)) M) h fun v d H1 h=>by
  obtain ⟨ds,M,F,E,hs,hv,hw,l⟩:=h
  obtain ⟨_,_,e1,h1,_⟩:=hv
  cases e1
  exact l.nx _ H1 _ M Ext.rfl' ⟨hs.1,Sl.set hs.2 h1⟩ hw
variable {elt tg iter : Expr} {ifs : List Expr} {scope : Scope} {own : List (Str × Nat)} {wi : WI} {g : GD} {tt : WT} {te : WE} {is : List Nat} {spos py : Pos}
theorem js_setLc {i:Nat} {y:Str} (hc:X.calm=true) (hN:X.N.Nodup) (hi:JI X W tg iter wi) (ok:BlkOk X.N X.env.scope scope own)
  (hg:∀(s:Shared) (H:Hp) (C:Addr) (cl:List (Str×Addr)) (fp:List Addr),JG (X.blk s H scope (compEnvC scope cl C X.env) fp) tg is g) (ht:∀(s:Shared) (H:Hp) (C:Addr) (cl:List (Str×Addr)) (fp:List Addr),JTs (X.blk s H scope (compEnvC scope cl C X.env) fp) WF ifs tt)
  (he:∀(s:Shared) (H:Hp) (C:Addr) (cl:List (Str×Addr)) (fp:List Addr),JE (X.blk s H scope (compEnvC scope cl C X.env) fp) WF elt te) (hy:X.N[i]?=some y:=by rfl) (hyl:X.env.scope.names.lookup y=some .local:=by rfl)
  (hsw:swapsWith (.ListComp elt [⟨tg,iter,ifs,0⟩] scope pos) (some (.Name y py)) spos.line X.env=pure true:=by exact sw_true rfl rfl rfl (by decide +kernel)) (hin:∀i∈is,i∈own.map (·.2):=by decide) (hs:∀x,foldedSetIterable iter X.env x=pure x:=by intro _;rfl):
  JS X W (.Assign [.Name y py] (.ListComp elt [⟨tg,iter,ifs,0⟩] scope pos) spos) (wAsg (wLc wi g tt te (own.map (·.2))) (gN i)):=
 ps_mono (ps_setLc hc hN hy hyl hsw hi ok hg ht he hs) fun D σ H h=>lc_frz hin <|
  bindSE (wa:=wLc wi g tt te (own.map (·.2))) (f:=fun d E ds M=>E.nx (ds.set i (some d)) M) h fun v d H1 h=>by
   obtain ⟨ds,M,F,E,hs,hv,hw,l⟩:=h
   obtain ⟨_,_,e1,h1,_⟩:=hv
   cases e1
   exact l.nx _ H1 _ M Ext.rfl' ⟨hs.1,Sl.set hs.2 h1⟩ hw
end
def forR (g:GD) (wb:WS) (E:ED):List D→SD→Mem→Prop
 | [],ds,M=>E.nx ds M
 | d :: items,ds,M=>g d ds fun ds2=>wb {E with nx:=fun ds3 M3=>forR g wb E items ds3 M3,ct:=fun ds3 M3=>forR g wb E items ds3 M3,bk:=E.nx} ds2 M
def wFor (wi:WI) (g:GD) (wb:WS):WS:=fun E ds M=>wi ds M (fun items M1=>forR g wb E items ds M1) (E.xc ds)
section
variable {X : Cx} {W : WX} {tg iter : Expr} {body : List Stmt} {pos : Pos} {wi : WI} {g : GD} {wb : WS} {is : List Nat}
theorem js_for (hp:PassesOwn (model X.prog X.w) X.A X.env X.xe) (hc:X.calm=true) (hi:JI X W tg iter wi) (hg:JG X tg is g) (hb:JSs X W body wb)
  (hs:∀x,foldedSetIterable iter X.env x=pure x:=by intro _;rfl):JS X W (.For tg iter body [] pos) (wFor wi g wb):=ps_mono (ps_for hp hc hi hg hb hs) fun D' σ H h=>by
 obtain ⟨ds,M,F,E,hs,_,hw,l⟩:=h
 refine ⟨ds,M,F,fun items M1=>forR g wb E items ds M1,E.xc ds,hs,hw,fun J H1 items M1 e1 r1 yl q=>?_,fun cls dc H' x M' e r dv q=>l.ex cls dc σ H' x ds M' e (hs.ext e r) dv q⟩
 refine ⟨fun i m σ' H'=>m=items.length - i∧i≤items.length∧∃ds' M',RelS X.K F σ' H' ds' M'∧Ext H1 (uni M1 F) H' (uni M' F)∧forR g wb E (items.drop i) ds' M',
  ⟨items.length,rfl,Nat.zero_le _,ds,M1,hs.ext e1 r1,Ext.rfl',q⟩,?_⟩
 rintro i m σ' H' ⟨rfl,hi,ds',M',R',X',q'⟩
 by_cases hlt:i < items.length
 ·obtain ⟨go,hy⟩:=(yl i H' _ X' R'.1.rel).2 _ (List.getElem?_eq_getElem hlt)
  refine .inr ⟨go,fun σ2 H2=>∃ds' M',RelS X.K F σ2 H2 ds' M'∧Ext H1 (uni M1 F) H2 (uni M' F)∧forR g wb E (items.drop (i + 1)) ds' M',fun σ2 H2 hn=>⟨items.length - (i + 1),by omega,rfl,hlt,hn⟩,fun x H2 hyl=>?_⟩
  obtain ⟨x1,x2,x3⟩:=hy x H2 hyl
  rw [List.drop_eq_getElem_cons hlt] at q'
  refine ⟨items[i],ds',uni M' F,_,x2,Sl.ext R'.1.rel R'.2 x1,x3,q',fun σ3 ds3 S3 _ q3=>?_⟩
  have X2:=X'.trans x1
  refine ⟨ds3,M',F,_,⟨⟨x2,R'.1.dj⟩,S3⟩,rfl,q3,⟨fun σ4 H4 ds4 M4 e4 r4 q4=>⟨ds4,M4,r4,X2.trans e4,q4⟩,fun v H4 d M4 e4=>l.rt v H4 d M4 ((e1.trans X2).trans e4),
   fun σ4 H4 ds4 M4 e4 r4 q4=>l.nx σ4 H4 ds4 M4 ((e1.trans X2).trans e4) r4 q4,fun σ4 H4 ds4 M4 e4 r4 q4=>⟨ds4,M4,r4,X2.trans e4,q4⟩,fun cls dc σ4 H4 x ds4 M4 e4=>l.ex cls dc σ4 H4 x ds4 M4 ((e1.trans X2).trans e4)⟩⟩
 ·have e:i=items.length:=by omega
  subst e
  rw [List.drop_length] at q'
  exact .inl ⟨(yl _ H' _ X' R'.1.rel).1 (Nat.le_refl _),l.nx σ' H' ds' M' (e1.trans X') R' q'⟩
end
def wWhile (t:WT) (wb:WS):WS:=fun E ds M=>∃I:Nat→SD→Mem→Prop,(∃m,I m ds M)∧∀m ds M,I m ds M→
 t ds M (fun b M1=>if b=true then wb {E with nx:=fun ds' M'=>∃m',m' < m∧I m' ds' M',ct:=fun ds' M'=>∃m',m' < m∧I m' ds' M',bk:=E.nx} ds M1 else E.nx ds M1) (E.xc ds)
section
variable {X : Cx} {W : WX} {c : Expr} {body : List Stmt} {pos : Pos} {t : WT} {wb : WS}
theorem js_while (hp:PassesOwn (model X.prog X.w) X.A X.env X.xe) (hc:JT X W c t) (hb:JSs X W body wb):JS X W (.While c body [] pos) (wWhile t wb):=ps_mono (ps_while hp hc hb) fun D' σ H h=>by
 obtain ⟨ds,M,F,E,hs,_,⟨I,⟨m0,h0⟩,turn⟩,l⟩:=h
 refine ⟨fun m σ' H'=>∃ds' M',RelS X.K F σ' H' ds' M'∧Ext H (uni M F) H' (uni M' F)∧I m ds' M',⟨m0,ds,M,hs,Ext.rfl',h0⟩,?_⟩
 rintro m σ' H' ⟨ds',M',R',X',q'⟩
 refine ⟨ds',M',F,_,E.xc ds',R',rfl,turn m ds' M' q',fun b' H2 b M2 e2 r2 rb q2=>?_,fun cls dc H2 x M2 e2 r2 dv q=>l.ex cls dc σ' H2 x ds' M2 (X'.trans e2) (R'.ext e2 r2) dv q⟩
 have rb':b'=b:=rb
 subst rb'
 dsimp only at q2 ⊢
 have X2:=X'.trans e2
 cases b' with
 | false=>
  rw [if_neg Bool.false_ne_true] at q2 ⊢
  exact l.nx σ' H2 ds' M2 X2 (R'.ext e2 r2) q2
 | true=>
  rw [if_pos rfl] at q2 ⊢
  refine ⟨fun σ3 H3=>∃m',m' < m∧∃ds3 M3,RelS X.K F σ3 H3 ds3 M3∧Ext H (uni M F) H3 (uni M3 F)∧I m' ds3 M3,fun σ3 H3 ⟨m',h1,h2⟩=>⟨m',h1,h2⟩,?_⟩
  exact ⟨ds',M2,F,_,R'.ext e2 r2,rfl,q2,⟨fun σ4 H4 ds4 M4 e4 r4 ⟨m',h1,h2⟩=>⟨m',h1,ds4,M4,r4,X2.trans e4,h2⟩,fun v H4 d M4 e4=>l.rt v H4 d M4 (X2.trans e4),
   fun σ4 H4 ds4 M4 e4 r4 q4=>l.nx σ4 H4 ds4 M4 (X2.trans e4) r4 q4,fun σ4 H4 ds4 M4 e4 r4 ⟨m',h1,h2⟩=>⟨m',h1,ds4,M4,r4,X2.trans e4,h2⟩,fun cls dc σ4 H4 x ds4 M4 e4=>l.ex cls dc σ4 H4 x ds4 M4 (X2.trans e4)⟩⟩
end
end DL
namespace DL
open PySem PySem.Spec PyProof.Rows L2 RZ
structure Fz (d:D) (M:Mem) (d':D) (M':Mem):Prop where
 sub:∀a o,M' a=some o→M a=some o
 dv:∀(K:PySem.W.Frag) (H:Hp) (F:Mem) (v:V),Rm K H M F→DV K H (uni M F) d v→DV K H (uni M' F) d' v
structure FzS (ds:List D) (M:Mem) (ds':List D) (M':Mem):Prop where
 sub:∀a o,M' a=some o→M a=some o
 dv:∀(K:PySem.W.Frag) (H:Hp) (F:Mem) (vs:List V),Rm K H M F→DVs K H (uni M F) ds vs→DVs K H (uni M' F) ds' vs
section
variable {M M' : Mem}
theorem sub_none (h:∀a o,M' a=some o→M a=some o) {F:Mem}:∀a,uni M F a=none→uni M' F a=none:=fun a e=>by
 obtain ⟨h1,h2⟩:=uni_none e
 rw [uni_get h1]
 cases q:M' a with
 | none=>rfl
 | some o=>rw [h a o q] at h2;cases h2
theorem sub_some (h:∀a o,M' a=some o→M a=some o) {F:Mem}:∀a o,uni M' F a=some o→uni M F a=some o:=fun a o e=>by
 cases q:F a with
 | some u=>
  have e1:uni M' F a=some u:=by unfold uni;rw [q]
  have e2:uni M F a=some u:=by unfold uni;rw [q]
  rw [e1] at e
  rw [e2]
  exact e
 | none=>
  rw [uni_get q] at e ⊢
  exact h a o e
theorem Fz.dn {d:D} (h:∀a o,M' a=some o→M a=some o):Fz d M d M':=⟨h,fun K H F v R g=>DV.down (sub_none h) d v g⟩
theorem Fz.rfl' {d:D}:Fz d M d M:=Fz.dn fun _ _ h=>h
theorem FzS.dn {ds:List D} (h:∀a o,M' a=some o→M a=some o):FzS ds M ds M':=⟨h,fun K H F v R g=>DVs.down (sub_none h) ds v g⟩
theorem FzS.nil (h:∀a o,M' a=some o→M a=some o):FzS [] M [] M':=FzS.dn h
theorem FzS.cons {d d':D} {ds ds':List D} (h1:Fz d M d' M') (h2:FzS ds M ds' M'):FzS (d :: ds) M (d' :: ds') M':=⟨h1.sub,fun K H F v R g=>by
 obtain ⟨y,ys,e,g1,g2⟩:=g
 exact ⟨y,ys,e,h1.dv K H F y R g1,h2.dv K H F ys R g2⟩⟩
theorem Fz.tup {ds ds':List D} (h:FzS ds M ds' M'):Fz (.tup ds) M (.tup ds') M':=⟨h.sub,fun K H F v R g=>by
 obtain ⟨a,xs,e,g1,g2⟩:=g
 exact ⟨a,xs,e,g1,h.dv K H F xs R g2⟩⟩
theorem Fz.lst {a:Addr} {ds ds':List D} (e:M a=some (.lst ds)) (n:M' a=none) (h:FzS ds M ds' M'):Fz (.ref a) M (.lst ds') M':=⟨h.sub,fun K H F v R g=>by
 obtain ⟨xs,h1,h2⟩:=R.get e
 exact ⟨a,xs,g,h1,by rw [uni_get (R.fr e)];exact n,h.dv K H F xs R h2⟩⟩
theorem Fz.ins {a C:Addr} {ns:List Str} {ds ds':List D} (e:M a=some (.ins C ns ds)) (n:M' a=none) (h:FzS ds M ds' M'):Fz (.ref a) M (.ins C ns ds') M':=⟨h.sub,fun K H F v R g=>by
 obtain ⟨dx,fs,h1,h2,h3⟩:=R.get e
 exact ⟨a,dx,fs,g,h1,by rw [uni_get (R.fr e)];exact n,h2,h.dv K H F _ R h3⟩⟩
theorem Rm.sub {K:PySem.W.Frag} {H:Hp} {F:Mem} (R:Rm K H M F) (h:∀a o,M' a=some o→M a=some o):Rm K H M' F:=⟨R.rel.down (sub_some h),fun a o e=>by
 cases q:M' a with
 | none=>rfl
 | some u=>have z:=R.dj a o e;rw [h a u q] at z;cases z⟩
end
def Fin (Q:KN):KN:=fun d M=>∃d' M',Fz d M d' M'∧Q d' M'
theorem fin_of {Q:KN} {d:D} {M:Mem} (h:Q d M):Fin Q d M:=⟨d,M,Fz.rfl',h⟩
abbrev SpD:=List D→Mem→KN→KX→Prop
def liftSp (K:PySem.W.Frag) (sp:SpD):Sp:=fun vs H Q E=>∃ds M F Qd Xd,Rm K H M F∧DVs K H (uni M F) ds vs∧sp ds M Qd Xd∧LkG K F (rE K) H M Qd Q∧
 ∀cls dc H' x M',Ext H (uni M F) H' (uni M' F)→Rm K H' M' F→ExV K H' (uni M' F) cls dc x→Xd x M'→E cls dc H'
structure FnJ (P:Program) (w:World) (K:PySem.W.Frag) (mg:Str→Option Value) (base:Heap) (k:Nat) (f:Addr) (sp:SpD):Prop where
 ex:∃fd ps,FnOk P w K mg base (L2.CX P w) k f fd ps (liftSp K sp)∧Binds K fd ps []
 kp:PySem.W.keepIn K (.ref f)=true
theorem FnJ.mono {P:Program} {w:World} {K:PySem.W.Frag} {mg:Str→Option Value} {base:Heap} {j k:Nat} {f:Addr} {sp:SpD} (F:FnJ P w K mg base j f sp) (h:j≤k):FnJ P w K mg base k f sp:=by
 obtain ⟨fd,ps,h1,h2⟩:=F.ex
 exact ⟨⟨fd,ps,h1.mono h,h2⟩,F.kp⟩
theorem FnJ.imp {P:Program} {w:World} {K:PySem.W.Frag} {mg:Str→Option Value} {base:Heap} {k:Nat} {f:Addr} {sp sp':SpD} (F:FnJ P w K mg base k f sp) (h:∀ds M Q Xc,sp' ds M Q Xc→sp ds M Q Xc):FnJ P w K mg base k f sp':=by
 obtain ⟨fd,ps,h1,h2⟩:=F.ex
 refine ⟨⟨fd,ps,h1.imp fun vs H Q E q=>?_,h2⟩,F.kp⟩
 obtain ⟨ds,M,F,Qd,Xd,q1,q2,q3,q4,q5⟩:=q
 exact ⟨ds,M,F,Qd,Xd,q1,q2,h _ _ _ _ q3,q4,q5⟩
def wCall (sp:SpD) (wa:WA):WE:=fun ds M Q Xc=>wa ds M (fun xs M1=>sp xs M1 Q Xc) Xc
def startD (N:List Str) (ds:List D):SD:=ds.map some ++ List.replicate (N.length - ds.length) none
abbrev WD (E:XK):WX:=fun c d _ H=>E c d H
section
variable {X : Cx} {W : WX} {x : Str} {p pos : Pos} {e : Expr} {es : List Expr} {wa : WA} {k j : Nat} {f : Addr} {sp : SpD}
theorem finSp {vs:List V} {xs:List D} {σ:L2.St} {H:Hp} {Q:VK} {K:PySem.W.Frag} (h:lift K W (rE K) xs vs (fun _ M Q Xc=>sp xs M Q Xc) σ H Q):liftSp K sp vs H Q (L2.WE W σ):=by
 obtain ⟨_,M,F,Qd,Xd,hs,hv,hw,l1,l2⟩:=h
 exact ⟨xs,M,F,Qd,Xd,hs.1,hv,hw,l1,l2⟩
theorem j_call (F:FnJ X.prog X.w X.K X.mg X.base k f sp) (hr:Room j X.A) (hkj:k≤j) (hm:X.mg x=some (.ref f)) (tk:Takes X W) (ha:JA X W (e :: es) wa) (hg:Gl X x:=by rfl)
  (hdb:(x == ("__debug__":Str))=false:=by decide) (he:starEach (e :: es) X.env=(false,eval e X.env) :: starEach es X.env:=by rfl) (hpl:(backTo pos (starEach es X.env)).any (·.1)=false:=by rfl):
  JE X W (.Call (.Name x p) (e :: es) [] pos) (wCall sp wa):=by
 obtain ⟨fd,ps,h1,h2⟩:=F.ex
 exact pe_mono (pe_callS h1 (hr.mono hkj) hg hm F.kp h2 (fun σ=>passAt tk σ) ha hdb he hpl) fun σ H Q h=>bindA (wa:=wa) (f:=fun xs _ M Q Xc=>sp xs M Q Xc) h fun vs xs H1 h=>finSp (by rw [List.append_nil,List.append_nil] at h;exact h)
end
theorem Sl.start {K:PySem.W.Frag} {H:Hp} {N:Mem} {Ns:List Str} {ds:List D} {vs:List V} (h:DVs K H N ds vs):Sl K H N (L2.start Ns vs) (startD Ns ds):=by
 refine ⟨?_,fun i d e=>?_⟩
 ·unfold startD L2.start
  rw [List.length_append,List.length_append,List.length_map,List.length_map,List.length_replicate,List.length_replicate,h.len]
 ·unfold startD at e
  unfold L2.start
  by_cases hi:i < ds.length
  ·rw [List.getElem?_append_left (by rw [List.length_map];exact hi),List.getElem?_map] at e
   cases q:ds[i]? with
   | none=>rw [q] at e;cases e
   | some d'=>
    rw [q] at e
    cases e
    obtain ⟨x,h1,h2⟩:=h.get q
    exact ⟨x,by rw [List.getElem?_append_left (by rw [List.length_map,h.len];exact hi),List.getElem?_map,h1];rfl,h2⟩
  ·rw [List.getElem?_append_right (by rw [List.length_map];omega),List.getElem?_replicate] at e
   split at e <;> cases e
theorem FnJ.mk' {P:Program} {w:World} {K:PySem.W.Frag} {mg:Str→Option Value} {base:Heap} {k:Nat} {x qual:Str} {st:Stmt} {f:Addr} {fd:FuncData} {N ps:List Str} {sp:SpD} {wb:WS}
  (F:Fun K x qual st f fd) (S:FnScope N ps (defScope st)) (b:Binds K fd ps [])
  (body:∀(cdv:Value) (A:Around) (outer:List Env) (s:Shared) (H:Hp) (E:XK),Room k (A.deeper (envOfC qual (defScope st) s.heap.objs.size f cdv))→
   Takes (cxOf (L2.CX P w) P w K mg base N qual (defScope st) f cdv A outer s H E) (WD E)→
   JSs (cxOf (L2.CX P w) P w K mg base N qual (defScope st) f cdv A outer s H E) (WD E) (defBody st) wb)
  (h:∀ds M Q Xc,sp ds M Q Xc→ds.length=ps.length∧wb {nx:=fun _ M=>Fin Q .non M,rt:=Fin Q,ex:=fun x _ M=>Xc x M} (startD N ds) M):FnJ P w K mg base (k + 1) f sp:=by
 refine ⟨⟨fd,ps,F.okX S (fun vs H Q E hh=>?_) (fun cdv A outer s H vs Q E hr hh=>?_),b⟩,F.kp⟩
 ·obtain ⟨ds,M,Fr,Qd,Xd,q1,q2,q3,_⟩:=hh
  rw [q2.len]
  exact (h _ _ _ _ q3).1
 ·obtain ⟨ds,M,Fr,Qd,Xd,q1,q2,q3,l1,l2⟩:=hh
  refine ⟨_,body cdv A outer s H E hr (takes_of rfl rfl rfl rfl),?_⟩
  have fin:∀(v:V) (H':Hp) (d:D) (M':Mem),Ext H (uni M Fr) H' (uni M' Fr)→Rm K H' M' Fr→DV K H' (uni M' Fr) d v→Fin Qd d M'→Q v H':=fun v H' d M' e r dv ⟨d2,M2,fz,q⟩=>
   l1 v H' d2 M2 (e.down (sub_none fz.sub)) (r.sub fz.sub) (fz.dv K H' Fr v r dv) q
  exact ⟨startD N ds,M,Fr,_,⟨q1,Sl.start q2⟩,rfl,(h _ _ _ _ q3).2,⟨fun σ' H' ds' M' e r q=>fin .non H' .non M' e r.1 rfl q,fin,fun _ _ _ _ _ _ z=>z.elim,fun _ _ _ _ _ _ z=>z.elim,fun cls dc σ' H' x ds' M' e r dv q=>l2 cls dc H' x M' e r.1 dv q⟩⟩
def liftM (K:PySem.W.Frag) (r:D→List D→Mem→KN→Prop):V→List V→Hp→VK→Prop:=fun x xs H Q=>∃d ds M F Qd,Rm K H M F∧DV K H (uni M F) d x∧DVs K H (uni M F) ds xs∧r d ds M Qd∧LkG K F (rE K) H M Qd Q
def tyD (T:String) (M:Mem):D→Prop
 | .str _=>T="str"
 | .lst _=>T="list"
 | .ref a=>T="list"∧optK (moSeq (M a)) fun _=>True
 | _=>False
def wBM (T:String) (r:D→List D→Mem→KN→Prop) (we:WE) (wa:WA):WE:=fun ds M Q Xc=>we ds M (fun d M1=>tyD T M1 d∧wa ds M1 (fun xs M2=>r d xs M2 Q) Xc) Xc
def ownL (M:Mem) (d:D) (k:Addr→List D→Prop):Prop:=match d with
 | .ref a=>optK (moSeq (M a)) fun xs=>k a xs
 | _=>False
def rAppD (d:D) (ds:List D) (M:Mem) (Q:KN):Prop:=match ds with
 | [y]=>ownL M d fun a xs=>xs.length < sizeLine∧Q .non (mput M a (.lst (xs ++ [y])))
 | _=>False
def rPopD (d:D) (ds:List D) (M:Mem) (Q:KN):Prop:=match ds with
 | []=>ownL M d fun a xs=>optK xs[xs.length - 1]? fun y=>Q y (mput M a (.lst xs.dropLast))
 | [.int i]=>ownL M d fun a xs=>optK (ixN xs.length i) fun k=>optK xs[k]? fun y=>(xs.length≤sizeLine∧Q y (mput M a (.lst (xs.eraseIdx k))))
 | _=>False
def rExtD (d:D) (ds:List D) (M:Mem) (Q:KN):Prop:=match ds with
 | [.lst ys]=>ownL M d fun a xs=>xs.length + ys.length≤sizeLine∧Q .non (mput M a (.lst (xs ++ ys)))
 | _=>False
def rInsD (d:D) (ds:List D) (M:Mem) (Q:KN):Prop:=match ds with
 | [.int i,y]=>ownL M d fun a xs=>xs.length < sizeLine∧0≤i∧i < 2 ^ 63∧Q .non (mput M a (.lst (xs.take i.toNat ++ [y] ++ xs.drop i.toNat)))
 | _=>False
theorem DVs.dropLast {K:PySem.W.Frag} {H:Hp} {M:Mem} {ds:List D} {xs:List V} (h:DVs K H M ds xs):DVs K H M ds.dropLast xs.dropLast:=by
 rw [List.dropLast_eq_take,List.dropLast_eq_take,h.len]
 exact h.take _
theorem DVs.erase {K:PySem.W.Frag} {H:Hp} {M:Mem} {ds:List D} {xs:List V} (h:DVs K H M ds xs) (k:Nat):DVs K H M (ds.eraseIdx k) (xs.eraseIdx k):=by
 rw [List.eraseIdx_eq_take_drop_succ,List.eraseIdx_eq_take_drop_succ]
 exact DVs.app (h.take _) (h.drop _)
theorem DVs.one {K:PySem.W.Frag} {H:Hp} {M:Mem} {d:D} {x:V} (h:DV K H M d x):DVs K H M [d] [x]:=⟨x, [],rfl,h,rfl⟩
theorem moSeq_of {o:Option MO} {xs:List D} (h:moSeq o=some xs):o=some (.lst xs):=by
 unfold moSeq at h
 split at h
 ·cases h;rfl
 ·cases h
theorem ownL_of {M:Mem} {d:D} {k:Addr→List D→Prop} (h:ownL M d k):∃a xs,d= .ref a∧M a=some (.lst xs)∧k a xs:=by
 unfold ownL at h
 split at h
 ·rename_i a
  obtain ⟨xs,e,q⟩:=optK_of h
  exact ⟨a,xs,rfl,moSeq_of e,q⟩
 ·exact h.elim
section
variable {X : Cx}
theorem tyD_ok {K:PySem.W.Frag} {H:Hp} {M F:Mem} {T:String} {d:D} {x:V} (R:Rm K H M F) (h:tyD T M d) (g:DV K H (uni M F) d x):tyV K T x H:=by
 cases d <;> first | exact h.elim | skip
 ·rename_i z
  cases (show x= .str z from g)
  exact h
 ·rename_i a
  cases (show x= .ref a from g)
  obtain ⟨xs,e,_⟩:=optK_of h.2
  obtain ⟨ys,q1,_⟩:=R.get (moSeq_of e)
  exact .inl ⟨h.1,ys,SqL.of q1⟩
 ·obtain ⟨a,ys,e,q1,_,q2⟩:=g
  subst e
  exact .inl ⟨h,ys,SqL.of q1⟩
theorem chg {K:PySem.W.Frag} {H:Hp} {M F:Mem} {Qd:KN} {Q:VK} {a:Addr} {ds':List D} {o:MO} {xs':List V} {v:V} {d:D} (R:Rm K H M F) (l:LkG K F (rE K) H M Qd Q) (e:M a=some o)
  (h:DVs K H (uni M F) ds' xs') (hd:DV K H (uni M F) d v) (q:Qd d (mput M a (.lst ds'))):Q v (upd H a (.lst xs')):=by
 have x:=R.xset (K:=K) (o:=HO.lst xs') (u:= .lst ds') e
 exact l v _ d _ x (R.set e ⟨xs',upd_same,DVs.ext R.rel x _ _ h⟩) (DV.ext R.rel x _ _ hd) q
theorem md_append:MtR X "list.append" (liftM X.K rAppD):=by
 intro pins s σ H x xs v us Q I rx rs hh
 obtain ⟨d,ds,M,F,Qd,R,h1,h2,h3,l⟩:=hh
 unfold rAppD at h3
 split at h3
 ·rename_i y
  obtain ⟨a,ys,e,e2,q1,q2⟩:=ownL_of h3
  subst e
  cases (show x= .ref a from h1)
  obtain ⟨y',e3,g⟩:=dv1 h2
  subst e3
  obtain ⟨zs,g1,g2⟩:=R.get e2
  exact mt_append pins s σ H _ _ v us Q I rx rs ⟨a,zs,y',rfl,rfl,g1,by rw [g2.len];exact q1,chg R l e2 (d:= .non) (DVs.app g2 (DVs.one g)) rfl q2⟩
 ·exact h3.elim
theorem md_pop:MtR X "list.pop" (liftM X.K rPopD):=by
 intro pins s σ H x xs v us Q I rx rs hh
 obtain ⟨d,ds,M,F,Qd,R,h1,h2,h3,l⟩:=hh
 unfold rPopD at h3
 split at h3
 ·obtain ⟨a,ys,e,e2,q⟩:=ownL_of h3
  obtain ⟨y,e3,q⟩:=optK_of q
  subst e
  cases (show x= .ref a from h1)
  cases (show xs= [] from h2)
  obtain ⟨zs,g1,g2⟩:=R.get e2
  obtain ⟨y',k1,k2⟩:=g2.get e3
  exact mt_pop pins s σ H _ _ v us Q I rx rs ⟨a,zs,y',rfl,rfl,g1,by rw [g2.len];exact k1,chg R l e2 g2.dropLast k2 q⟩
 ·rename_i i
  obtain ⟨a,ys,e,e2,q⟩:=ownL_of h3
  obtain ⟨j,e3,q⟩:=optK_of q
  obtain ⟨y,e4,q5,q⟩:=optK_of q
  subst e
  cases (show x= .ref a from h1)
  obtain ⟨i',e5,g⟩:=dv1 h2
  subst e5
  cases (show i'= .int i from g)
  obtain ⟨zs,g1,g2⟩:=R.get e2
  obtain ⟨y',k1,k2⟩:=g2.get e4
  obtain ⟨z1,z2,z3,z4⟩:=ixN_seq e3
  have hl:(sizeLine:Nat) < 2 ^ 63:=line63
  exact mt_popAt pins s σ H _ _ v us Q I rx rs ⟨a,zs,i,j,y',rfl,rfl,g1,by omega,by omega,by rw [g2.len];exact z1,k1,chg R l e2 (g2.erase j) k2 q⟩
 ·exact h3.elim
theorem md_extend:MtR X "list.extend" (liftM X.K rExtD):=by
 intro pins s σ H x xs v us Q I rx rs hh
 obtain ⟨d,ds,M,F,Qd,R,h1,h2,h3,l⟩:=hh
 unfold rExtD at h3
 split at h3
 ·rename_i y
  obtain ⟨a,ys,e,e2,q1,q2⟩:=ownL_of h3
  subst e
  cases (show x= .ref a from h1)
  obtain ⟨y',e3,g⟩:=dv1 h2
  subst e3
  obtain ⟨b,ws,e4,g3,_,g4⟩:=g
  subst e4
  obtain ⟨zs,g1,g2⟩:=R.get e2
  exact mt_extend pins s σ H _ _ v us Q I rx rs ⟨a,b,zs,ws,rfl,rfl,g1,g3,by rw [g2.len,g4.len];exact q1,chg R l e2 (d:= .non) (DVs.app g2 g4) rfl q2⟩
 ·exact h3.elim
theorem md_insert:MtR X "list.insert" (liftM X.K rInsD):=by
 intro pins s σ H x xs v us Q I rx rs hh
 obtain ⟨d,ds,M,F,Qd,R,h1,h2,h3,l⟩:=hh
 unfold rInsD at h3
 split at h3
 ·rename_i i y
  obtain ⟨a,ys,e,e2,q1,q3,q4,q2⟩:=ownL_of h3
  subst e
  cases (show x= .ref a from h1)
  obtain ⟨i',y',e3,gi,g⟩:=dv2 h2
  subst e3
  cases (show i'= .int i from gi)
  obtain ⟨zs,g1,g2⟩:=R.get e2
  exact mt_insert pins s σ H _ _ v us Q I rx rs ⟨a,zs,i,y',rfl,rfl,g1,by rw [g2.len];exact q1,q3,q4,chg R l e2 (d:= .non) (DVs.app (DVs.app (g2.take _) (DVs.one g)) (g2.drop _)) rfl q2⟩
 ·exact h3.elim
def rSetD (o i v:D) (M:Mem) (k:Mem→Prop):Prop:=match i with
 | .int j=>ownL M o fun a xs=>optK (ixN xs.length j) fun n=>k (mput M a (.lst (xs.set n v)))
 | _=>False
end
section
variable {X : Cx} {W : WX} {o e : Expr} {es : List Expr} {we : WE} {wa : WA} {name : Str} {apos cpos : Pos} {T id : String} {r : D → List D → Mem → KN → Prop}
theorem finM {d:D} {ds:List D} {x:V} {xs:List V} {σ:L2.St} {H:Hp} {Q:VK} {K:PySem.W.Frag} (h:lift K W (rE K) (ds ++ [d]) (xs ++ [x]) (fun _ M Q _=>r d ds M Q) σ H Q):liftM K r x xs H Q:=by
 obtain ⟨_,M,F,Qd,Xd,hs,hv,hw,l1,_⟩:=h
 have key:∀(ds:List D) (xs:List V),DVs K H (uni M F) (ds ++ [d]) (xs ++ [x])→DVs K H (uni M F) ds xs∧DV K H (uni M F) d x:=by
  intro ds
  induction ds with
  | nil=>
   intro xs h
   obtain ⟨y,ys,e,h1,h2⟩:=h
   cases (show ys= [] from h2)
   cases xs with
   | nil=>cases e;exact ⟨rfl,h1⟩
   | cons z zs=>
    exfalso
    have:=congrArg List.length e
    simp at this
  | cons c cs ih=>
   intro xs h
   obtain ⟨y,ys,e,h1,h2⟩:=h
   cases xs with
   | nil=>
    exfalso
    have e3:ys= []:=by
     have:=congrArg List.length e
     simp at this
     exact this
    subst e3
    cases cs with
    | nil=>obtain ⟨_,_,z,_⟩:=h2;cases z
    | cons _ _=>obtain ⟨_,_,z,_⟩:=h2;cases z
   | cons z zs=>
    cases e
    obtain ⟨g1,g2⟩:=ih zs h2
    exact ⟨⟨_,_,rfl,h1,g1⟩,g2⟩
 obtain ⟨k1,k2⟩:=key ds xs hv
 exact ⟨d,ds,M,F,Qd,hs.1,k2,k1,hw,l1⟩
theorem j_bm (pa:PlainAttrs T) (slot:Slot T name id) (hty:typeOf (.builtin id)=pure (.type "method_descriptor")) (hm:MtR X id (liftM X.K r)) (ho:JE X W o we) (ha:JA X W (e :: es) wa)
  (hbase:attributeBase o name X.env (eval o X.env)=eval o X.env:=by rfl)
  (hfew:((backTo cpos (starEach (e :: es) X.env)).all (fun x=> !x.1) && (backToKw cpos (keywordEach [] X.env)).all (fun x=>x.1.isSome)
   && decide ((e :: es).length + ([]:List Keyword).length + (if ([]:List Keyword).isEmpty then 0 else 1) < 30))=true:=by rfl)
  (hline:(apos.endLine == cpos.line)=true:=by rfl) (hs:starEach (e :: es) X.env=(false,eval e X.env) :: starEach es X.env:=by rfl) (hplain:(backTo cpos (starEach es X.env)).any (·.1)=false:=by rfl):
  JE X W (.Call (.Attribute o name apos) (e :: es) [] cpos) (wBM T r we wa):=
 pe_mono (pe_bm pa slot hty hm ho ha hbase hfew hline hs hplain) fun σ H Q h=>by
  obtain ⟨ds,M,F,Qd,Xd,hs,hv,hw,l1,l2⟩:=h
  refine ⟨ds,M,F,_,Xd,hs,rfl,hw,fun v H' d M' ex rr dv q=>⟨tyD_ok rr q.1 dv,?_⟩,l2⟩
  refine bindA (Rr:=rE X.K) (Q:=Q) (wa:=wa) (es:= [d]) (vs:= [v]) (f:=fun xs _ M Q _=>r d xs M Q) ⟨ds,M',F,Qd,Xd,hs.ext ex rr,DVs.one dv,q.2,l1.ext ex,l2.ext ex⟩ fun xs es' H1 h=>finM h
theorem j_bm0 (pa:PlainAttrs T) (slot:Slot T name id) (hty:typeOf (.builtin id)=pure (.type "method_descriptor")) (hm:MtR X id (liftM X.K r)) (ho:JE X W o we)
  (hbase:attributeBase o name X.env (eval o X.env)=eval o X.env:=by rfl) (hline:(apos.endLine == cpos.line)=true:=by rfl):JE X W (.Call (.Attribute o name apos) [] [] cpos) (wBM T r we wNil):=
 pe_mono (pe_bm0 pa slot hty hm ho hbase hline) fun σ H Q h=>by
  obtain ⟨ds,M,F,Qd,Xd,hs,hv,hw,l1,l2⟩:=h
  exact ⟨ds,M,F,_,Xd,hs,rfl,hw,fun v H' d M' ex rr dv q=>⟨tyD_ok rr q.1 dv,d, [],M',F,Qd,rr,dv,rfl,q.2,l1.ext ex⟩,l2⟩
end
end DL
namespace DL
open PySem PySem.Spec PyProof.Rows L2 RZ
def wSub (we wo wi:WE) (r:D→D→D→Mem→(Mem→Prop)→Prop):WS:=fun E ds M=>we ds M (fun v M1=>wo ds M1 (fun o M2=>wi ds M2 (fun i M3=>r o i v M3 fun M4=>E.nx ds M4) (E.xc ds)) (E.xc ds)) (E.xc ds)
def wAug (i:Nat) (we:WE) (r:RD2):WS:=fun E ds M=>wGet ds[i]? fun d=>we ds M (fun e M1=>r d e M1 fun z M2=>E.nx (ds.set i (some z)) M2) (E.xc ds)
section
variable {X : Cx} {W : WX} {o i e : Expr} {wo wi we : WE} {pos : Pos}
theorem js_sub {spos:Pos} (he:JE X W e we) (ho:JE X W o wo) (hi:JE X W i wi)
  (ha:∀v,assign (.Subscript o i pos) X.env v=(do
   let ov ← holding [v] (eval o X.env)
   let iv ← holding [v,ov] (eval i X.env)
   standAt pos
   holding [v,ov,iv] (setItem ov iv v)
   release [v,ov,iv] []):=by intro _;rfl)
  (hs:swapsWithSole [.Subscript o i pos] e spos.line X.env=pure false:=by rfl) (hw:swappedStores [.Subscript o i pos] e X.env=pure none:=by rfl)
  (h1:(assignEach [.Subscript o i pos] X.env).map (·.2)= [assign (.Subscript o i pos) X.env]:=by rfl):JS X W (.Assign [.Subscript o i pos] e spos) (wSub we wo wi rSetD):=
 ps_mono (ps_asg he (pg_sub ho hi set_list ha) hs hw h1) fun D' σ H h=>
  bindSE (wa:=we) (f:=fun v E ds M=>wo ds M (fun o M2=>wi ds M2 (fun i M3=>rSetD o i v M3 fun M4=>E.nx ds M4) (E.xc ds)) (E.xc ds)) h fun v d H1 h=>
  bindSE (wa:=wo) (f:=fun o E ds M=>wi ds M (fun i M3=>rSetD o i d M3 fun M4=>E.nx ds M4) (E.xc ds)) h fun ov od H2 h=>
  bindSE (wa:=wi) (f:=fun i E ds M=>rSetD od i d M fun M4=>E.nx ds M4) h fun iv id H3 h=>by
   obtain ⟨ds,M,F,E,hs,hv,hw,l⟩:=h
   obtain ⟨_,_,e1,g1,_,_,e2,g2,_,_,e3,g3,_⟩:=hv
   cases e1
   cases e2
   cases e3
   unfold rSetD at hw
   split at hw
   ·rename_i j
    obtain ⟨a,ys,e4,e5,q⟩:=ownL_of hw
    obtain ⟨n,e6,q⟩:=optK_of q
    subst e4
    cases (show ov= .ref a from g2)
    cases (show iv= .int j from g1)
    obtain ⟨zs,k1,k2⟩:=hs.1.get e5
    refine ⟨a,zs,j,n,rfl,rfl,k1,by rw [k2.len];exact e6,?_⟩
    have x:=hs.1.xset (o:=HO.lst (zs.set n v)) (u:= .lst (ys.set n d)) e5
    have st:DVs X.K H3 (uni M F) (ys.set n d) (zs.set n v):=DVs.of_get (by rw [List.length_set,List.length_set,k2.len]) fun m c hm=>by
     by_cases hz:n=m
     ·subst hz
      by_cases hl:n < ys.length
      ·rw [List.getElem?_set_self hl] at hm
       cases hm
       exact ⟨v,by rw [List.getElem?_set_self (by rw [k2.len];exact hl)],g3⟩
      ·rw [List.getElem?_eq_none (by rw [List.length_set];omega)] at hm
       cases hm
     ·rw [List.getElem?_set_ne hz] at hm ⊢
      exact k2.get hm
    exact l.nx _ _ ds _ x (hs.ext x (hs.1.set e5 ⟨_,upd_same,DVs.ext hs.1.rel x _ _ st⟩)) q
   ·exact hw.elim
end
def moIns:Option MO→Option (Addr×List Str×List D)
 | some (.ins C ns xs)=>some (C,ns,xs)
 | _=>none
def insOf (M:Mem):D→Option (Addr×List Str×List D)
 | .ins C ns xs=>some (C,ns,xs)
 | .ref a=>moIns (M a)
 | _=>none
def insK (C:Addr) (ns:List Str) (M:Mem) (d:D) (k:List D→Prop):Prop:=optK (insOf M d) fun p=>p.1=C∧p.2.1=ns∧k p.2.2
theorem insK_of {K:PySem.W.Frag} {H:Hp} {M F:Mem} {C:Addr} {ns:List Str} {d:D} {x:V} {k:List D→Prop} (R:Rm K H M F) (h:insK C ns M d k) (g:DV K H (uni M F) d x):
  ∃a dx fs xs,x= .ref a∧H a=some (.ins C dx fs)∧fs.map (·.1)=ns∧DVs K H (uni M F) xs (fs.map (·.2))∧k xs:=by
 obtain ⟨⟨C',ns',xs⟩,e,rfl,rfl,q⟩:=optK_of h
 cases d <;> first | cases e | skip
 ·rename_i a
  cases (show x= .ref a from g)
  have e':moIns (M a)=some (C',ns',xs):=e
  unfold moIns at e'
  split at e'
  ·rename_i e2
   cases e'
   obtain ⟨dx,fs,q1,q2,q3⟩:=R.get e2
   exact ⟨a,dx,fs,xs,rfl,q1,q2,q3,q⟩
  ·cases e'
 ·obtain ⟨a,dx,fs,e1,q1,_,q2,q3⟩:=g
  exact ⟨a,dx,fs,xs,e1,q1,q2,q3,q⟩
theorem look_at {f:Str} {i:Nat}:∀{fs:List (Str×V)} {ns:List Str},fs.map (·.1)=ns→ns.findIdx? (· == f)=some i→fs.lookup f=(fs.map (·.2))[i]?
 | [],ns,h,e=>by
  subst h
  cases e
 | (g,v) :: fs,ns,h,e=>by
  subst h
  rw [List.map_cons,List.findIdx?_cons] at e
  by_cases hg:g=f
  ·subst hg
   rw [if_pos (beq_self_eq_true g)] at e
   cases e
   simp [List.lookup]
  ·have hb:((g,v).1 == f)=false:=by simpa using hg
   rw [hb,if_neg Bool.false_ne_true] at e
   cases q:List.findIdx? (· == f) (fs.map (·.1)) with
   | none=>rw [q] at e;cases e
   | some j=>
    rw [q] at e
    cases e
    have hb':(f == g)=false:=by simpa using fun z=>hg z.symm
    rw [List.lookup,hb',List.map_cons,List.getElem?_cons_succ]
    exact look_at rfl q
theorem look_no {f:Str}:∀{fs:List (Str×V)} {ns:List Str},fs.map (·.1)=ns→ns.findIdx? (· == f)=none→fs.lookup f=none
 | [],ns,h,e=>rfl
 | (g,v) :: fs,ns,h,e=>by
  subst h
  rw [List.map_cons,List.findIdx?_cons] at e
  by_cases hg:g=f
  ·subst hg
   rw [if_pos (beq_self_eq_true g)] at e
   cases e
  ·have hb:((g,v).1 == f)=false:=by simpa using hg
   rw [hb,if_neg Bool.false_ne_true] at e
   have hb':(f == g)=false:=by simpa using fun z=>hg z.symm
   rw [List.lookup,hb']
   refine look_no rfl ?_
   cases q:List.findIdx? (· == f) (fs.map (·.1)) with
   | none=>rfl
   | some j=>rw [q] at e;cases e
def putD (ns:List Str) (xs:List D) (f:Str) (d:D):Option Nat→List Str×List D
 | some i=>(ns,xs.set i d)
 | none=>(ns ++ [f],xs ++ [d])
theorem putF_rel {K:PySem.W.Frag} {H:Hp} {N:Mem} {f:Str} {v:V} {d:D} (dv:DV K H N d v):∀{fs:List (Str×V)} {ns:List Str} {xs:List D} {o:Option Nat},fs.map (·.1)=ns→DVs K H N xs (fs.map (·.2))→ns.findIdx? (· == f)=o→
  (putF f v fs).map (·.1)=(putD ns xs f d o).1∧DVs K H N (putD ns xs f d o).2 ((putF f v fs).map (·.2))
 | [],ns,xs,o,h,g,e=>by
  subst h
  have e':xs= []:=by
   cases xs with
   | nil=>rfl
   | cons _ _=>obtain ⟨_,_,z,_⟩:=g;cases z
  subst e'
  cases e
  exact ⟨rfl,DVs.one dv⟩
 | (k,w) :: fs,ns,xs,o,h,g,e=>by
  subst h
  cases xs with
  | nil=>cases (show _= [] from g)
  | cons c cs=>
   obtain ⟨y,ys,e1,g1,g2⟩:=g
   rw [List.map_cons] at e1
   cases e1
   rw [List.map_cons,List.findIdx?_cons] at e
   by_cases hg:k=f
   ·subst hg
    rw [if_pos (beq_self_eq_true k)] at e
    subst e
    refine ⟨?_,?_⟩
    ·show ((if k=k then (k,v) :: fs else _):List (Str×V)).map (·.1)=_
     rw [if_pos rfl]
     rfl
    ·show DVs K H N _ (((if k=k then (k,v) :: fs else _):List (Str×V)).map (·.2))
     rw [if_pos rfl]
     exact ⟨v,_,rfl,dv,g2⟩
   ·have hb:((k,w).1 == f)=false:=by simpa using hg
    rw [hb,if_neg Bool.false_ne_true] at e
    have ih:=putF_rel (f:=f) (v:=v) dv (fs:=fs) rfl g2 rfl
    have ee:putF f v ((k,w) :: fs)=(k,w) :: putF f v fs:=if_neg hg
    rw [ee]
    cases q:List.findIdx? (· == f) (fs.map (·.1)) with
    | none=>
     rw [q] at e ih
     subst e
     refine ⟨?_,?_⟩
     ·show k :: (putF f v fs).map (·.1)=_
      rw [ih.1]
      rfl
     ·exact ⟨w,_,rfl,g1,ih.2⟩
    | some j=>
     rw [q] at e ih
     subst e
     refine ⟨?_,?_⟩
     ·show k :: (putF f v fs).map (·.1)=_
      rw [ih.1]
      rfl
     ·exact ⟨w,_,rfl,g1,ih.2⟩
def wFld (C:Addr) (ns:List Str) (i:Nat) (we:WE):WE:=fun ds M Q Xc=>we ds M (fun d M1=>insK C ns M1 d fun xs=>optK xs[i]? fun v=>Q v M1) Xc
def wFst (C:Addr) (ns:List Str) (f:Str) (o:Option Nat) (we wo:WE):WS:=fun E ds M=>we ds M (fun v M1=>wo ds M1 (fun d M2=>match d with
 | .ref a=>optK (moIns (M2 a)) fun p=>p.1=C∧p.2.1=ns∧E.nx ds (mput M2 a (.ins C (putD ns p.2.2 f v o).1 (putD ns p.2.2 f v o).2))
 | _=>False) (E.xc ds)) (E.xc ds)
def wMeth (C:Addr) (ns:List Str) (sp:SpD) (we:WE) (wa:WA):WE:=fun ds M Q Xc=>we ds M (fun d M1=>insK C ns M1 d fun _=>wa ds M1 (fun xs M2=>sp (d :: xs) M2 Q Xc) Xc) Xc
def wProp (C:Addr) (ns:List Str) (sp:SpD) (we:WE):WE:=fun ds M Q Xc=>we ds M (fun d M1=>insK C ns M1 d fun _=>sp [d] M1 Q XF) Xc
def wMake (C:Addr) (sp:SpD) (wa:WA):WE:=fun ds M Q Xc=>wa ds M (fun xs M1=>∀a,M1 a=none→sp (.ref a :: xs) (mput M1 a (.ins C [] [])) (fun d M2=>d= .non∧Fin Q (.ref a) M2) Xc) Xc
section
variable {X : Cx} {W : WX} {o e : Expr} {es : List Expr} {wo we : WE} {wa : WA} {f m x : Str} {pos apos p : Pos} {C g fI : Addr} {ns : List Str} {k j : Nat} {sp : SpD}
theorem j_fld {i:Nat} (c:Cls X.K C) (n:NoAttr X.K C f) (hi:ns.findIdx? (· == f)=some i) (he:JE X W o we) (hb:attributeBase o f X.env (eval o X.env)=eval o X.env:=by rfl):JE X W (.Attribute o f pos) (wFld C ns i we):=
 pe_mono (pe_fld he hb) fun σ H Q h=>bindE (wa:=we) (f:=fun d _ M Q _=>insK C ns M d fun xs=>optK xs[i]? fun v=>Q v M) h fun v d H1 h=>by
  obtain ⟨_,M,F,Qd,Xd,hs,hv,hw,l1,_⟩:=h
  obtain ⟨_,_,e1,h1,_⟩:=hv
  cases e1
  obtain ⟨a,dx,fs,xs,e2,q1,q2,q3,q⟩:=insK_of hs.1 hw h1
  obtain ⟨z,e3,q⟩:=optK_of q
  obtain ⟨y,k1,k2⟩:=q3.get e3
  exact ⟨a,C,dx,fs,y,e2,q1,c,n,by rw [look_at q2 hi];exact k1,l1 y H1 z M Ext.rfl' hs.1 k2 q⟩
theorem js_fld {o':Option Nat} {value:Expr} {wv:WE} {pos':Pos} (c:Cls X.K C) (n:NoAttr X.K C f) (ho:ns.findIdx? (· == f)=o') (hl:ns.length < 1000) (ha:JE X W o wo) (hv:JE X W value wv) (hs:swapsWith value (some (.Attribute o f pos')) pos.line X.env=pure false:=by rfl):
  JS X W (.Assign [.Attribute o f pos'] value pos) (wFst C ns f o' wv wo):=
 ps_mono (ps_fld ha hv hs) fun D' σ H h=>bindSE (wa:=wv) (f:=fun v E ds M=>wo ds M (fun d M2=>match d with
   | .ref a=>optK (moIns (M2 a)) fun p=>p.1=C∧p.2.1=ns∧E.nx ds (mput M2 a (.ins C (putD ns p.2.2 f v o').1 (putD ns p.2.2 f v o').2))
   | _=>False) (E.xc ds)) h fun v d H1 h=>bindSE (wa:=wo) (f:=fun z E ds M=>match z with
   | .ref a=>optK (moIns (M a)) fun p=>p.1=C∧p.2.1=ns∧E.nx ds (mput M a (.ins C (putD ns p.2.2 f d o').1 (putD ns p.2.2 f d o').2))
   | _=>False) h fun ov od H2 h=>by
  obtain ⟨ds,M,F,E,hs,hv,hw,l⟩:=h
  obtain ⟨_,_,e1,g1,_,_,e2,g2,_⟩:=hv
  cases e1
  cases e2
  split at hw
  ·rename_i a
   cases (show ov= .ref a from g1)
   obtain ⟨⟨C',ns',xs⟩,e3,e4,e5,q⟩:=optK_of hw
   dsimp only at e4 e5 q
   subst e4
   subst e5
   unfold moIns at e3
   split at e3
   ·rename_i e6
    cases e3
    obtain ⟨dx,fs,q1,q2,q3⟩:=hs.1.get e6
    refine ⟨a,C',dx,fs,rfl,q1,c,n,?_,?_⟩
    ·rw [← List.length_map (f:=(·.1)),q2]
     exact hl
    ·obtain ⟨k1,k2⟩:=putF_rel (f:=f) g2 q2 q3 ho
     have x:=hs.1.xset (o:=HO.ins C' dx (putF f v fs)) (u:= .ins C' (putD ns' xs f d o').1 (putD ns' xs f d o').2) e6
     exact l.nx _ _ ds _ x (hs.ext x (hs.1.set e6 ⟨dx,_,upd_same,k1,DVs.ext hs.1.rel x _ _ k2⟩)) q
   ·cases e3
  ·exact hw.elim
theorem j_meth {pl:Sem Bool} (he:JE X W o we) (c:Cls X.K C) (hm:Meth X.K C m g) (hn:ns.findIdx? (· == m)=none) (F:FnJ X.prog X.w X.K X.mg X.base k g sp) (hr:Room j X.A) (hkj:k≤j) (tk:Takes X W) (ha:JA X W (e :: es) wa)
  (hst:starEach (e :: es) X.env=(false,eval e X.env) :: starEach es X.env:=by rfl) (hpl:(backTo pos (starEach es X.env)).any (·.1)=false:=by rfl)
  (ht:eval (.Call (.Attribute o m apos) (e :: es) [] pos) X.env=(do
   let ov ← eval o X.env
   standAt apos.atName
   let (f,first) ← holding [ov] (getMethod ov m pl)
   callWith pos f first (backTo pos (starEach (e :: es) X.env)) (backToKw pos (keywordEach [] X.env))):=by rfl):
  JE X W (.Call (.Attribute o m apos) (e :: es) [] pos) (wMeth C ns sp we wa):=by
 obtain ⟨fd,ps,h1,h2⟩:=F.ex
 refine ⟨fun pins s σ H Q I h=>?_⟩
 have hh:liftE X.K W we σ H (fun x H1=>∃a dx fs,x=V.ref a∧H1 a=some (.ins C dx fs)∧fs.lookup m=none∧liftA X.K W wa σ H1 fun vs H2=>liftSp X.K sp (x :: vs) H2 Q (L2.WE W σ)):=
  bindE (wa:=we) (f:=fun d ds M Q Xc=>insK C ns M d fun _=>wa ds M (fun xs M2=>sp (d :: xs) M2 Q Xc) Xc) h fun v d H1 h=>by
   obtain ⟨ds,M,Fr,Qd,Xd,hs,hv,hw,l1,l2⟩:=h
   have hv':=hv
   obtain ⟨_,_,e1,g1,_⟩:=hv
   cases e1
   obtain ⟨a,dx,fs,xs,e2,q1,q2,q3,q⟩:=insK_of hs.1 hw g1
   refine ⟨a,dx,fs,e2,q1,look_no q2 hn,bindA (Rr:=rE X.K) (Q:=Q) (wa:=wa) (es:= [d]) (vs:= [v]) (f:=fun xs _ M Q Xc=>sp (d :: xs) M Q Xc) ⟨ds,M,Fr,Qd,Xd,hs,hv',q,l1,l2⟩ fun ys zs H2 h=>?_⟩
   obtain ⟨_,M2,F2,Qd2,Xd2,hs2,hv2,hw2,m1,m2⟩:=h
   have key:∀(zs:List D) (ys:List V),DVs X.K H2 (uni M2 F2) (zs ++ [d]) (ys ++ [v])→DVs X.K H2 (uni M2 F2) (d :: zs) (v :: ys):=fun zs ys hz=>by
    have z:=finM (r:=fun _ _ _ _=>True) (K:=X.K) (W:=WF) (d:=d) (ds:=zs) (x:=v) (xs:=ys) (σ:=σ) (H:=H2) (Q:=fun _ _=>True)
     ⟨_,M2,F2,fun _ _=>True,XF,hs2,hz,trivial,fun _ _ _ _ _ _ _ _=>trivial,fun _ _ _ _ _ _ _ _ z=>z.elim⟩
    have n1:=DVs.len hz
    rw [List.length_append,List.length_append,List.length_singleton,List.length_singleton] at n1
    have t1:=hz.take zs.length
    have t2:=hz.drop zs.length
    rw [List.take_left,show zs.length=ys.length by omega,List.take_left] at t1
    rw [List.drop_left,show zs.length=ys.length by omega,List.drop_left] at t2
    obtain ⟨y,w,e,k1,k2⟩:=t2
    cases e
    exact ⟨_,_,rfl,k1,t1⟩
   exact ⟨d :: zs,M2,F2,Qd2,Xd2,hs2.1,key zs ys hv2,hw2,m1,m2⟩
 refine PySem.W.methodCall_KW (pl:=pl) (thn (he.run pins s σ H _ I hh) ?_) ht
 rintro u s1 ⟨x,H1,I1,rx,a,dx,fs,rfl,ea,l,q⟩
 cases (show u=Value.ref a from rx)
 refine getmeth_ok I1 ea c hm l (PySem.W.callWith_K (first:= [.ref a]) (h₀:=X.base) I.ok.mod.kin hm.kp (thn (ha.run pos pins s1 σ H1 _ I1 q) ?_) hst hpl)
 rintro us s2 ⟨vs,H2,I2,r,q2⟩
 exact ⟨I2.kIn,run_fnS (us:= .ref a :: us) (vs:= .ref a :: vs) h1 (hr.mono hkj) h2 (passAt tk σ) I2 (.cons rfl r) q2⟩
theorem j_prop {pp:Addr} (he:JE X W o we) (c:Cls X.K C) (hp:PropOf X.K C f pp g) (F:FnJ X.prog X.w X.K X.mg X.base k g sp) (hr:Room j X.A) (hkj:k + 1≤j) (hb:attributeBase o f X.env (eval o X.env)=eval o X.env:=by rfl):JE X W (.Attribute o f pos) (wProp C ns sp we):=by
 obtain ⟨fd,ps,h1,h2⟩:=F.ex
 refine pe_mono (pe_prop he c hp h1 (hr.mono hkj) h2 .nil passL hb) fun σ H Q h=>bindE (wa:=we) (f:=fun d ds M Q Xc=>insK C ns M d fun _=>sp [d] M Q XF) h fun v d H1 h=>?_
 obtain ⟨ds,M,Fr,Qd,Xd,hs,hv,hw,l1,l2⟩:=h
 have hv':=hv
 obtain ⟨_,_,e1,g1,_⟩:=hv
 cases e1
 obtain ⟨a,dx,fs,xs,e2,q1,q2,q3,q⟩:=insK_of hs.1 hw g1
 subst e2
 exact ⟨a,dx,fs,rfl,q1, [d],M,Fr,Qd,XF,hs.1,hv',q,l1,fun _ _ _ _ _ _ _ _ z=>z.elim⟩
theorem run_mk {CX:CXT} {q:Sp} {E:XK} {fd:FuncData} {ps:List Str} {pins:List (Addr×Obj)} {σ:L2.St} {H:Hp} {s:Shared} {Q:VK} {us:List Value} {vs:List V} (Z:Mk X.K C fI) (F:FnOk X.prog X.w X.K X.mg X.base CX k fI fd ps q) (hr:Room (k + 1) X.A) (hb:Binds X.K fd ps [])
  (hx:PassesAt CX X σ E) (I:Inv X pins σ H s) (r:Vals vs us)
  (h:∀x dx,H x=none→H dx=none→dx≠x→q (.ref x :: vs) (upd (upd H dx (.own x)) x (.ins C dx [])) (fun v H2=>v= .non∧Q (.ref x) H2) E):wpAny (model X.prog X.w) X.A (call (.ref C) us) (EP X pins σ Q) X.xe s:=by
 obtain ⟨n,hn⟩:∃n,n=s.heap.objs.size:=⟨_,rfl⟩
 have f1:H n=none:=I.hok.fresh (Nat.le_of_eq hn.symm)
 have f2:H (n + 1)=none:=I.hok.fresh (Nat.le_trans (Nat.le_of_eq hn.symm) (Nat.le_succ n))
 have hq:=h (n + 1) n f2 f1 (Nat.ne_of_lt (Nat.lt_succ_self n))
 subst hn
 have J:=Inv.made (C:=C) I
 have rr:Vals (V.ref (s.heap.objs.size + 1) :: vs) (Value.ref (s.heap.objs.size + 1) :: us):= .cons rfl r
 have hl:(Value.ref (s.heap.objs.size + 1) :: us).length=ps.length:=by
  rw [← rr.length]
  exact F.len _ _ _ _ hq
 have hbt:=hb {s with heap:=_} (Value.ref (s.heap.objs.size + 1) :: us) J.kIn (by rw [List.append_nil];exact hl)
 rw [List.append_nil] at hbt
 refine wpAny_call (make_map (f:=fI) I.kIn Z.makes Z.init (beq_iff_eq.mp Z.fn) (codeAny_mono (F.run _ X.stack _ _ ⟨_, []⟩ _ _ _ E (hr.make C us []) (J.env0.make C us []) hbt rr hq) fun res s' hres=>?_))
 cases res with
 | error e=>exact hx pins _ _ e s' J hres
 | ok fl=>
  cases fl with
  | ret u=>
   obtain ⟨v,H',I3,rv,ev,q3⟩:=J.after hres
   subst ev
   exact ⟨rv,V.ref (s.heap.objs.size + 1),H',I3,rfl,q3⟩
  | next=>exact hres.elim
  | brk=>exact hres.elim
  | cont=>exact hres.elim
theorem mk_lift {xs:List D} {vs:List V} {σ:L2.St} {H:Hp} {Q:VK} (h:lift X.K W (rE X.K) xs vs (fun _ M Q Xc=>∀a,M a=none→sp (.ref a :: xs) (mput M a (.ins C [] [])) (fun d M2=>d= .non∧Fin Q (.ref a) M2) Xc) σ H Q):
  ∀x dx,H x=none→H dx=none→dx≠x→liftSp X.K sp (.ref x :: vs) (upd (upd H dx (.own x)) x (.ins C dx [])) (fun v H2=>v= .non∧Q (.ref x) H2) (L2.WE W σ):=by
 intro x dx hx hdx hne
 obtain ⟨_,M,F,Qd,Xd,hs,hv,hw,l1,l2⟩:=h
 have R1:=hs.1.new (o:=HO.own x) hdx
 have e1:=new_ext hs.1.rel (o:=HO.own x) hdx
 have hx1:upd H dx (.own x) x=none:=by rw [upd_ne (fun z=>hne z.symm)];exact hx
 have e2:=R1.xown (o:=HO.ins C dx []) (u:= .ins C [] []) hx1
 have R2:=R1.own (o:=HO.ins C dx []) (u:= .ins C [] []) hx1 ⟨dx, [],upd_same,rfl,rfl⟩
 have e:=e1.trans e2
 refine ⟨.ref x :: xs,_,F,_,Xd,R2,⟨_,_,rfl,rfl,DVs.ext hs.1.rel e _ _ hv⟩,hw x (hs.1.mfree hx),fun v H' d M' e' r' dv q=>?_,fun cls dc H' z M' e' r' dv q=>l2 cls dc H' z M' (e.trans e') r' dv q⟩
 obtain ⟨q1,d2,M2,fz,q⟩:=q
 subst q1
 exact ⟨dv,l1 (.ref x) H' d2 M2 ((e.trans e').down (sub_none fz.sub)) (r'.sub fz.sub) (fz.dv _ _ _ _ r' rfl) q⟩
theorem j_make (Z:Mk X.K C fI) (F:FnJ X.prog X.w X.K X.mg X.base k fI sp) (hr:Room j X.A) (hkj:k + 1≤j) (hm:X.mg x=some (.ref C)) (tk:Takes X W) (ha:JA X W (e :: es) wa) (hg:Gl X x:=by rfl)
  (hdb:(x == ("__debug__":Str))=false:=by decide) (he:starEach (e :: es) X.env=(false,eval e X.env) :: starEach es X.env:=by rfl) (hpl:(backTo pos (starEach es X.env)).any (·.1)=false:=by rfl):
  JE X W (.Call (.Name x p) (e :: es) [] pos) (wMake C sp wa):=by
 obtain ⟨fd,ps,h1,h2⟩:=F.ex
 refine ⟨fun pins s σ H Q I h=>wpAny_Call_Name_kw (ld_glob I hg hm ?_ hdb)⟩
 have hh:liftA X.K W wa σ H (fun vs H1=>∀x dx,H1 x=none→H1 dx=none→dx≠x→liftSp X.K sp (.ref x :: vs) (upd (upd H1 dx (.own x)) x (.ins C dx [])) (fun v H2=>v= .non∧Q (.ref x) H2) (L2.WE W σ)):=
  bindA (wa:=wa) (f:=fun xs _ M Q Xc=>∀a,M a=none→sp (.ref a :: xs) (mput M a (.ins C [] [])) (fun d M2=>d= .non∧Fin Q (.ref a) M2) Xc) h fun vs xs H1 h=>mk_lift (by rw [List.append_nil,List.append_nil] at h;exact h)
 refine PySem.W.callWith_K (h₀:=X.base) I.ok.mod.kin Z.kp (thn (ha.run pos pins s σ H _ I hh) ?_) he hpl
 rintro us s1 ⟨vs,H1,I1,r,q⟩
 exact ⟨I1.kIn,run_mk Z h1 (hr.mono hkj) h2 (passAt tk σ) I1 r q⟩
theorem j_cval {mc u:Value} {v:V} {d:D} (he:JE X W o we) (r:ClX.CRead X.K C mc) (c:ClX.CVal X.K C mc f v u) (rd:∀H M,DV X.K H M d v) (hb:attributeBase o f X.env (eval o X.env)=eval o X.env:=by rfl):
  JE X W (.Attribute o f pos) (fun ds M Q Xc=>we ds M (fun z M1=>z= .ref C∧Q d M1) Xc):=
 pe_mono (ClX.pe_cval he hb) fun σ H Q h=>bindE (wa:=we) (f:=fun z _ M Q _=>z= .ref C∧Q d M) h fun x z H1 h=>by
  obtain ⟨ds,M,Fr,Qd,Xd,hs,hv,hw,l1,l2⟩:=h
  obtain ⟨_,_,e1,g1,_⟩:=hv
  cases e1
  obtain ⟨e2,hw⟩:=hw
  subst e2
  exact ⟨C,mc,v,u,g1,r,c,l1 v H1 d M Ext.rfl' hs.1 (rd _ _) hw⟩
end
end DL
namespace DL
open PySem PySem.Spec PyProof.Rows L2 RZ
theorem tkF {X:Cx}:Takes X WF:=takes0
theorem bo_len:bootBuiltins "len"=some (.builtin "len"):=by decide +kernel
theorem bo_isinstance:bootBuiltins "isinstance"=some (.builtin "isinstance"):=by decide +kernel
theorem bo_all:bootBuiltins "all"=some (.builtin "all"):=by decide +kernel
theorem bo_any:bootBuiltins "any"=some (.builtin "any"):=by decide +kernel
theorem bo_int:bootBuiltins "int"=some (.type "int"):=by decide +kernel
theorem bo_str:bootBuiltins "str"=some (.type "str"):=by decide +kernel
theorem bo_bool:bootBuiltins "bool"=some (.type "bool"):=by decide +kernel
theorem bo_list:bootBuiltins "list"=some (.type "list"):=by decide +kernel
theorem bo_tuple:bootBuiltins "tuple"=some (.type "tuple"):=by decide +kernel
theorem bo_dict:bootBuiltins "dict"=some (.type "dict"):=by decide +kernel
def wIsT (cs:List String) (we:WE):WE:=fun ds M Q Xc=>we ds M (fun d M1=>cs.all (fun c=> ["bool","int","str","tuple","list","dict"].contains c)=true∧optK (tyN M1 d) fun n=>Q (.bl (cs.any (isB n))) M1) Xc
section
variable {X : Cx} {W : WX} {e : Expr} {es : List Expr} {we : WE} {p pos p2 : Pos} {cs : List String} {k2 : Nat}
theorem pcs_nil:PA X [] (fun _ H Q=>Q (([]:List String).map V.ty) H):=pa_nil
theorem pcs_cons {n:String} (h:PE X e (tC (.ty n))) (hr:PA X es (fun _ H Q=>Q (cs.map V.ty) H)) (hs:starEach (e :: es) X.env=(false,eval e X.env) :: starEach es X.env:=by rfl):PA X (e :: es) (fun _ H Q=>Q ((n :: cs).map V.ty) H):=pa_cons h hr hs
theorem kit_any {K:PySem.W.Frag} {n:String} (hn:n∈ ["NoneType","bool","int","str","tuple","list","dict"]):∀cs:List String,cs.all (fun c=> ["bool","int","str","tuple","list","dict"].contains c)=true→PySem.W.kitAny K (.type n) (cs.map Value.type)=some (cs.any (isB n))
 | [],_=>rfl
 | c :: cs,h=>by
  rw [List.all_cons,Bool.and_eq_true] at h
  have hc:c∈ ["bool","int","str","tuple","list","dict"]:=List.contains_iff_mem.mp h.1
  rw [List.map_cons,List.any_cons]
  refine kitAny_cons (b:=isB n c) (kit_ty (isB_ok n hn c hc)) (fun e=>?_) (fun e=>?_)
  ·rw [e,kit_any hn cs h.2,Bool.false_or]
  ·rw [e,Bool.true_or]
theorem paired_cls:∀cs:List String,Paired ClsV (cs.map V.ty) (cs.map Value.type)
 | []=> .nil
 | c :: cs=> .cons (.ty c) (paired_cls cs)
theorem j_isiT (hm:X.mg "isinstance"=none) (he:JE X W e we) (ht:PA X es (fun _ H Q=>Q (cs.map V.ty) H)) (hl:cs.length≤1000:=by decide) (hg:Gl X "isinstance":=by rfl)
  (h1:starEach [e, .Tuple es k2 p2] X.env=(false,eval e X.env) :: starEach [.Tuple es k2 p2] X.env:=by rfl) (h2:starEach [.Tuple es k2 p2] X.env=(false,eval (.Tuple es k2 p2) X.env) :: starEach [] X.env:=by rfl) (hpl:(backTo pos (starEach [.Tuple es k2 p2] X.env)).any (·.1)=false:=by rfl):
  JE X W (.Call (.Name "isinstance" p) [e, .Tuple es k2 p2] [] pos) (wIsT cs we):=
 pe_mono (pe_callB call_isiT hg hm bo_isinstance (pa_cons he (pa_cons (pe_tup ht) pa_nil h2) h1) (by decide) (by decide) h1 hpl) fun σ H Q h=>
  bindE (wa:=we) (f:=fun d _ M Q _=>cs.all (fun c=> ["bool","int","str","tuple","list","dict"].contains c)=true∧optK (tyN M d) fun n=>Q (D.bl (cs.any (isB n))) M) h fun v d H1 h=>by
   obtain ⟨ds,M,F,Qd,Xd,hs,hv,hw,l1,l2⟩:=h
   obtain ⟨_,_,e1,g1,_⟩:=hv
   cases e1
   obtain ⟨hc,hw⟩:=hw
   obtain ⟨n,hn,q⟩:=optK_of hw
   refine ⟨by rw [List.length_map];exact Nat.le_trans hl (by decide),fun tp htp=>?_⟩
   have x:=new_ext hs.1.rel (o:=HO.tup (cs.map V.ty)) htp
   have R:=hs.1.new (o:=HO.tup (cs.map V.ty)) htp
   obtain ⟨t,hn2⟩:=tyN_ok R hn (DV.ext hs.1.rel x _ _ g1)
   exact ⟨v,tp,_, .type n,_,cs.any (isB n),rfl,upd_same,paired_cls cs,t,kit_any hn2 cs hc,l1 (.bl _) _ (.bl _) M x R rfl q⟩
end
def wPar (i j:Nat) (wa:WA):WS:=fun E ds M=>wa ds M (fun es M1=>match es with | [d,e]=>E.nx ((ds.set i (some d)).set j (some e)) M1 | _=>False) (E.xc ds)
section
variable {X : Cx} {W : WX}
theorem js_par {i j:Nat} {x y:Str} {a b:Expr} {wa:WA} {px py pt pos:Pos} {kt k2 pt2} (hc:X.calm=true) (hN:X.N.Nodup) (ha:JA X W [a,b] wa) (hij:i≠j:=by decide) (hi:X.N[i]?=some x:=by rfl) (hj:X.N[j]?=some y:=by rfl)
  (hx:X.env.scope.names.lookup x=some .local:=by rfl) (hy:X.env.scope.names.lookup y=some .local:=by rfl)
  (hw:swappedStores [.Tuple [.Name x px, .Name y py] kt pt] (.Tuple [a,b] k2 pt2) X.env=pure (some [x,y]):=by rfl)
  (hs:swapsWithSole [.Tuple [.Name x px, .Name y py] kt pt] (.Tuple [a,b] k2 pt2) pos.line X.env=pure false:=by rfl):
  JS X W (.Assign [.Tuple [.Name x px, .Name y py] kt pt] (.Tuple [a,b] k2 pt2) pos) (wPar i j wa):=
 ps_mono (ps_par hc hN hi hj hij hx hy ha hw hs) fun D' σ H h=>by
  obtain ⟨ds,M,F,E,hs,hv,hw,l⟩:=h
  refine ⟨ds,M,F,_,E.xc ds,hs,rfl,hw,fun vs H' es M' e r dv q=>?_,fun cls dc H' x M' e r dv q=>l.ex cls dc σ H' x ds M' e (hs.ext e r) dv q⟩
  dsimp only at q
  split at q
  ·obtain ⟨v,u,e1,g1,g2⟩:=dv2 dv
   subst e1
   exact ⟨v,u,rfl,l.nx _ H' _ M' e ⟨r,Sl.set (Sl.set (hs.ext e r).2 g1) g2⟩ q⟩
  ·exact q.elim
end
def rRepD:RD2:=fun d e M Q=>match d,e with
 | .lst xs, .int k=> -(2 ^ 63)≤k∧k < 2 ^ 63∧xs.length * k.toNat≤sizeLine∧Q (.lst (List.replicate k.toNat xs).flatten) M
 | _,_=>False
def strsD:List D→Option (List Str)
 | []=>some []
 | .str x :: ds=>(strsD ds).map (x :: ·)
 | _=>none
def rJoinD (d:D) (ds:List D) (M:Mem) (Q:KN):Prop:=match d,ds with
 | .str a, [.lst xs]=>optK (strsD xs) fun ys=>(ys.map (·.length)).sum + ys.length * a.length≤16777216∧Q (.str (Txt.join a ys)) M
 | _,_=>False
theorem strsD_map {α:Type} (f:α→Str):∀xs:List α,strsD (xs.map fun x=>D.str (f x))=some (xs.map f)
 | []=>rfl
 | x :: xs=>by
  show (strsD (xs.map fun x=>D.str (f x))).map (f x :: ·)=_
  rw [strsD_map f xs]
  rfl
theorem DVs.rep {K:PySem.W.Frag} {H:Hp} {M:Mem} {ds:List D} {xs:List V} (h:DVs K H M ds xs):∀n:Nat,DVs K H M (List.replicate n ds).flatten (List.replicate n xs).flatten
 | 0=>rfl
 | n + 1=>by
  rw [List.replicate_succ,List.replicate_succ,List.flatten_cons,List.flatten_cons]
  exact DVs.app h (DVs.rep h n)
theorem DVs.strs {K:PySem.W.Frag} {H:Hp} {M:Mem}:∀{ds:List D} {ys:List Str} {xs:List V},strsD ds=some ys→DVs K H M ds xs→xs=ys.map V.str
 | [],ys,xs,h,g=>by
  cases h
  exact g
 | d :: ds,ys,xs,h,g=>by
  obtain ⟨y,zs,e,g1,g2⟩:=g
  subst e
  cases d <;> first | cases h | skip
  rename_i b
  cases (show y= .str b from g1)
  have h':(strsD ds).map (b :: ·)=some ys:=h
  cases q:strsD ds with
  | none=>
   rw [q] at h'
   cases h'
  | some cs=>
   rw [q] at h'
   cases h'
   rw [DVs.strs q g2]
   rfl
section
variable {X : Cx}
theorem od_rep:OpR X (binaryOp .Mult) (liftV2 X.K rRepD):=by
 intro pins s σ H x y v u Q I rx ry hh
 obtain ⟨d,e,M,F,Qd,R,h1,h2,h3,l⟩:=hh
 unfold rRepD at h3
 split at h3
 ·rename_i xs k
  obtain ⟨a,ys,e1,g1,_,g2⟩:=h1
  subst e1
  cases (show y= .int k from h2)
  obtain ⟨q1,q2,q3,q⟩:=h3
  refine op_rep pins s σ H _ _ v u Q I rx ry ⟨a,k,ys,rfl,rfl,g1,q1,q2,by rw [g2.len];exact q3,fun p hp=>?_⟩
  have e':=new_ext R.rel (o:=HO.lst (List.replicate k.toNat ys).flatten) hp
  exact l _ _ (.lst (List.replicate k.toNat xs).flatten) M e' (R.new hp) ⟨p,_,rfl,upd_same,R.rel.free hp,DVs.ext R.rel e' _ _ (g2.rep _)⟩ q
 ·exact h3.elim
theorem md_join:MtR X "str.join" (liftM X.K rJoinD):=by
 intro pins s σ H x xs v us Q I rx rs hh
 obtain ⟨d,ds,M,F,Qd,R,h1,h2,h3,l⟩:=hh
 unfold rJoinD at h3
 split at h3
 ·rename_i a zs
  cases (show x= .str a from h1)
  obtain ⟨y,e,g⟩:=dv1 h2
  subst e
  obtain ⟨b,ws,e1,g1,_,g2⟩:=g
  subst e1
  obtain ⟨ys,q1,q2,q⟩:=optK_of h3
  have e2:=DVs.strs q1 g2
  subst e2
  exact mt_join pins s σ H _ _ v us Q I rx rs ⟨a,b,ys,rfl,rfl, .inl (SqL.of g1),q2,l (.str _) H (.str _) M Ext.rfl' R rfl q⟩
 ·exact h3.elim
end
def wFz (w:WE):WE:=fun ds M Q Xc=>w ds M (Fin Q) Xc
theorem j_fz {X:Cx} {W:WX} {e:Expr} {w:WE} (h:JE X W e w):JE X W e (wFz w):=pe_mono h fun σ H Q h=>by
 obtain ⟨ds,M,F,Qd,Xd,hs,hv,hw,l1,l2⟩:=h
 refine ⟨ds,M,F,Fin Qd,Xd,hs,hv,hw,fun v H' d M' e r dv q=>?_,l2⟩
 obtain ⟨d2,M2,fz,q⟩:=q
 exact l1 v H' d2 M2 (e.down (sub_none fz.sub)) (r.sub fz.sub) (fz.dv _ _ _ _ r dv) q
end DL
namespace DL
open PySem PySem.Spec PyProof.Rows L2 RZ
def kIn (k:Key) (xs:List Key):Bool:=xs.any fun x=>decide (k=x)
theorem kIn_iff {k:Key} {xs:List Key}:kIn k xs=true↔k∈xs:=by
 unfold kIn
 rw [List.any_eq_true]
 constructor
 ·rintro ⟨x,h,e⟩
  rw [of_decide_eq_true e]
  exact h
 ·exact fun h=>⟨k,h,decide_eq_true rfl⟩
def metK (ks:List Key):Nat→List Key
 | 0=> []
 | i + 1=>match ks[i]? with
  | some k=>if kIn k (metK ks i)=true then metK ks i else metK ks i ++ [k]
  | none=>metK ks i
theorem metK_le (ks:List Key):∀i,(metK ks i).length≤i
 | 0=>Nat.le_refl 0
 | i + 1=>by
  have ih:=metK_le ks i
  show (match ks[i]? with
   | some k=>if kIn k (metK ks i)=true then metK ks i else metK ks i ++ [k]
   | none=>metK ks i).length≤i + 1
  split
  ·split
   ·omega
   ·rw [List.length_append,List.length_singleton];omega
  ·omega
theorem metK_some {ks:List Key} {i:Nat} {k:Key} (h:ks[i]?=some k):metK ks (i + 1)=if kIn k (metK ks i)=true then metK ks i else metK ks i ++ [k]:=by
 show (match ks[i]? with
   | some k=>if kIn k (metK ks i)=true then metK ks i else metK ks i ++ [k]
   | none=>metK ks i)=_
 rw [h]
theorem metK_mem (ks:List Key) (x:Key):∀i,x∈metK ks i↔x∈ks.take i
 | 0=>by simp [metK]
 | i + 1=>by
  cases h:ks[i]? with
  | none=>
   have e:metK ks (i + 1)=metK ks i:=by
    show (match ks[i]? with
     | some k=>if kIn k (metK ks i)=true then metK ks i else metK ks i ++ [k]
     | none=>metK ks i)=_
    rw [h]
   rw [e,metK_mem ks x i,List.take_add_one,h]
   simp
  | some k=>
   rw [metK_some h,List.take_add_one,h]
   have ih:=metK_mem ks x i
   split
   ·rename_i hm
    rw [ih]
    simp only [Option.toList_some,List.mem_append,List.mem_singleton]
    constructor
    ·exact .inl
    ·rintro (q | q)
     ·exact q
     ·rw [q];exact (metK_mem ks k i).mp (kIn_iff.mp hm)
   ·simp [ih]
theorem metK_nodup (ks:List Key):∀i,i≤ks.length→((metK ks i).length=i↔(ks.take i).Nodup)
 | 0,_=>by simp [metK]
 | i + 1,hi=>by
  have hlt:i < ks.length:=hi
  have h:ks[i]?=some ks[i]:=List.getElem?_eq_getElem hlt
  have ih:=metK_nodup ks i (Nat.le_of_lt hlt)
  have le:=metK_le ks i
  rw [metK_some h,List.take_add_one,h,Option.toList_some,List.nodup_append]
  have hm:=metK_mem ks ks[i] i
  split
  ·rename_i hin
   constructor
   ·intro q;omega
   ·rintro ⟨_,_,q⟩
    exact absurd rfl (q _ (hm.mp (kIn_iff.mp hin)) _ (List.mem_singleton.mpr rfl))
  ·rename_i hin
   rw [List.length_append,List.length_singleton]
   constructor
   ·intro q
    refine ⟨ih.mp (by omega),by simp,fun a ha b hb e=>?_⟩
    rw [List.mem_singleton.mp hb] at e
    subst e
    exact hin (kIn_iff.mpr (hm.mpr ha))
   ·rintro ⟨q,_⟩
    rw [ih.mpr q]
theorem setK_congr {prog:Program} {w:World} {h:Heap} {a:Addr} {S S':Key→Bool} {n n':Nat} (hS:h.SetOf (mixKind prog w) a S n) (e:∀k,S k=S' k) (en:n=n'):h.SetOf (mixKind prog w) a S' n':=by
 have q:S=S':=funext e
 subst q
 subst en
 exact hS
theorem keys_at {ks:List Key} {us:List Value} (h:Vals (ks.map kV) us) (i:Nat) (v:Value) (e:us[i]?=some v):∃k,ks[i]?=some k∧RelV (kV k) v:=by
 have hl:ks.length=us.length:=by have q:=h.length;rw [List.length_map] at q;exact q
 have hi:i < ks.length:=by rw [hl];exact (List.getElem?_eq_some_iff.mp e).1
 obtain ⟨u,hu,r⟩:=h.get (i:=i) (x:=kV ks[i]) (by simp [hi])
 rw [e] at hu
 cases hu
 exact ⟨ks[i],List.getElem?_eq_getElem hi,r⟩
section
variable {prog : Program} {w : World}
abbrev InK (prog:Program) (w:World) (h:Heap) (S:Addr) (ks:List Key) (i:Nat):Prop:=h.SetOf (mixKind prog w) S (fun x=>kIn x (metK ks i)) (metK ks i).length
theorem InK.next {h:Heap} {S:Addr} {ks:List Key} {i:Nat} {y:Key} (hy:ks[i]?=some y)
  (g:h.SetOf (mixKind prog w) S (fun x=>kIn x (metK ks i) || decide (x=y)) (if kIn y (metK ks i)=true then (metK ks i).length else (metK ks i).length + 1)):InK prog w h S ks (i + 1):=by
 have e:=metK_some hy
 by_cases hin:kIn y (metK ks i)=true
 ·rw [if_pos hin] at e g
  refine setK_congr g (fun x=>?_) (by rw [e])
  rw [e]
  by_cases hx:x=y
  ·rw [hx,hin,Bool.true_or]
  ·rw [decide_eq_false hx,Bool.or_false]
 ·rw [if_neg hin] at e g
  refine setK_congr g (fun x=>?_) (by rw [e,List.length_append,List.length_singleton])
  rw [e]
  unfold kIn
  rw [List.any_append,List.any_cons,List.any_nil,Bool.or_false]
theorem InK.moved {h h':Heap} {S:Addr} {ks:List Key} {i:Nat} (g:InK prog w h S ks i) (m:∀o,h.get? S=some o→h'.get? S=some o):InK prog w h' S ks i:=setOf_at g m
theorem fill {A:Around} {R:Result→Shared→Prop} {I:Addr} {fp wr:List Addr} {G:Array GenState→Array GenState→Prop} {P:Nat→Value→Prop} {St:Nat→Shared→Prop} {ks:List Key} (S:Addr) (out:S∉fp) (few:ks.length + 1 < scanBound)
  (W:WalksS prog w A.in1 I fp wr G ks.length P St) (hP:∀i v,P i v→∃k,ks[i]?=some k∧RelV (kV k) v):∀(left i:Nat) (s:Shared),i + left=ks.length→St i s→InK prog w s.heap S ks i→
   (∀s',Moved (S :: wr) G s s'→InK prog w s'.heap S ks ks.length→R (.ok (.ret .none)) s')→codeAny (model prog w) A (.builtin "set.update.loop" ⟨[.ref S, .ref I], []⟩) R s
 | 0,i,s,hi,st,g,k=>by
  obtain rfl:i=ks.length:=hi
  refine codeAny_builtin PyProof.Rows.F.entry_set_update_loop (by
   rw [Around.under_plainId PyProof.Rows.F.plain_set_update_loop _]
   exact wpAny_bind (m:=pyNext (.ref I)) (W.done s _ _ st fun s' m=>wpAny_pure (k s' (m.mono fun b hb=>List.mem_cons_of_mem _ hb) (g.moved fun o e=>m.heap S o (fun h=>out (W.sub _ h)) e))))
 | left + 1,i,s,hi,st,g,k=>by
  refine codeAny_builtin PyProof.Rows.F.entry_set_update_loop (by
   rw [Around.under_plainId PyProof.Rows.F.plain_set_update_loop _]
   refine wpAny_bind (m:=pyNext (.ref I)) (W.item i s _ _ (by omega) st fun v s1 hv st1 m=>?_)
   obtain ⟨y,hy,ry⟩:=hP i v hv
   have g1:=g.moved fun o e=>m.heap S o (fun h=>out (W.sub _ h)) e
   refine wpAny_bind (m:=holding [v] (setAdd S v)) (wpAny_holding ?_)
   unfold setAdd
   refine wpAny_holding (wpAny_bind ((mixKind prog w).pyHash (k:=y) (kV_is ry) ?_))
   refine wpAny_setAddHashed_of (s:={s1 with toks:=s1.toks + 1}) (knd:=mixKind prog w) (kV_is ry) (key_scan ry) g1 (by have:=metK_le ks i;omega) fun h2 only g2=>wpAny_pure ⟨plainId_quiet PyProof.Rows.F.plain_set_update_loop _,?_⟩
   refine fill S out few W hP left (i + 1) _ (by omega) (W.frame _ s1 _ _ st1 (Nat.le_add_right _ 1) fun b hb o e=>?_) (InK.next hy g2) fun s3 m3 g3=>k s3 ?_ g3
   ·exact (only.2 b fun z=>out (z ▸ hb)).trans e
   ·refine Moved.trans W.gtrans (Moved.then_heap (m.mono fun b hb=>List.mem_cons_of_mem _ hb) (Nat.le_add_right _ 1) fun b o hb e=>?_) m3
    exact (only.2 b fun z=>hb (z ▸ List.mem_cons_self)).trans e)
abbrev eS (led:Bool):Obj:={cls:= .type "set",dict:=none,data:= .set #[] 0 (.fresh 0 0 led)}
def Sq (h:Heap) (l:Addr) (us:Array Value):Prop:=h.IsList l us∨h.IsTuple l us
theorem Sq.more {h:Heap} {l:Addr} {us:Array Value} (q:Sq h l us) (o:Obj):Sq (h.push o) l us:=q.imp (fun x=>x.push o) fun x=>x.push o
abbrev Full (prog:Program) (w:World) (ks:List Key) (S:Addr) (s:Shared) (r:Value) (s':Shared):Prop:=
 r= .none∧∃h' tk,s'={s with heap:=h',toks:=tk}∧InK prog w h' S ks ks.length∧∀b o,b≠S→s.heap.get? b=some o→h'.get? b=some o
theorem fill_new {A:Around} {s:Shared} {S l I:Addr} {ks:List Key} {led:Bool} {it:Obj} {P:Nat→Value→Prop} {St:Nat→Shared→Prop} {G:Array GenState→Array GenState→Prop}
  (hI:I=s.heap.objs.size) (hS:s.heap.get? S=some (eS led)) (hl:l < s.heap.objs.size) (ne:S≠l) (few:ks.length + 1 < scanBound) (W:WalksS prog w A.in1 I [I,l] [I] G ks.length P St) (hP:∀i v,P i v→∃k,ks[i]?=some k∧RelV (kV k) v)
  (hG:∀s':Shared,Moved [S,I] G {s with heap:=s.heap.push it} s'→s'.gens=s.gens∧s'.drawn=s.drawn∧s'.os=s.os) (st:St 0 {s with heap:=s.heap.push it}) {R:Result→Shared→Prop} (k:∀s',Full prog w ks S s .none s'→R (.ok (.ret .none)) s'):
  codeAny (model prog w) A (.builtin "set.update.loop" ⟨[.ref S, .ref I], []⟩) R {s with heap:=s.heap.push it}:=by
 have lS:=Heap.lt_size hS
 have z:(s.heap.push it).get? S=some (eS led):=Heap.get?_push_of_some _ hS
 refine fill S (by subst hI;simp only [List.mem_cons,List.not_mem_nil,or_false,not_or];exact ⟨Nat.ne_of_lt lS,ne⟩) few W hP ks.length 0 _ (Nat.zero_add _) st
  ⟨_, #[],0,_,z,⟨rfl,rfl,rfl⟩,rfl,fun e he=>absurd he (by simp),fun x=>by simp [kIn,metK],by decide,rfl,rfl⟩ fun s' m g=>k s' ⟨rfl,s'.heap,s'.toks,?_,g,fun b o hb e=>?_⟩
 ·obtain ⟨e1,e2,e3⟩:=hG s' m
  cases s'
  cases e1
  cases e2
  cases e3
  rfl
 ·have lb:=Heap.lt_size e
  refine m.heap b o ?_ (Heap.get?_push_of_some _ e)
  subst hI
  simp only [List.mem_cons,List.not_mem_nil,or_false,not_or]
  exact ⟨hb,Nat.ne_of_lt lb⟩
end
section
variable {prog : Program} {w : World} {A : Around} {E : Value → Shared → Prop} {s : Shared} {S l : Addr} {us : Array Value} {ks : List Key} {led : Bool}
set_option maxHeartbeats 3200000 in
theorem init_sq (free:A.handled=none) (hS:s.heap.get? S=some (eS led)) (hl:Sq s.heap l us) (ne:S≠l) (hks:Vals (ks.map kV) us.toList) (few:ks.length + 1 < scanBound):
  codeAny (model prog w) A (.call (.builtin "set.__init__") ⟨[.ref S, .ref l], []⟩) (wants (Full prog w ks S s) E) s:=by
 have n:ks.length=us.size:=by
  have q:=hks.length
  rwa [List.length_map,Array.length_toList] at q
 have hP:∀(i:Nat) (v:Value),us[i]?=some v→∃k,ks[i]?=some k∧RelV (kV k) v:=fun i v e=>keys_at hks i v (by rw [Array.getElem?_toList];exact e)
 have f3:A.in1.in1.handled=none:=free
 have notD:(Value.type "list" == Value.type "dict")=false:=by decide
 have notT:(Value.type "tuple" == Value.type "dict")=false:=by decide
 refine codeAny_call_builtin PySem.F.called_set.init.plain PySem.F.entry_set_init (check_set_init_1 ⟨_,hS,rfl⟩ ?_)
 rcases hl with hl | hl
 ·have hl':=hl
  obtain ⟨⟨c1,c2,c3,c4⟩,a1,a2,k1,a3⟩:=hl'
  cases a2
  cases a3
  have n1:=PySem.F.sub_list_set
  have n2:=PySem.F.sub_list_frozenset
  unfold Builtin.«set.__init__» noKeywords Builtin.Frozenset.updateFrom
  generalize hp:pyIter=next
  wp_walk
  subst hp
  have lt:=Heap.lt_size a1
  have W:=(Walks.list (prog:=prog) (w:=w) f3 s.heap.objs.size l (Nat.ne_of_lt lt) us).toS
  rw [← n] at W
  refine wpAny_pyIter_list hl (wpAny_bind (wpAny_runValue ?_))
  refine fill_new (led:=led) (G:=fun a b=>b=a) rfl hS lt ne few W hP (fun s' m=>⟨m.gens,m.drawn,m.os⟩) ⟨⟨_,Heap.get?_push_size _ rfl,rfl,rfl⟩,hl.push _⟩ fun s' fin=>?_
  exact wpAny_pure (wpAny_pure fin)
 ·have hl':=hl
  obtain ⟨⟨c1,c2,c3,c4⟩,a1,a2,k1,a3⟩:=hl'
  cases a2
  cases a3
  have n1:=PySem.F.sub_tuple_set
  have n2:=PySem.F.sub_tuple_frozenset
  unfold Builtin.«set.__init__» noKeywords Builtin.Frozenset.updateFrom
  generalize hp:pyIter=next
  wp_walk
  subst hp
  have lt:=Heap.lt_size a1
  have W:=(Walks.tuple (prog:=prog) (w:=w) f3 s.heap.objs.size l (Nat.ne_of_lt lt) us).toS
  rw [← n] at W
  refine wpAny_pyIter_tuple hl (wpAny_bind (wpAny_runValue ?_))
  refine fill_new (led:=led) (G:=fun a b=>b=a) rfl hS lt ne few W hP (fun s' m=>⟨m.gens,m.drawn,m.os⟩) ⟨⟨_,Heap.get?_push_size _ rfl,rfl,rfl⟩,hl.push _⟩ fun s' fin=>?_
  exact wpAny_pure (wpAny_pure fin)
set_option maxHeartbeats 3200000 in
theorem set_sq {Q:Value→Shared→Prop} (free:A.handled=none) (hl:Sq s.heap l us) (hks:Vals (ks.map kV) us.toList) (few:ks.length + 1 < scanBound)
  (q:∀(h':Heap) (tk:Nat),InK prog w h' s.heap.objs.size ks ks.length→(∀b o,b < s.heap.objs.size→s.heap.get? b=some o→h'.get? b=some o)→Q (.ref s.heap.objs.size) {s with heap:=h',toks:=tk}):
  wpAny (model prog w) A (call (.type "set") [.ref l]) Q E s:=by
 have lt:l < s.heap.objs.size:=by
  rcases hl with ⟨o,e,_⟩ | ⟨o,e,_⟩ <;> exact Heap.lt_size e
 obtain ⟨_,_,order⟩:=PySem.F.called_set.mro
 have t1:=PySem.F.called_set.made
 have t2:=PySem.F.called_set.sub
 have t3:=PySem.F.called_set.notType
 have t4:=PySem.F.called_set.canCreate
 have t5:=PySem.F.typeCall_set_1 (.ref l)
 refine wpAny_call (codeAny_of_tree (wpAny_pure ⟨Code.quiet_builtin _ (by decide +kernel),codeAny_builtin PySem.F.entry_type_call ?_⟩))
 rw [Around.under_plain (weight_type_call_type "set" [.ref l] []) rfl]
 repeat any_goals first | assumption | wp_step
 refine codeAny_mono (code_set_new_1 (.ref l) (E:=E) (Q₁:=fun x s1=>x= .ref s.heap.objs.size∧∃led,s1={s with heap:=s.heap.push (eS led)}) fun led=>⟨rfl,led,rfl⟩) fun res s1 made=>?_
 rcases res with e | fl
 ·exact made
 ·cases fl <;> first | exact made.elim | skip
  obtain ⟨e1,led,e2⟩:=made
  cases e1
  cases e2
  have here:(s.heap.push (eS led)).get? s.heap.objs.size=some (eS led):=Heap.get?_push_size _ rfl
  have isS:Shared.TypeIs {s with heap:=s.heap.push (eS led)} (.ref s.heap.objs.size) "set":=⟨_,here,rfl⟩
  have t6:=PySem.F.called_set.init.lookup
  have t7:=PySem.F.called_set.init.bind (.ref s.heap.objs.size)
  repeat any_goals first | assumption | wp_step
  refine codeAny_mono (init_sq (E:=E) (led:=led) free here (hl.more _) (Nat.ne_of_gt lt) hks few) fun res s2 fin=>?_
  rcases res with e | fl
  ·exact fin
  ·cases fl <;> first | exact fin.elim | skip
   obtain ⟨e1,h',tk,e2,g,keep⟩:=fin
   cases e1
   cases e2
   repeat any_goals first | assumption | wp_step
   exact q h' tk g fun b o hb e=>keep b o (Nat.ne_of_lt hb) (Heap.get?_push_of_some _ e)
end
def keyD:D→Option Key
 | .int i=>some (.inl i)
 | .str x=>some (.inr x)
 | _=>none
def keysD:List D→Option (List Key)
 | []=>some []
 | d :: ds=>match keyD d with
  | some k=>(keysD ds).map (k :: ·)
  | none=>none
theorem keysD_ok {K:PySem.W.Frag} {H:Hp} {M:Mem}:∀{ds:List D} {ks:List Key} {xs:List V},keysD ds=some ks→DVs K H M ds xs→xs=ks.map kV
 | [],ks,xs,h,g=>by
  cases h
  exact g
 | d :: ds,ks,xs,h,g=>by
  obtain ⟨y,ys,e,g1,g2⟩:=g
  subst e
  unfold keysD at h
  split at h
  ·rename_i k hk
   cases q:keysD ds with
   | none=>rw [q] at h;cases h
   | some js=>
    rw [q] at h
    cases h
    rw [keysD_ok q g2,List.map_cons]
    have e:y=kV k:=by
     cases d <;> first | cases hk;exact g1 | cases hk
    rw [e]
  ·cases h
def wLenSet (we:WE):WE:=fun ds M Q Xc=>we ds M (fun d M1=>optK (seqOf M1 d) fun xs=>optK (keysD xs) fun ks=>ks.length < 4000∧Q (.int (metK ks ks.length).length) M1) Xc
section
variable {X : Cx} {W : WX}
theorem j_lenSet {a:Expr} {we:WE} {p p2 q pos:Pos} (hc:X.calm=true) (hm:X.mg "len"=none) (hm2:X.mg "set"=none) (ha:JE X W a we) (hg:Gl X "len":=by rfl) (hg2:Gl X "set":=by rfl)
  (na:starEach [a] X.env=(false,eval a X.env) :: starEach [] X.env:=by rfl):JE X W (.Call (.Name "len" p) [.Call (.Name "set" p2) [a] [] q] [] pos) (wLenSet we):=by
 refine ⟨fun pins s σ H Q I h=>?_⟩
 refine Call_ (ld_blt I hg hm boot_len ?_)
 refine PyProof.Rows.callWith_builtin1 (PyProof.Rows.args_cons ?_ rfl) rfl rfl
 refine Call_ (ld_blt I hg2 hm2 boot_set ?_)
 have hh:=bindE (R:=fun v H1=>∃l ks,v=V.ref l∧(SqL X.K H1 l (ks.map kV)∨SqT X.K H1 l (ks.map kV))∧ks.length < 4000∧Q (.int (metK ks ks.length).length) H1) (wa:=we) (f:=fun d _ M Q _=>optK (seqOf M d) fun xs=>optK (keysD xs) fun ks=>ks.length < 4000∧Q (D.int (metK ks ks.length).length) M) h fun v d H1 h=>by
  obtain ⟨ds,M,F,Qd,Xd,hs,hv,hw,l1,l2⟩:=h
  obtain ⟨_,_,e1,g1,_⟩:=hv
  cases e1
  obtain ⟨xs,e2,hw⟩:=optK_of hw
  obtain ⟨ks,e3,hl,q⟩:=optK_of hw
  obtain ⟨l,ys,e4,sq,dv⟩:=seqOf_ok hs.1 e2 g1
  have e5:=keysD_ok e3 dv
  subst e5
  exact ⟨l,ks,e4,sq,hl,l1 (.int _) H1 (.int _) M Ext.rfl' hs.1 rfl q⟩
 refine PyProof.Rows.callWith_type1 (PyProof.Rows.args_cons (thn (ha.run pins s σ H _ I hh) fun v s1 ⟨x,H1,I1,r1,q1⟩=>PyProof.Rows.args_nil ?_) na) na rfl
 obtain ⟨l,ks,rfl,hq,h1,q1⟩:=q1
 cases r1
 have go:∀its:List Value,Vals (ks.map kV) its→Sq s1.heap l its.toArray→wpAny (model X.prog X.w) X.A (call (.type "set") [.ref l]) (fun v s₂=>wpAny (model X.prog X.w) X.A (spliced (backTo pos (starEach [] X.env))) (fun vs s₃=>wpAny (model X.prog X.w) X.A (call (.builtin "len") (v :: vs)) (EP X pins σ Q) X.xe s₃) X.xe s₂) X.xe s1:=fun its r at_=>by
  refine set_sq (I1.ok.hd hc) at_ (by simpa using r) (by unfold scanBound;omega) fun h' tk g keep=>PyProof.Rows.args_nil ?_
  obtain ⟨o,es,ep,t,g1,g2,g3,_,_,_,g4,g5⟩:=g
  have le:=metK_le ks ks.length
  refine call_len_set g1 g2 g3 g4 (by rw [g5];omega) ⟨.int (metK ks ks.length).length,H1,(I1.kept fun b o e=>keep b o (Heap.lt_size e) e).tok _,⟨_,by rw [g5]⟩,q1⟩
 rcases hq with hq | hq
 ·obtain ⟨its,r,at_,_⟩:=I1.list hq
  exact go its r (.inl at_.isList)
 ·obtain ⟨its,r,at_,_⟩:=I1.tuple hq
  exact go its r (.inr at_)
end
structure GK (K:PySem.W.Frag) (mg:Str→Option Value) (x:Str) (d:D):Prop where
 ex:∃u v,mg x=some u∧RelV v u∧∀H M,DV K H M d v
theorem j_k {X:Cx} {W:WX} {x:Str} {d:D} {pos:Pos} (h:GK X.K X.mg x d) (hg:Gl X x:=by rfl) (hd:(x == ("__debug__":Str))=false:=by decide):JE X W (.Name x pos) (wC d):=by
 obtain ⟨u,v,h1,h2,h3⟩:=h.ex
 exact j_glob h1 h2 h3 hg hd
structure DefAt (K:PySem.W.Frag) (x qual:Str) (st:Stmt) (ps:List Str) (f:Addr):Prop where
 ex:∃fd,Fun K x qual st f fd∧Binds K fd ps []
structure CVk (K:PySem.W.Frag) (C:Addr) (f:Str) (d:D):Prop where
 ex:∃mc v u,ClX.CRead K C mc∧ClX.CVal K C mc f v u∧∀H M,DV K H M d v
def wCv (C:Addr) (d:D) (we:WE):WE:=fun ds M Q Xc=>we ds M (fun z M1=>z= .ref C∧Q d M1) Xc
theorem j_cv {X:Cx} {W:WX} {o:Expr} {f:Str} {pos:Pos} {we:WE} {C:Addr} {d:D} (c:CVk X.K C f d) (he:JE X W o we) (hb:attributeBase o f X.env (eval o X.env)=eval o X.env:=by rfl):JE X W (.Attribute o f pos) (wCv C d we):=by
 obtain ⟨mc,v,u,h1,h2,h3⟩:=c.ex
 exact j_cval he h1 h2 h3 hb
theorem FnJ.mkAt {P:Program} {w:World} {K:PySem.W.Frag} {mg:Str→Option Value} {base:Heap} {k:Nat} {x qual:Str} {st:Stmt} {f:Addr} {N ps:List Str} {sp:SpD} {wb:WS}
  (F:DefAt K x qual st ps f) (S:FnScope N ps (defScope st))
  (body:∀(cdv:Value) (A:Around) (outer:List Env) (s:Shared) (H:Hp) (E:XK),Room k (A.deeper (envOfC qual (defScope st) s.heap.objs.size f cdv))→
   Takes (cxOf (L2.CX P w) P w K mg base N qual (defScope st) f cdv A outer s H E) (WD E)→
   JSs (cxOf (L2.CX P w) P w K mg base N qual (defScope st) f cdv A outer s H E) (WD E) (defBody st) wb)
  (h:∀ds M Q Xc,sp ds M Q Xc→ds.length=ps.length∧wb {nx:=fun _ M=>Fin Q .non M,rt:=Fin Q,ex:=fun x _ M=>Xc x M} (startD N ds) M):FnJ P w K mg base (k + 1) f sp:=by
 obtain ⟨fd,h1,h2⟩:=F.ex
 exact FnJ.mk' h1 S h2 body h
def rNegD:RD1:=fun d M Q=>match d with
 | .int i=>Q (.int (-i)) M
 | _=>False
def viw (M:Mem):D→D
 | .ref a=>match M a with
  | some (.lst xs)=> .lst xs
  | _=> .ref a
 | d=>d
def rEqVD (neg:Bool):RD2:=fun d e M Q=>Dat (viw M d) 60∧Dat (viw M e) 60∧Q (.bl (xor neg (deq (viw M d) (viw M e)))) M
section
variable {X : Cx}
theorem ud_neg:UnR X (unaryOp .USub) (liftV1 X.K rNegD):=by
 intro pins s σ H x v Q I rx hh
 obtain ⟨d,M,F,Qd,R,h1,h3,l⟩:=hh
 cases d <;> first | exact h3.elim | skip
 rename_i i
 cases (show x= .int i from h1)
 exact un_neg pins s σ H _ v Q I rx ⟨i,rfl,l (.int (-i)) H (.int (-i)) M Ext.rfl' R rfl h3⟩
theorem viw_dp {K:PySem.W.Frag} {H:Hp} {M F:Mem} {d:D} {n:Nat} {x:V} (R:Rm K H M F) (h:Dat (viw M d) n) (g:DV K H (uni M F) d x):Dp K H x (toPy (viw M d)):=by
 have other:viw M d=d→Dp K H x (toPy (viw M d)):=fun e=>by
  rw [e] at h ⊢
  exact h.dp g
 cases d with
 | ref a=>
  cases e:M a with
  | none=>exact other (by unfold viw;simp only [e])
  | some o=>
   cases o with
   | lst xs=>
    have e2:viw M (.ref a)= .lst xs:=by unfold viw;simp only [e]
    rw [e2] at h ⊢
    obtain ⟨ys,h1,h2⟩:=R.get e
    cases (show x= .ref a from g)
    exact .lst (SqL.of h1) (Dats.dp h.2 h2)
   | dct _ _=>exact other (by unfold viw;simp only [e])
   | dtt _ _=>exact other (by unfold viw;simp only [e])
   | ins _ _ _=>exact other (by unfold viw;simp only [e])
   | tab _=>exact other (by unfold viw;simp only [e])
 | _=>exact other rfl
theorem od_neV (hu:X.A.units + 64 < cLine):OpR X (compareOp .NotEq) (liftV2 X.K (rEqVD true)):=by
 intro pins s σ H x y v u Q I rx ry hh
 obtain ⟨d,e,M,F,Qd,R,h1,h2,⟨p1,p2,q⟩,l⟩:=hh
 exact op_neD hu pins s σ H x y v u Q I rx ry ⟨_,_,viw_dp R p1 h1,viw_dp R p2 h2,p1.shaped (by decide),p2.shaped (by decide),l _ H (.bl _) M Ext.rfl' R rfl (by rw [Bool.true_xor] at q;exact q)⟩
end
end DL
namespace DL
open PySem PySem.Spec PyProof.Rows L2 RZ
theorem isB_NoneType_bool:isB "NoneType" "bool"=false:=by decide
theorem isB_NoneType_int:isB "NoneType" "int"=false:=by decide
theorem isB_NoneType_str:isB "NoneType" "str"=false:=by decide
theorem isB_NoneType_tuple:isB "NoneType" "tuple"=false:=by decide
theorem isB_NoneType_list:isB "NoneType" "list"=false:=by decide
theorem isB_NoneType_dict:isB "NoneType" "dict"=false:=by decide
theorem isB_bool_bool:isB "bool" "bool"=true:=by decide
theorem isB_bool_int:isB "bool" "int"=true:=by decide
theorem isB_bool_str:isB "bool" "str"=false:=by decide
theorem isB_bool_tuple:isB "bool" "tuple"=false:=by decide
theorem isB_bool_list:isB "bool" "list"=false:=by decide
theorem isB_bool_dict:isB "bool" "dict"=false:=by decide
theorem isB_int_bool:isB "int" "bool"=false:=by decide
theorem isB_int_int:isB "int" "int"=true:=by decide
theorem isB_int_str:isB "int" "str"=false:=by decide
theorem isB_int_tuple:isB "int" "tuple"=false:=by decide
theorem isB_int_list:isB "int" "list"=false:=by decide
theorem isB_int_dict:isB "int" "dict"=false:=by decide
theorem isB_str_bool:isB "str" "bool"=false:=by decide
theorem isB_str_int:isB "str" "int"=false:=by decide
theorem isB_str_str:isB "str" "str"=true:=by decide
theorem isB_str_tuple:isB "str" "tuple"=false:=by decide
theorem isB_str_list:isB "str" "list"=false:=by decide
theorem isB_str_dict:isB "str" "dict"=false:=by decide
theorem isB_tuple_bool:isB "tuple" "bool"=false:=by decide
theorem isB_tuple_int:isB "tuple" "int"=false:=by decide
theorem isB_tuple_str:isB "tuple" "str"=false:=by decide
theorem isB_tuple_tuple:isB "tuple" "tuple"=true:=by decide
theorem isB_tuple_list:isB "tuple" "list"=false:=by decide
theorem isB_tuple_dict:isB "tuple" "dict"=false:=by decide
theorem isB_list_bool:isB "list" "bool"=false:=by decide
theorem isB_list_int:isB "list" "int"=false:=by decide
theorem isB_list_str:isB "list" "str"=false:=by decide
theorem isB_list_tuple:isB "list" "tuple"=false:=by decide
theorem isB_list_list:isB "list" "list"=true:=by decide
theorem isB_list_dict:isB "list" "dict"=false:=by decide
theorem isB_dict_bool:isB "dict" "bool"=false:=by decide
theorem isB_dict_int:isB "dict" "int"=false:=by decide
theorem isB_dict_str:isB "dict" "str"=false:=by decide
theorem isB_dict_tuple:isB "dict" "tuple"=false:=by decide
theorem isB_dict_list:isB "dict" "list"=false:=by decide
theorem isB_dict_dict:isB "dict" "dict"=true:=by decide
theorem isC_bool:("bool"∈ ["bool","int","str","tuple","list","dict"])=True:=eq_true (by decide)
theorem isC_int:("int"∈ ["bool","int","str","tuple","list","dict"])=True:=eq_true (by decide)
theorem isC_str:("str"∈ ["bool","int","str","tuple","list","dict"])=True:=eq_true (by decide)
theorem isC_tuple:("tuple"∈ ["bool","int","str","tuple","list","dict"])=True:=eq_true (by decide)
theorem isC_list:("list"∈ ["bool","int","str","tuple","list","dict"])=True:=eq_true (by decide)
theorem isC_dict:("dict"∈ ["bool","int","str","tuple","list","dict"])=True:=eq_true (by decide)
theorem isA_list_tuple:(["list","tuple"].all (fun c=> ["bool","int","str","tuple","list","dict"].contains c))=true:=by decide
theorem isQ_NoneType:(["list","tuple"].any (isB "NoneType"))=false:=by decide
theorem isQ_bool:(["list","tuple"].any (isB "bool"))=false:=by decide
theorem isQ_int:(["list","tuple"].any (isB "int"))=false:=by decide
theorem isQ_str:(["list","tuple"].any (isB "str"))=false:=by decide
theorem isQ_tuple:(["list","tuple"].any (isB "tuple"))=true:=by decide
theorem isQ_list:(["list","tuple"].any (isB "list"))=true:=by decide
theorem isQ_dict:(["list","tuple"].any (isB "dict"))=false:=by decide
theorem lcR_ind {g:GD} {tt:WT} {te:WE} {ds:SD} {k:List D→Mem→Prop} (I:List D→List D→Mem→Prop) (hn:∀acc M,I [] acc M→k acc M)
  (hs:∀d items acc M (R:List D→Mem→Prop),(∀acc' M',I items acc' M'→R acc' M')→I (d :: items) acc M→
   g d ds fun ds2=>tt ds2 M (fun b M1=>if b=true then te ds2 M1 (fun y M2=>acc.length < sizeLine∧R (acc ++ [y]) M2) XF else R acc M1) XF):
  ∀items acc M,I items acc M→lcR g tt te ds items acc M k
 | [],acc,M,h=>hn acc M h
 | d :: items,acc,M,h=>hs d items acc M (fun acc' M'=>lcR g tt te ds items acc' M' k) (fun acc' M' q=>lcR_ind I hn hs items acc' M' q) h
theorem lcR_mapL {α:Type} {g:GD} {tt:WT} {te:WE} {ds:SD} {k:List D→Mem→Prop} {M:Mem} (h f:α→D) (P:α→Prop)
  (hs:∀a (acc:List D) (R:List D→Mem→Prop),P a→(acc.length < sizeLine∧R (acc ++ [f a]) M)→
   g (h a) ds fun ds2=>tt ds2 M (fun b M1=>if b=true then te ds2 M1 (fun y M2=>acc.length < sizeLine∧R (acc ++ [y]) M2) XF else R acc M1) XF):
  ∀(L:List α) (acc:List D),(∀a∈L,P a)→acc.length + L.length < sizeLine→k (acc ++ L.map f) M→lcR g tt te ds (L.map h) acc M k
 | [],acc,_,_,q=>by
  rw [List.map_nil,List.append_nil] at q
  exact q
 | a :: L,acc,hp,hl,q=>by
  rw [List.length_cons] at hl
  refine hs a acc (fun acc' M'=>lcR g tt te ds (L.map h) acc' M' k) (hp a List.mem_cons_self) ⟨by omega,?_⟩
  refine lcR_mapL h f P hs L (acc ++ [f a]) (fun x hx=>hp x (List.mem_cons_of_mem _ hx)) (by rw [List.length_append,List.length_singleton];omega) ?_
  rw [List.map_cons] at q
  rw [List.append_assoc]
  exact q
theorem forR_ind {g:GD} {wb:WS} {E:ED} (I:List D→SD→Mem→Prop) (hn:∀ds M,I [] ds M→E.nx ds M)
  (hs:∀d items ds M (R:SD→Mem→Prop),(∀ds' M',I items ds' M'→R ds' M')→I (d :: items) ds M→
   g d ds fun ds2=>wb {E with nx:=R,ct:=R,bk:=E.nx} ds2 M):
  ∀items ds M,I items ds M→forR g wb E items ds M
 | [],ds,M,h=>hn ds M h
 | d :: items,ds,M,h=>hs d items ds M (fun ds' M'=>forR g wb E items ds' M') (fun ds' M' q=>forR_ind I hn hs items ds' M' q) h
theorem fin_dn {Q:KN} {d:D} {M M':Mem} (h:∀a o,M' a=some o→M a=some o) (q:Q d M'):Fin Q d M:=⟨d,M',Fz.dn h,q⟩
theorem fin_lst {Q:KN} {a:Addr} {xs:List D} {M M':Mem} (e:M a=some (.lst xs)) (n:M' a=none) (h:∀b o,M' b=some o→M b=some o) (q:Q (.lst xs) M'):Fin Q (.ref a) M:=⟨.lst xs,M',Fz.lst e n (FzS.dn h),q⟩
theorem fin_ins {Q:KN} {a C:Addr} {ns:List Str} {xs:List D} {M M':Mem} (e:M a=some (.ins C ns xs)) (n:M' a=none) (h:∀b o,M' b=some o→M b=some o) (q:Q (.ins C ns xs) M'):Fin Q (.ref a) M:=⟨.ins C ns xs,M',Fz.ins e n (FzS.dn h),q⟩
theorem optK_some {α:Type} {a:α} {k:α→Prop}:optK (some a) k=k a:=rfl
theorem seqOf_lst {M:Mem} {xs:List D}:seqOf M (.lst xs)=some xs:=rfl
theorem seqOf_tup {M:Mem} {xs:List D}:seqOf M (.tup xs)=some xs:=rfl
theorem seqOf_own {M:Mem} {a:Addr} {xs:List D} (h:M a=some (.lst xs)):seqOf M (.ref a)=some xs:=by
 show moSeq (M a)=_
 rw [h]
 rfl
theorem tyN_non {M:Mem}:tyN M .non=some "NoneType":=rfl
theorem tyN_bl {M:Mem} {b:Bool}:tyN M (.bl b)=some "bool":=rfl
theorem tyN_int {M:Mem} {b:Int}:tyN M (.int b)=some "int":=rfl
theorem tyN_str {M:Mem} {b:Str}:tyN M (.str b)=some "str":=rfl
theorem tyN_tup {M:Mem} {b:List D}:tyN M (.tup b)=some "tuple":=rfl
theorem tyN_lst {M:Mem} {b:List D}:tyN M (.lst b)=some "list":=rfl
theorem tyN_dct {M:Mem} {ks:List Key} {b:List D}:tyN M (.dct ks b)=some "dict":=rfl
section
variable {M : Mem} {a : Addr} {xs ys : List D} {y : D} {Q : KN}
theorem mo_own (h:M a=some (.lst xs)):moSeq (M a)=some xs:=by rw [h];rfl
theorem tyD_own (h:M a=some (.lst xs)):tyD "list" M (.ref a):=by
 refine ⟨rfl,?_⟩
 rw [mo_own h]
 trivial
theorem own_L {k:Addr→List D→Prop} (h:M a=some (.lst xs)) (q:k a xs):ownL M (.ref a) k:=by
 show optK (moSeq (M a)) fun xs=>k a xs
 rw [mo_own h]
 exact q
theorem app_own (h:M a=some (.lst xs)) (l:xs.length < sizeLine) (q:Q .non (mput M a (.lst (xs ++ [y])))):rAppD (.ref a) [y] M Q:=own_L (k:=fun a xs=>xs.length < sizeLine∧Q .non (mput M a (.lst (xs ++ [y])))) h ⟨l,q⟩
theorem pop_own (h:M a=some (.lst (xs ++ [y]))) (q:Q y (mput M a (.lst xs))):rPopD (.ref a) [] M Q:=by
 refine own_L (k:=fun a xs=>optK xs[xs.length - 1]? fun y=>Q y (mput M a (.lst xs.dropLast))) h ?_
 have e:(xs ++ [y])[(xs ++ [y]).length - 1]?=some y:=by
  rw [List.length_append,List.length_singleton,Nat.add_sub_cancel,List.getElem?_append_right (Nat.le_refl _),Nat.sub_self]
  rfl
 rw [e,List.dropLast_concat]
 exact q
theorem ixN_nat {n k:Nat} (h:k < n):ixN n (k:Int)=some k:=by
 unfold ixN
 have:(k:Int) < n:=by omega
 simp
 omega
theorem popAt_own {k:Nat} (h:M a=some (.lst xs)) (e:xs[k]?=some y) (l:xs.length≤sizeLine) (q:Q y (mput M a (.lst (xs.eraseIdx k)))):rPopD (.ref a) [.int (k:Int)] M Q:=by
 have hk:k < xs.length:=(List.getElem?_eq_some_iff.mp e).1
 refine own_L (k:=fun a xs=>optK (ixN xs.length (k:Int)) fun k=>optK xs[k]? fun y=>(xs.length≤sizeLine∧Q y (mput M a (.lst (xs.eraseIdx k))))) h ?_
 rw [ixN_nat hk,optK_some,e]
 exact ⟨l,q⟩
theorem ext_own (h:M a=some (.lst xs)) (l:xs.length + ys.length≤sizeLine) (q:Q .non (mput M a (.lst (xs ++ ys)))):rExtD (.ref a) [.lst ys] M Q:=own_L (k:=fun a xs=>xs.length + ys.length≤sizeLine∧Q .non (mput M a (.lst (xs ++ ys)))) h ⟨l,q⟩
theorem ins_own {k:Nat} (h:M a=some (.lst xs)) (l:xs.length < sizeLine) (b:k < 2 ^ 63) (q:Q .non (mput M a (.lst (xs.take k ++ [y] ++ xs.drop k)))):rInsD (.ref a) [.int (k:Int),y] M Q:=
 own_L (k:=fun a xs=>xs.length < sizeLine∧0≤(k:Int)∧(k:Int) < 2 ^ 63∧Q .non (mput M a (.lst (xs.take (k:Int).toNat ++ [y] ++ xs.drop (k:Int).toNat)))) h ⟨l,by omega,by omega,q⟩
end
theorem atI_nat {α:Type} {xs:List α} {k:Nat}:atI xs (k:Int)=xs[k]?:=by
 unfold atI ixN
 rw [if_pos (by omega)]
 by_cases h:k < xs.length
 ·rw [if_pos (by omega)]
  rfl
 ·rw [if_neg (by omega),List.getElem?_eq_none (by omega)]
  rfl
theorem insK_same {C:Addr} {ns:List Str} {M:Mem} {xs:List D} {k:List D→Prop}:insK C ns M (.ins C ns xs) k=k xs:=propext ⟨fun h=>h.2.2,fun h=>⟨rfl,rfl,h⟩⟩
theorem frz_lst {xs:List D}:frzSeq (.lst xs)=some xs:=rfl
theorem frz_tup {xs:List D}:frzSeq (.tup xs)=some xs:=rfl
theorem at1_0 {x0:D}:atI [x0] (0:Int)=some x0:=rfl
theorem at2_0 {x0 x1:D}:atI [x0,x1] (0:Int)=some x0:=rfl
theorem at2_1 {x0 x1:D}:atI [x0,x1] (1:Int)=some x1:=rfl
theorem at3_0 {x0 x1 x2:D}:atI [x0,x1,x2] (0:Int)=some x0:=rfl
theorem at3_1 {x0 x1 x2:D}:atI [x0,x1,x2] (1:Int)=some x1:=rfl
theorem at3_2 {x0 x1 x2:D}:atI [x0,x1,x2] (2:Int)=some x2:=rfl
theorem at4_0 {x0 x1 x2 x3:D}:atI [x0,x1,x2,x3] (0:Int)=some x0:=rfl
theorem at4_1 {x0 x1 x2 x3:D}:atI [x0,x1,x2,x3] (1:Int)=some x1:=rfl
theorem at4_2 {x0 x1 x2 x3:D}:atI [x0,x1,x2,x3] (2:Int)=some x2:=rfl
theorem at4_3 {x0 x1 x2 x3:D}:atI [x0,x1,x2,x3] (3:Int)=some x3:=rfl
theorem at5_0 {x0 x1 x2 x3 x4:D}:atI [x0,x1,x2,x3,x4] (0:Int)=some x0:=rfl
theorem at5_1 {x0 x1 x2 x3 x4:D}:atI [x0,x1,x2,x3,x4] (1:Int)=some x1:=rfl
theorem at5_2 {x0 x1 x2 x3 x4:D}:atI [x0,x1,x2,x3,x4] (2:Int)=some x2:=rfl
theorem at5_3 {x0 x1 x2 x3 x4:D}:atI [x0,x1,x2,x3,x4] (3:Int)=some x3:=rfl
theorem at5_4 {x0 x1 x2 x3 x4:D}:atI [x0,x1,x2,x3,x4] (4:Int)=some x4:=rfl
theorem set5_1 {x0 x1 x2 x3 x4 v:D} {M:Mem} {a:Addr} {k:Mem→Prop} (h:M a=some (.lst [x0,x1,x2,x3,x4])) (q:k (mput M a (.lst [x0,v,x2,x3,x4]))):rSetD (.ref a) (.int 1) v M k:=own_L (k:=fun a xs=>optK (ixN xs.length 1) fun n=>k (mput M a (.lst (xs.set n v)))) h q
theorem set5_2 {x0 x1 x2 x3 x4 v:D} {M:Mem} {a:Addr} {k:Mem→Prop} (h:M a=some (.lst [x0,x1,x2,x3,x4])) (q:k (mput M a (.lst [x0,x1,v,x3,x4]))):rSetD (.ref a) (.int 2) v M k:=own_L (k:=fun a xs=>optK (ixN xs.length 2) fun n=>k (mput M a (.lst (xs.set n v)))) h q
theorem set5_3 {x0 x1 x2 x3 x4 v:D} {M:Mem} {a:Addr} {k:Mem→Prop} (h:M a=some (.lst [x0,x1,x2,x3,x4])) (q:k (mput M a (.lst [x0,x1,x2,v,x4]))):rSetD (.ref a) (.int 3) v M k:=own_L (k:=fun a xs=>optK (ixN xs.length 3) fun n=>k (mput M a (.lst (xs.set n v)))) h q
theorem set5_4 {x0 x1 x2 x3 x4 v:D} {M:Mem} {a:Addr} {k:Mem→Prop} (h:M a=some (.lst [x0,x1,x2,x3,x4])) (q:k (mput M a (.lst [x0,x1,x2,x3,v]))):rSetD (.ref a) (.int 4) v M k:=own_L (k:=fun a xs=>optK (ixN xs.length 4) fun n=>k (mput M a (.lst (xs.set n v)))) h q
theorem seqOf_put {M:Mem} {a:Addr} {xs:List D}:seqOf (mput M a (.lst xs)) (.ref a)=some xs:=seqOf_own mput_same
theorem seqE_ex0 (u:WS) (E:ED):∃E':ED,E'={E with nx:=fun ds' M'=>u E ds' M'}:=⟨_,rfl⟩
noncomputable def seqE (u:WS) (E:ED):ED:=Classical.choose (seqE_ex0 u E)
theorem seqE_eq (u:WS) (E:ED):seqE u E={E with nx:=fun ds' M'=>u E ds' M'}:=Classical.choose_spec (seqE_ex0 u E)
theorem wSeq_p {t u:WS} {E:ED} {ds:SD} {M:Mem}:wSeq t u E ds M=t (seqE u E) ds M:=by rw [seqE_eq];rfl
theorem seqE_nx {u:WS} {E:ED} {ds:SD} {M:Mem}:(seqE u E).nx ds M=u E ds M:=by rw [seqE_eq]
theorem seqE_rt {u:WS} {E:ED}:(seqE u E).rt=E.rt:=by rw [seqE_eq]
theorem seqE_bk {u:WS} {E:ED}:(seqE u E).bk=E.bk:=by rw [seqE_eq]
theorem seqE_ct {u:WS} {E:ED}:(seqE u E).ct=E.ct:=by rw [seqE_eq]
theorem seqE_ex {u:WS} {E:ED}:(seqE u E).ex=E.ex:=by rw [seqE_eq]
theorem sizeLine_big:100000≤sizeLine:=by decide +kernel
end DL
namespace DL
open PySem PySem.Spec PyProof.Rows L2 RZ
theorem pVar {i:Nat} {ds:SD} {M:Mem} {Q:KN} {X:KX}:(wVar i ds M Q X)=(wGet ds[i]? fun d=>Q d M):=propext Iff.rfl
theorem pGet {d:D} {k:D→Prop}:(wGet (some (some d)) k)=(k d):=propext Iff.rfl
theorem pC {d:D} {ds:SD} {M:Mem} {Q:KN} {X:KX}:(wC d ds M Q X)=(Q d M):=propext Iff.rfl
theorem pOp {r:RD2} {wa wb:WE} {ds:SD} {M:Mem} {Q:KN} {X:KX}:(wOp r wa wb ds M Q X)=(wa ds M (fun x M1=>wb ds M1 (fun y M2=>r x y M2 Q) X) X):=propext Iff.rfl
theorem pUn {r:RD1} {wa:WE} {ds:SD} {M:Mem} {Q:KN} {X:KX}:(wUn r wa ds M Q X)=(wa ds M (fun x M1=>r x M1 Q) X):=propext Iff.rfl
theorem pCB {r:RDs} {wa:WA} {ds:SD} {M:Mem} {Q:KN} {X:KX}:(wCB r wa ds M Q X)=(wa ds M (fun xs M1=>r xs M1 Q) X):=propext Iff.rfl
theorem pNil {ds:SD} {M:Mem} {Q:List D→Mem→Prop} {X:KX}:(wNil ds M Q X)=(Q [] M):=propext Iff.rfl
theorem pCons {wa:WE} {wr:WA} {ds:SD} {M:Mem} {Q:List D→Mem→Prop} {X:KX}:(wCons wa wr ds M Q X)=(wa ds M (fun d M1=>wr ds M1 (fun xs M2=>Q (d :: xs) M2) X) X):=propext Iff.rfl
theorem pTest {w:WE} {ds:SD} {M:Mem} {Q:Bool→Mem→Prop} {X:KX}:(wTest w ds M Q X)=(w ds M (fun d M1=>isBl d fun b=>Q b M1) X):=propext Iff.rfl
theorem pBl {b:Bool} {k:Bool→Prop}:(isBl (.bl b) k)=(k b):=propext Iff.rfl
theorem pAndT {t u:WT} {ds:SD} {M:Mem} {Q:Bool→Mem→Prop} {X:KX}:(wAndT t u ds M Q X)=(t ds M (fun b M1=>if b=true then u ds M1 Q X else Q false M1) X):=propext Iff.rfl
theorem pOrT {t u:WT} {ds:SD} {M:Mem} {Q:Bool→Mem→Prop} {X:KX}:(wOrT t u ds M Q X)=(t ds M (fun b M1=>if b=true then Q true M1 else u ds M1 Q X) X):=propext Iff.rfl
theorem pNotT {t:WT} {ds:SD} {M:Mem} {Q:Bool→Mem→Prop} {X:KX}:(wNotT t ds M Q X)=(t ds M (fun b M1=>Q (!b) M1) X):=propext Iff.rfl
theorem pAndV {wa wb:WE} {ds:SD} {M:Mem} {Q:KN} {X:KX}:(wAndV wa wb ds M Q X)=(wa ds M (fun d M1=>isBl d fun b=>if b=true then wb ds M1 Q X else Q (.bl false) M1) X):=propext Iff.rfl
theorem pOrV {wa wb:WE} {ds:SD} {M:Mem} {Q:KN} {X:KX}:(wOrV wa wb ds M Q X)=(wa ds M (fun d M1=>isBl d fun b=>if b=true then Q (.bl true) M1 else wb ds M1 Q X) X):=propext Iff.rfl
theorem pNotV {wa:WE} {ds:SD} {M:Mem} {Q:KN} {X:KX}:(wNotV wa ds M Q X)=(wa ds M (fun d M1=>isBl d fun b=>Q (.bl (!b)) M1) X):=propext Iff.rfl
theorem pIfE {t:WT} {wa wb:WE} {ds:SD} {M:Mem} {Q:KN} {X:KX}:(wIfE t wa wb ds M Q X)=(t ds M (fun b M1=>if b=true then wa ds M1 Q X else wb ds M1 Q X) X):=propext Iff.rfl
theorem pTup {wa:WA} {ds:SD} {M:Mem} {Q:KN} {X:KX}:(wTup wa ds M Q X)=(wa ds M (fun xs M1=>xs.length≤sizeLine∧Q (.tup xs) M1) X):=propext Iff.rfl
theorem pLst {wa:WA} {ds:SD} {M:Mem} {Q:KN} {X:KX}:(wLst wa ds M Q X)=(wa ds M (fun xs M1=>xs.length≤sizeLine∧Q (.lst xs) M1) X):=propext Iff.rfl
theorem pLstO {wa:WA} {ds:SD} {M:Mem} {Q:KN} {X:KX}:(wLstO wa ds M Q X)=(wa ds M (fun xs M1=>xs.length≤sizeLine∧∀a,M1 a=none→Q (.ref a) (mput M1 a (.lst xs))) X):=propext Iff.rfl
theorem pCall {sp:SpD} {wa:WA} {ds:SD} {M:Mem} {Q:KN} {X:KX}:(wCall sp wa ds M Q X)=(wa ds M (fun xs M1=>sp xs M1 Q X) X):=propext Iff.rfl
theorem pMeth {C:Addr} {ns:List Str} {sp:SpD} {we:WE} {wa:WA} {ds:SD} {M:Mem} {Q:KN} {X:KX}:(wMeth C ns sp we wa ds M Q X)=(we ds M (fun d M1=>insK C ns M1 d fun _=>wa ds M1 (fun xs M2=>sp (d :: xs) M2 Q X) X) X):=propext Iff.rfl
theorem pFld {C:Addr} {ns:List Str} {i:Nat} {we:WE} {ds:SD} {M:Mem} {Q:KN} {X:KX}:(wFld C ns i we ds M Q X)=(we ds M (fun d M1=>insK C ns M1 d fun xs=>optK xs[i]? fun v=>Q v M1) X):=propext Iff.rfl
theorem pProp {C:Addr} {ns:List Str} {sp:SpD} {we:WE} {ds:SD} {M:Mem} {Q:KN} {X:KX}:(wProp C ns sp we ds M Q X)=(we ds M (fun d M1=>insK C ns M1 d fun _=>sp [d] M1 Q XF) X):=propext Iff.rfl
theorem pMake {C:Addr} {sp:SpD} {wa:WA} {ds:SD} {M:Mem} {Q:KN} {X:KX}:(wMake C sp wa ds M Q X)=(wa ds M (fun xs M1=>∀a,M1 a=none→sp (.ref a :: xs) (mput M1 a (.ins C [] [])) (fun d M2=>d= .non∧Fin Q (.ref a) M2) X) X):=propext Iff.rfl
theorem pCv {C:Addr} {d:D} {we:WE} {ds:SD} {M:Mem} {Q:KN} {X:KX}:(wCv C d we ds M Q X)=(we ds M (fun z M1=>z= .ref C∧Q d M1) X):=propext Iff.rfl
theorem pSl {we:WE} {wl wh:WO} {ds:SD} {M:Mem} {Q:KN} {X:KX}:(wSl we wl wh ds M Q X)=(we ds M (fun d M1=>wl ds M1 (fun l M2=>wh ds M2 (fun h M3=>rSlD d l h M3 Q) X) X) X):=propext Iff.rfl
theorem pNo {ds:SD} {M:Mem} {Q:Option Int→Mem→Prop} {X:KX}:(wNo ds M Q X)=(Q none M):=propext Iff.rfl
theorem pSome {w:WE} {ds:SD} {M:Mem} {Q:Option Int→Mem→Prop} {X:KX}:(wSome w ds M Q X)=(w ds M (fun d M1=>intK d fun i=>Q (some i) M1) X):=propext Iff.rfl
theorem pIntK {i:Int} {k:Int→Prop}:(intK (.int i) k)=(k i):=propext Iff.rfl
theorem pN {i:Nat} {d:D} {ds:SD} {Q:SD→Prop}:(gN i d ds Q)=(Q (ds.set i (some d))):=propext Iff.rfl
theorem pT {n:Nat} {gs:GDs} {es:List D} {ds:SD} {Q:SD→Prop}:(gT n gs (.tup es) ds Q)=(es.length=n∧gs es ds Q):=propext Iff.rfl
theorem pGC {g:GD} {gs:GDs} {e:D} {es:List D} {ds:SD} {Q:SD→Prop}:(gCons' g gs (e :: es) ds Q)=(g e ds fun ds2=>gs es ds2 Q):=propext Iff.rfl
theorem pGN {ds:SD} {Q:SD→Prop}:(gNil' [] ds Q)=(Q ds):=propext Iff.rfl
theorem pIf {t:WT} {a b:WS} {E:ED} {ds:SD} {M:Mem}:(wIf t a b E ds M)=(t ds M (fun c M1=>if c=true then a E ds M1 else b E ds M1) (E.xc ds)):=propext Iff.rfl
theorem pRet {we:WE} {E:ED} {ds:SD} {M:Mem}:(wRet we E ds M)=(we ds M E.rt (E.xc ds)):=propext Iff.rfl
theorem pRetN {E:ED} {ds:SD} {M:Mem}:(wRetN E ds M)=(E.rt .non M):=propext Iff.rfl
theorem pDrop {we:WE} {E:ED} {ds:SD} {M:Mem}:(wDrop we E ds M)=(we ds M (fun _ M1=>E.nx ds M1) (E.xc ds)):=propext Iff.rfl
theorem pAsg {we:WE} {g:GD} {E:ED} {ds:SD} {M:Mem}:(wAsg we g E ds M)=(we ds M (fun d M1=>g d ds fun ds2=>E.nx ds2 M1) (E.xc ds)):=propext Iff.rfl
theorem pNx {E:ED} {ds:SD} {M:Mem}:(wNx E ds M)=(E.nx ds M):=propext Iff.rfl
theorem pBrk {E:ED} {ds:SD} {M:Mem}:(wBrk E ds M)=(E.bk ds M):=propext Iff.rfl
theorem pCnt {E:ED} {ds:SD} {M:Mem}:(wCnt E ds M)=(E.ct ds M):=propext Iff.rfl
theorem pNever {E:ED} {ds:SD} {M:Mem}:(wNever E ds M)=(False):=propext Iff.rfl
theorem pSub {we wo wi:WE} {r:D→D→D→Mem→(Mem→Prop)→Prop} {E:ED} {ds:SD} {M:Mem}:(wSub we wo wi r E ds M)=(we ds M (fun v M1=>wo ds M1 (fun o M2=>wi ds M2 (fun i M3=>r o i v M3 fun M4=>E.nx ds M4) (E.xc ds)) (E.xc ds)) (E.xc ds)):=propext Iff.rfl
theorem pAug {i:Nat} {we:WE} {r:RD2} {E:ED} {ds:SD} {M:Mem}:(wAug i we r E ds M)=(wGet ds[i]? fun d=>we ds M (fun e M1=>r d e M1 fun z M2=>E.nx (ds.set i (some z)) M2) (E.xc ds)):=propext Iff.rfl
def parK (i j:Nat) (E:ED) (ds:SD) (es:List D) (M:Mem):Prop:=match es with | [d,e]=>E.nx ((ds.set i (some d)).set j (some e)) M | _=>False
theorem pPar {i j:Nat} {wa:WA} {E:ED} {ds:SD} {M:Mem}:(wPar i j wa E ds M)=(wa ds M (parK i j E ds) (E.xc ds)):=propext Iff.rfl
theorem pParK {i j:Nat} {E:ED} {ds:SD} {d e:D} {M:Mem}:(parK i j E ds [d,e] M)=(E.nx ((ds.set i (some d)).set j (some e)) M):=propext Iff.rfl
theorem pBM {T:String} {r:D→List D→Mem→KN→Prop} {we:WE} {wa:WA} {ds:SD} {M:Mem} {Q:KN} {X:KX}:(wBM T r we wa ds M Q X)=(we ds M (fun d M1=>tyD T M1 d∧wa ds M1 (fun xs M2=>r d xs M2 Q) X) X):=propext Iff.rfl
theorem pFor {wi:WI} {g:GD} {wb:WS} {E:ED} {ds:SD} {M:Mem}:(wFor wi g wb E ds M)=(wi ds M (fun items M1=>forR g wb E items ds M1) (E.xc ds)):=propext Iff.rfl
theorem pLc {wi:WI} {g:GD} {tt:WT} {te:WE} {vs:List Nat} {ds:SD} {M:Mem} {Q:KN} {X:KX}:(wLc wi g tt te vs ds M Q X)=(wi ds M (fun items M1=>lcR g tt te (wipeD ds vs) items [] M1 fun ys M2=>Q (.lst ys) M2) X):=propext Iff.rfl
theorem pLcO {wi:WI} {g:GD} {tt:WT} {te:WE} {vs:List Nat} {ds:SD} {M:Mem} {Q:KN} {X:KX}:(wLcO wi g tt te vs ds M Q X)=(wi ds M (fun items M1=>lcR g tt te (wipeD ds vs) items [] M1 fun ys M2=>∀a,M2 a=none→Q (.ref a) (mput M2 a (.lst ys))) X):=propext Iff.rfl
theorem pYes {ds:SD} {M:Mem} {Q:Bool→Mem→Prop} {X:KX}:(wYes ds M Q X)=(Q true M):=propext Iff.rfl
theorem piSeq {we:WE} {ds:SD} {M:Mem} {Q:List D→Mem→Prop} {X:KX}:(wiSeq we ds M Q X)=(we ds M (fun d M1=>optK (frzSeq d) fun xs=>Q xs M1) X):=propext Iff.rfl
def strK (Q:List D→Mem→Prop) (d:D) (M:Mem):Prop:=match d with | .str x=>Q (sgnD x) M | _=>False
theorem piStr {we:WE} {ds:SD} {M:Mem} {Q:List D→Mem→Prop} {X:KX}:(wiStr we ds M Q X)=(we ds M (strK Q) X):=propext Iff.rfl
theorem pStrK {Q:List D→Mem→Prop} {x:Str} {M:Mem}:(strK Q (.str x) M)=(Q (sgnD x) M):=propext Iff.rfl
def rng1K (Q:List D→Mem→Prop) (es:List D) (M:Mem):Prop:=match es with | [.int j]=>(-(2 ^ 62)≤j∧j < 2 ^ 62)∧Q (rngD 0 j.toNat) M | _=>False
theorem piRng1 {wa:WA} {ds:SD} {M:Mem} {Q:List D→Mem→Prop} {X:KX}:(wiRng1 wa ds M Q X)=(wa ds M (rng1K Q) X):=propext Iff.rfl
theorem pRng1K {Q:List D→Mem→Prop} {j:Int} {M:Mem}:(rng1K Q [.int j] M)=((-(2 ^ 62)≤j∧j < 2 ^ 62)∧Q (rngD 0 j.toNat) M):=propext Iff.rfl
def rng2K (Q:List D→Mem→Prop) (es:List D) (M:Mem):Prop:=match es with | [.int i, .int j]=>(-(2 ^ 62)≤i∧i < 2 ^ 62∧ -(2 ^ 62)≤j∧j < 2 ^ 62)∧Q (rngD i (j - i).toNat) M | _=>False
theorem piRng2 {wa:WA} {ds:SD} {M:Mem} {Q:List D→Mem→Prop} {X:KX}:(wiRng2 wa ds M Q X)=(wa ds M (rng2K Q) X):=propext Iff.rfl
theorem pRng2K {Q:List D→Mem→Prop} {i j:Int} {M:Mem}:(rng2K Q [.int i, .int j] M)=((-(2 ^ 62)≤i∧i < 2 ^ 62∧ -(2 ^ 62)≤j∧j < 2 ^ 62)∧Q (rngD i (j - i).toNat) M):=propext Iff.rfl
def enumK (Q:List D→Mem→Prop) (es:List D) (M:Mem):Prop:=match es with | [.lst xs]=>Q (enumD xs) M | _=>False
theorem piEnum {wa:WA} {ds:SD} {M:Mem} {Q:List D→Mem→Prop} {X:KX}:(wiEnum wa ds M Q X)=(wa ds M (enumK Q) X):=propext Iff.rfl
theorem pEnumK {Q:List D→Mem→Prop} {xs:List D} {M:Mem}:(enumK Q [.lst xs] M)=(Q (enumD xs) M):=propext Iff.rfl
def zipK (Q:List D→Mem→Prop) (es:List D) (M:Mem):Prop:=match es with | [.lst xs, .lst ys]=>Q (zipD xs ys) M | [.tup xs, .tup ys]=>Q (zipD xs ys) M | _=>False
theorem piZip {wa:WA} {ds:SD} {M:Mem} {Q:List D→Mem→Prop} {X:KX}:(wiZip wa ds M Q X)=(wa ds M (zipK Q) X):=propext Iff.rfl
theorem pZipL {Q:List D→Mem→Prop} {xs ys:List D} {M:Mem}:(zipK Q [.lst xs, .lst ys] M)=(Q (zipD xs ys) M):=propext Iff.rfl
theorem pZipT {Q:List D→Mem→Prop} {xs ys:List D} {M:Mem}:(zipK Q [.tup xs, .tup ys] M)=(Q (zipD xs ys) M):=propext Iff.rfl
theorem pFz {w:WE} {ds:SD} {M:Mem} {Q:KN} {X:KX}:(wFz w ds M Q X)=(w ds M (Fin Q) X):=propext Iff.rfl
theorem pLenSet {we:WE} {ds:SD} {M:Mem} {Q:KN} {X:KX}:(wLenSet we ds M Q X)=(we ds M (fun d M1=>optK (seqOf M1 d) fun xs=>optK (keysD xs) fun ks=>ks.length < 4000∧Q (.int (metK ks ks.length).length) M1) X):=propext Iff.rfl
theorem pIsT {cs:List String} {we:WE} {ds:SD} {M:Mem} {Q:KN} {X:KX}:(wIsT cs we ds M Q X)=(we ds M (fun d M1=>cs.all (fun c=> ["bool","int","str","tuple","list","dict"].contains c)=true∧optK (tyN M1 d) fun n=>Q (.bl (cs.any (isB n))) M1) X):=propext Iff.rfl
theorem rIx_lst {xs:List D} {i:Int} {M:Mem} {Q:KN}:(rIxD (.lst xs) (.int i) M Q)=(optK (atI xs i) fun v=>Q v M):=propext Iff.rfl
theorem rIx_tup {xs:List D} {i:Int} {M:Mem} {Q:KN}:(rIxD (.tup xs) (.int i) M Q)=(optK (atI xs i) fun v=>Q v M):=propext Iff.rfl
theorem rIx_ref {a:Addr} {i:Int} {M:Mem} {Q:KN}:(rIxD (.ref a) (.int i) M Q)=(optK (seqOf M (.ref a)) fun xs=>optK (atI xs i) fun v=>Q v M):=propext Iff.rfl
theorem rIx_str {z:Str} {i:Int} {M:Mem} {Q:KN}:(rIxD (.str z) (.int i) M Q)=(z.length≤sizeLine∧optK (atI z.cps.toList i) fun c=>Q (.str ⟨#[c]⟩) M):=propext Iff.rfl
theorem rLen_str {z:Str} {M:Mem} {Q:KN}:(rLenD [.str z] M Q)=(z.length≤sizeLine∧Q (.int z.length) M):=propext Iff.rfl
theorem rLen_lst {xs:List D} {M:Mem} {Q:KN}:(rLenD [.lst xs] M Q)=(Q (.int xs.length) M):=propext Iff.rfl
theorem rLen_tup {xs:List D} {M:Mem} {Q:KN}:(rLenD [.tup xs] M Q)=(Q (.int xs.length) M):=propext Iff.rfl
theorem rLen_ref {a:Addr} {M:Mem} {Q:KN}:(rLenD [.ref a] M Q)=(optK (seqOf M (.ref a)) fun xs=>Q (.int xs.length) M):=propext Iff.rfl
theorem rIs_p {d:D} {c:String} {M:Mem} {Q:KN}:(rIsD [d, .ty c] M Q)=(c∈ ["bool","int","str","tuple","list","dict"]∧optK (tyN M d) fun n=>Q (.bl (isB n c)) M):=propext Iff.rfl
theorem rInt_int {i:Int} {M:Mem} {Q:KN}:(rIntCD [.int i] M Q)=(Q (.int i) M):=propext Iff.rfl
theorem rInt_bl {b:Bool} {M:Mem} {Q:KN}:(rIntCD [.bl b] M Q)=(Q (.int (if b then 1 else 0)) M):=propext Iff.rfl
theorem rStr_int {i:Int} {M:Mem} {Q:KN}:(rStrCD [.int i] M Q)=(i.natAbs.log2 < 1920∧Q (.str (toString i)) M):=propext Iff.rfl
theorem rList_p {d:D} {M:Mem} {Q:KN}:(rListD [d] M Q)=(optK (seqOf M d) fun xs=>Q (.lst xs) M):=propext Iff.rfl
theorem rListO_p {d:D} {M:Mem} {Q:KN}:(rListO [d] M Q)=(optK (seqOf M d) fun xs=>∀a,M a=none→Q (.ref a) (mput M a (.lst xs))):=propext Iff.rfl
theorem rTup_p {d:D} {M:Mem} {Q:KN}:(rTupD [d] M Q)=(optK (seqOf M d) fun xs=>Q (.tup xs) M):=propext Iff.rfl
theorem rAdd_int {i j:Int} {M:Mem} {Q:KN}:(rAddD (.int i) (.int j) M Q)=(Q (.int (i + j)) M):=propext Iff.rfl
theorem rAdd_str {x y:Str} {M:Mem} {Q:KN}:(rAddD (.str x) (.str y) M Q)=(x.length + y.length≤sizeLine∧Q (.str (x ++ y)) M):=propext Iff.rfl
theorem rAdd_tup {xs ys:List D} {M:Mem} {Q:KN}:(rAddD (.tup xs) (.tup ys) M Q)=(xs.length + ys.length≤sizeLine∧Q (.tup (xs ++ ys)) M):=propext Iff.rfl
theorem rAdd_lst {xs ys:List D} {M:Mem} {Q:KN}:(rAddD (.lst xs) (.lst ys) M Q)=(xs.length + ys.length≤sizeLine∧Q (.lst (xs ++ ys)) M):=propext Iff.rfl
theorem rIntD_p {C:Int→Int→Prop} {g:Int→Int→D} {i j:Int} {M:Mem} {Q:KN}:(rIntD C g (.int i) (.int j) M Q)=(C i j∧Q (g i j) M):=propext Iff.rfl
theorem rInt0_p {g:Int→Int→D} {i j:Int} {M:Mem} {Q:KN}:(rInt0D g (.int i) (.int j) M Q)=(Q (g i j) M):=propext Iff.rfl
theorem rEq_int {neg:Bool} {i j:Int} {M:Mem} {Q:KN}:(rEqD neg (.int i) (.int j) M Q)=(Q (.bl (xor neg (decide (i=j)))) M):=propext Iff.rfl
theorem rEq_str {neg:Bool} {x y:Str} {M:Mem} {Q:KN}:(rEqD neg (.str x) (.str y) M Q)=(Q (.bl (xor neg (decide (x=y)))) M):=propext Iff.rfl
theorem rEq_bl {neg:Bool} {x y:Bool} {M:Mem} {Q:KN}:(rEqD neg (.bl x) (.bl y) M Q)=(Q (.bl (xor neg (decide (x=y)))) M):=propext Iff.rfl
theorem rEq_lst {neg:Bool} {xs:List D} {e:D} {M:Mem} {Q:KN}:(rEqD neg (.lst xs) e M Q)=(Dat (.lst xs) 60∧Dat e 60∧Q (.bl (xor neg (deq (.lst xs) e))) M):=propext Iff.rfl
theorem rEq_tup {neg:Bool} {xs:List D} {e:D} {M:Mem} {Q:KN}:(rEqD neg (.tup xs) e M Q)=(Dat (.tup xs) 60∧Dat e 60∧Q (.bl (xor neg (deq (.tup xs) e))) M):=propext Iff.rfl
theorem rIsN_non {neg:Bool} {M:Mem} {Q:KN}:(rIsND neg .non .non M Q)=(Q (.bl (!neg)) M):=propext Iff.rfl
theorem rIsN_bl {neg b:Bool} {M:Mem} {Q:KN}:(rIsND neg (.bl b) .non M Q)=(Q (.bl neg) M):=propext Iff.rfl
theorem rIsN_int {neg:Bool} {b:Int} {M:Mem} {Q:KN}:(rIsND neg (.int b) .non M Q)=(Q (.bl neg) M):=propext Iff.rfl
theorem rIsN_str {neg:Bool} {b:Str} {M:Mem} {Q:KN}:(rIsND neg (.str b) .non M Q)=(Q (.bl neg) M):=propext Iff.rfl
theorem rIsN_tup {neg:Bool} {b:List D} {M:Mem} {Q:KN}:(rIsND neg (.tup b) .non M Q)=(Q (.bl neg) M):=propext Iff.rfl
theorem rIsN_lst {neg:Bool} {b:List D} {M:Mem} {Q:KN}:(rIsND neg (.lst b) .non M Q)=(Q (.bl neg) M):=propext Iff.rfl
theorem rNeg_p {i:Int} {M:Mem} {Q:KN}:(rNegD (.int i) M Q)=(Q (.int (-i)) M):=propext Iff.rfl
theorem rSl_str {z:Str} {lo hi:Option Int} {M:Mem} {Q:KN}:(rSlD (.str z) lo hi M Q)=(z.length≤sizeLine∧Q (.str (cutS z lo hi)) M):=propext Iff.rfl
theorem rSl_tup {xs:List D} {lo hi:Option Int} {M:Mem} {Q:KN}:(rSlD (.tup xs) lo hi M Q)=(Q (.tup (cutL xs lo hi)) M):=propext Iff.rfl
theorem rSl_lst {xs:List D} {lo hi:Option Int} {M:Mem} {Q:KN}:(rSlD (.lst xs) lo hi M Q)=(Q (.lst (cutL xs lo hi)) M):=propext Iff.rfl
theorem rSl_scr {ns:List Int} {lo hi:Option Int} {M:Mem} {Q:KN}:(rSlD (.scr ns) lo hi M Q)=(Q (.lst ((cutL ns lo hi).map D.int)) M):=propext Iff.rfl
theorem rRep_p {xs:List D} {k:Int} {M:Mem} {Q:KN}:(rRepD (.lst xs) (.int k) M Q)=(-(2 ^ 63)≤k∧k < 2 ^ 63∧xs.length * k.toNat≤sizeLine∧Q (.lst (List.replicate k.toNat xs).flatten) M):=propext Iff.rfl
theorem pOptK {α:Type} {a:α} {k:α→Prop}:(optK (some a) k)=(k a):=propext Iff.rfl
end DL
namespace DL
open PySem PySem.Spec PyProof.Rows L2 RZ
def gOrd {α:Type} (n m:Nat) (ord:List Nat) (us ws:List α):List α:=if us.length=n∧ws.length=m then ord.filterMap fun i=>(us ++ ws)[i]? else []
theorem vals_pick {xs:List V} {us:List Value} (r:Vals xs us):∀ord:List Nat,Vals (ord.filterMap fun i=>xs[i]?) (ord.filterMap fun i=>us[i]?)
 | []=> .nil
 | i :: ord=>by
  rw [List.filterMap_cons,List.filterMap_cons]
  have hl:=r.length
  by_cases h:i < xs.length
  ·obtain ⟨u,hu,ru⟩:=r.get (i:=i) (x:=xs[i]) (List.getElem?_eq_getElem h)
   rw [List.getElem?_eq_getElem h,hu]
   exact .cons ru (vals_pick r ord)
  ·rw [List.getElem?_eq_none (by omega),List.getElem?_eq_none (by omega)]
   exact vals_pick r ord
theorem vals_app:∀{xs ys:List V} {us ws:List Value},Vals xs us→Vals ys ws→Vals (xs ++ ys) (us ++ ws)
 | _,_,_,_, .nil,h=>h
 | _,_,_,_, .cons r t,h=> .cons r (vals_app t h)
theorem gOrd_vals {n m:Nat} {ord:List Nat} {vs zs:List V} {us ws:List Value} (r:Vals vs us) (q:Vals zs ws):Vals (gOrd n m ord vs zs) (gOrd n m ord us ws):=by
 unfold gOrd
 have h1:=r.length
 have h2:=q.length
 by_cases h:vs.length=n∧zs.length=m
 ·rw [if_pos h,if_pos (by rw [← h1,← h2];exact h)]
  exact vals_pick (vals_app r q) ord
 ·rw [if_neg h,if_neg (by rw [← h1,← h2];exact h)]
  exact .nil
theorem dvs_pick {K:PySem.W.Frag} {H:Hp} {M:Mem} {ds:List D} {xs:List V} (r:DVs K H M ds xs):∀ord:List Nat,DVs K H M (ord.filterMap fun i=>ds[i]?) (ord.filterMap fun i=>xs[i]?)
 | []=>rfl
 | i :: ord=>by
  rw [List.filterMap_cons,List.filterMap_cons]
  have hl:=r.len
  by_cases h:i < ds.length
  ·obtain ⟨x,hx,g⟩:=r.get (List.getElem?_eq_getElem h)
   rw [List.getElem?_eq_getElem h,hx]
   exact ⟨_,_,rfl,g,dvs_pick r ord⟩
  ·rw [List.getElem?_eq_none (by omega),List.getElem?_eq_none (by omega)]
   exact dvs_pick r ord
theorem gOrd_dvs {K:PySem.W.Frag} {H:Hp} {M:Mem} {n m:Nat} {ord:List Nat} {ds es:List D} {vs zs:List V} (r:DVs K H M ds vs) (q:DVs K H M es zs):DVs K H M (gOrd n m ord ds es) (gOrd n m ord vs zs):=by
 unfold gOrd
 have h1:=r.len
 have h2:=q.len
 by_cases h:ds.length=n∧es.length=m
 ·rw [if_pos h,if_pos (by rw [h1,h2];exact h)]
  exact dvs_pick (DVs.app r q) ord
 ·rw [if_neg h,if_neg (by rw [h1,h2];exact h)]
  rfl
theorem kb_mk {K:PySem.W.Frag} {fd:FuncData} {ps ks:List Str} {n m:Nat} {ord:List Nat} (hp:0 < ps.length) (h:∀us ws:List Value,us.length=n→ws.length=m→∀s,BindsTo s fd ⟨us,ks.zip ws⟩ (ps.zip (gOrd n m ord us ws))):KBinds K fd ps ks (gOrd n m ord) (gOrd n m ord):=by
 refine ⟨fun s us ws _ hl=>?_,fun r q=>gOrd_vals r q⟩
 by_cases e:us.length=n∧ws.length=m
 ·exact h us ws e.1 e.2 s
 ·unfold gOrd at hl
  rw [if_neg e] at hl
  rw [← hl] at hp
  exact absurd hp (Nat.lt_irrefl 0)
structure FnJK (P:Program) (w:World) (K:PySem.W.Frag) (mg:Str→Option Value) (base:Heap) (k:Nat) (f:Addr) (sp:SpD) (ks:List Str) (n m:Nat) (ord:List Nat):Prop where
 ex:∃fd ps,FnOk P w K mg base (L2.CX P w) k f fd ps (liftSp K sp)∧KBinds K fd ps ks (gOrd n m ord) (gOrd n m ord)
 kp:PySem.W.keepIn K (.ref f)=true
def wCallK (sp:SpD) (n m:Nat) (ord:List Nat) (wa wk:WA):WE:=fun ds M Q Xc=>wa ds M (fun xs M1=>wk ds M1 (fun ys M2=>sp (gOrd n m ord xs ys) M2 Q Xc) Xc) Xc
theorem pk_mono {X:Cx} {es:List Keyword} {t t':TA} (h:PK X es t) (i:∀σ H Q,t' σ H Q→t σ H Q):PK X es t':=⟨fun pos pins s σ H Q I hw=>h.run pos pins s σ H Q I (i σ H Q hw)⟩
section
variable {X : Cx} {W : WX} {x : Str} {p pos : Pos} {e : Expr} {es : List Expr} {kws : List Keyword} {wa wk : WA} {k j n m : Nat} {ord : List Nat} {f : Addr} {sp : SpD} {ks : List Str} {nm : Option Str} {kpos : Pos} {we : WE} {wr : WA}
theorem jk_nil:JK X W [] wNil:=pk_mono pk_nil fun σ H Q h=>by
 obtain ⟨ds,M,F,Qd,Xd,hs,_,hw,l1,_⟩:=h
 exact l1 [] H [] M Ext.rfl' hs.1 rfl hw
theorem dvs_turn {K:PySem.W.Frag} {H:Hp} {M:Mem} {d:D} {v:V}:∀{ds:List D} {vs:List V},DVs K H M (ds ++ [d]) (vs ++ [v])→DVs K H M (d :: ds) (v :: vs)
 | ds,vs,h=>by
  have hl:=h.len
  rw [List.length_append,List.length_append,List.length_singleton,List.length_singleton] at hl
  have e:vs.length=ds.length:=by omega
  have a:=h.take ds.length
  rw [List.take_left,← e,List.take_left] at a
  obtain ⟨x,hx,g⟩:=h.get (i:=ds.length) (d:=d) (by rw [List.getElem?_append_right (Nat.le_refl _),Nat.sub_self];rfl)
  rw [← e,List.getElem?_append_right (Nat.le_refl _),Nat.sub_self] at hx
  cases (Option.some.inj hx:v=x)
  exact ⟨v,vs,rfl,g,a⟩
theorem jk_cons {kws:List Keyword} (ha:JE X W e we) (hr:JK X W kws wr):JK X W (⟨nm,e,kpos⟩ :: kws) (wCons we wr):=
 pk_mono (pk_cons ha hr) fun σ H Q h=>bindE (wa:=we) (f:=fun d ds M Q Xc=>wr ds M (fun xs M2=>Q (d :: xs) M2) Xc) h fun v d H1 h=>bindA (wa:=wr) (f:=fun xs _ M Q _=>Q (d :: xs) M) h fun vs ds H2 h=>by
  obtain ⟨_,M,F,Qd,Xd,hs,hv,hw,l1,_⟩:=h
  exact l1 (v :: vs) H2 (d :: ds) M Ext.rfl' hs.1 (dvs_turn hv) hw
def rIsBD (neg:Bool):RD2:=fun d e M Q=>match d,e with
 | .bl x, .bl y=>Q (.bl (xor neg (decide (x=y)))) M
 | _,_=>False
end
end DL
namespace DL
open PySem PySem.Spec PyProof.Rows L2 RZ
def valD:List Key→List D→Key→Option D
 | j :: ks,x :: xs,k=>if j=k then some x else valD ks xs k
 | _,_,_=>none
def moDct:Option MO→Option (List Key×List D)
 | some (.dct ks xs)=>some (ks,xs)
 | _=>none
def dctOf (M:Mem):D→Option (List Key×List D)
 | .dct ks xs=>some (ks,xs)
 | .ref a=>moDct (M a)
 | _=>none
section
variable {K : PySem.W.Frag} {H : Hp} {M F : Mem}
theorem valD_ok:∀{kvs:List (Key×V)} {ks:List Key} {xs:List D} {k:Key} {d:D},kvs.map (·.1)=ks→DVs K H M xs (kvs.map (·.2))→valD ks xs k=some d→∃v,valV kvs k=some v∧DV K H M d v
 | [],ks,xs,k,d,e,_,h=>by
  cases (show []=ks from e)
  cases h
 | p :: kvs,ks,xs,k,d,e,g,h=>by
  cases (show p.1 :: kvs.map (·.1)=ks from e)
  cases xs with
  | nil=>cases h
  | cons x xs=>
   obtain ⟨y,ys,e2,g1,g2⟩:=g
   cases e2
   by_cases c:p.1=k
   ·have h':(if p.1=k then some x else valD (kvs.map (·.1)) xs k)=some d:=h
    rw [if_pos c] at h'
    cases h'
    exact ⟨p.2,valV_pos c,g1⟩
   ·have h':(if p.1=k then some x else valD (kvs.map (·.1)) xs k)=some d:=h
    rw [if_neg c] at h'
    obtain ⟨v,h1,h2⟩:=valD_ok rfl g2 h'
    exact ⟨v,by rw [valV_neg c];exact h1,h2⟩
theorem dctOf_ok (R:Rm K H M F) {d:D} {ks:List Key} {xs:List D} {x:V} (h:dctOf M d=some (ks,xs)) (g:DV K H (uni M F) d x):∃a kvs,x= .ref a∧Rd H a (.dK kvs)∧kvs.map (·.1)=ks∧DVs K H (uni M F) xs (kvs.map (·.2)):=by
 cases d <;> first | cases h | skip
 ·rename_i a
  have h':moDct (M a)=some (ks,xs):=h
  cases e:M a with
  | none=>rw [e] at h';cases h'
  | some o=>
   rw [e] at h'
   cases o <;> first | cases h' | skip
   obtain ⟨kvs,q1,q2,q3⟩:=R.get e
   cases (show x= .ref a from g)
   exact ⟨a,kvs,rfl, .inl q1,q2,q3⟩
 ·obtain ⟨a,kvs,e,q1,_,q2,q3⟩:=g
  exact ⟨a,kvs,e,q1,q2,q3⟩
theorem keyD_val {d:D} {k:Key} {y:V} (h:keyD d=some k) (g:DV K H M d y):y=kV k:=by
 cases d <;> first | (cases h;exact g) | cases h
end
def rDixD:RD2:=fun d e M Q=>optK (dctOf M d) fun p=>optK (keyD e) fun k=>optK (valD p.1 p.2 k) fun v=>Q v M
section
variable {X : Cx} {W : WX} {o i : Expr} {wo wi : WE} {pos : Pos}
theorem j_dix (hu:X.A.units + 1 < cLine) (ho:JE X W o wo) (hi:JE X W i wi) (hs:NoSl i:=by exact fun _ _=>rfl):JE X W (.Subscript o i pos) (wOp rDixD wo wi):=
 pe_mono (pe_dget hu ho hi hs) fun σ H Q h=>bindE (wa:=wo) (f:=fun x ds M Q Xc=>wi ds M (fun y M2=>rDixD x y M2 Q) Xc) h fun x d H1 h=>bindE (wa:=wi) (f:=fun y _ M Q _=>rDixD d y M Q) h fun y e H2 h=>by
  obtain ⟨ds,M,F,Qd,Xd,hs',hv,hw,l1,_⟩:=h
  obtain ⟨_,_,e1,h1,_,_,e2,h2,_⟩:=hv
  cases e1
  cases e2
  obtain ⟨⟨ks,xs⟩,q1,hw⟩:=optK_of hw
  obtain ⟨k,q2,hw⟩:=optK_of hw
  obtain ⟨v,q3,q⟩:=optK_of hw
  obtain ⟨a,kvs,e3,r1,r2,r3⟩:=dctOf_ok hs'.1 q1 h2
  obtain ⟨u,r4,r5⟩:=valD_ok r2 r3 q3
  refine ⟨a,u,e3, .inl ⟨kvs,k,r1,keyD_val q2 h1,r4.symm⟩,l1 u H2 v M Ext.rfl' hs'.1 r5 q⟩
end
section
variable {X : Cx}
end
def replD:List Key→List D→Key→D→List D
 | j :: ks,x :: xs,k,d=>(if j=k then d else x) :: replD ks xs k d
 | _,_,_,_=> []
def putDk (ks:List Key) (xs:List D) (k:Key) (d:D):List Key×List D:=if (ks.any fun j=>decide (j=k))=true then (ks,replD ks xs k d) else (ks ++ [k],xs ++ [d])
section
variable {X : Cx} {W : WX} {o i e : Expr} {wo wi we : WE} {pos : Pos}
end
end DL
namespace DL
open PySem PySem.Spec PyProof.Rows L2 RZ
structure Draw (prog:Program) (w:World) (it l:Addr) (xs:Array Value) (St:Nat→Heap→Prop):Prop where
 it_:∀i h,St i h→∃o,h.get? it=some o
 src:∀i h,St i h→∃o,h.get? l=some o
 frame:∀i h h',St i h→(∀o,h.get? it=some o→h'.get? it=some o)→(∀o,h.get? l=some o→h'.get? l=some o)→St i h'
 item:∀(A:Around) (s:Shared) (E:Value→Shared→Prop) (Q:Value→Shared→Prop) i x,St i s.heap→xs[i]?=some x→(∀h',St (i + 1) h'→Heap.SameBut it s.heap h'→Q x {s with heap:=h'})→
  wpAny (model prog w) A (Builtin.SmallTypes.nextOf (.ref it)) Q E s
 done:∀(A:Around) (s:Shared) (E:Value→Shared→Prop) (Q:Value→Shared→Prop) i,A.handled=none→St i s.heap→xs[i]?=none→
  (∀h' e,Heap.ExtBut it s.heap h'→(∃o,h'.get? e=some o∧o.cls= .type "StopIteration")→E (.ref e) {s with heap:=h'})→wpAny (model prog w) A (Builtin.SmallTypes.nextOf (.ref it)) Q E s
theorem draw_list {prog:Program} {w:World} {it l:Addr} {xs:Array Value} (ne:l≠it):Draw prog w it l xs (fun i h=>h.IsListIter it l i∧h.IsList l xs) where
 it_:=fun i h ⟨⟨o,e,_⟩,_⟩=>⟨o,e⟩
 src:=fun i h ⟨_,⟨o,e,_⟩⟩=>⟨o,e⟩
 frame:=fun i h h' ⟨a,b⟩ k1 k2=>⟨a.at k1,b.at k2⟩
 item:=fun A s E Q i x ⟨a,b⟩ e q=>wpAny_nextOf_list_item a b e fun h' a' sb=>q h' ⟨a',b.extBut sb.extBut ne⟩ sb
 done:=fun A s E Q i hh ⟨a,b⟩ e q=>wpAny_nextOf_list_end hh a b e fun h' x sb hx=>q h' x sb hx
theorem draw_tup {prog:Program} {w:World} {it l:Addr} {xs:Array Value} (ne:l≠it):Draw prog w it l xs (fun i h=>h.IsTupleIter it l i∧h.IsTuple l xs) where
 it_:=fun i h ⟨⟨o,e,_⟩,_⟩=>⟨o,e⟩
 src:=fun i h ⟨_,⟨o,e,_⟩⟩=>⟨o,e⟩
 frame:=fun i h h' ⟨a,b⟩ k1 k2=>⟨a.at k1,b.at k2⟩
 item:=fun A s E Q i x ⟨a,b⟩ e q=>RZ.nextOf_tuple_item a b e fun h' a' sb=>q h' ⟨a',b.extBut sb.extBut ne⟩ sb
 done:=fun A s E Q i hh ⟨a,b⟩ e q=>RZ.nextOf_tuple_end hh a b e fun h' x sb hx=>q h' x sb hx
section
variable {prog : Program} {w : World} {A : Around} {E : Value → Shared → Prop} {s : Shared} {z TI TO T i1 i2 l1 l2 : Addr} {xs ys : Array Value} {S1 S2 : Nat → Heap → Prop} {k : Nat} {f : Bool} {oT : Obj} {x y : Value}
theorem held_item (D:ZipApart z TI TO i1 i2 l1 l2) (d1:Draw prog w i1 l1 xs S1) (d2:Draw prog w i2 l2 ys S2) (hz:IsZipHeld s.heap z TI TO T f) (hT:s.heap.get? T=some oT) (hTI:IsPair s.heap TI (.ref i1) (.ref i2))
  (g1:S1 k s.heap) (g2:S2 k s.heap) (ex:xs[k]?=some x) (ey:ys[k]?=some y) {Q:Value→Shared→Prop}
  (q:∀h',IsZipHeld h' z TI TO T true→S1 (k + 1) h'→S2 (k + 1) h'→IsPair h' s.heap.objs.size x y→h'.objs.size=s.heap.objs.size + 1→(∀c o,c≠z→c≠i1→c≠i2→s.heap.get? c=some o→h'.get? c=some o)→Q (.ref s.heap.objs.size) {s with heap:=h'}):
  wpAny (model prog w) A (Builtin.«zip.__next__» ⟨[.ref z], []⟩) (fun fin s'=>∃v,fin= .done (.ret v)∧Q v s') E s:=by
 refine wpAny_bind (m:=field (.ref z) 2) (wpAny_field hz rfl (x:= .bool false) rfl (wpAny_bind (m:=field (.ref z) 3) (wpAny_field hz rfl (x:= .ref TI) rfl (wpAny_bind (wpAny_seqItems hTI rfl ?_)))))
 refine wpAny_bind (m:=Builtin.SmallTypes.ownedTupleIsFree (.ref z)) (wpAny_tupleHeld_zip hz hT fun a za sa=>?_)
 simp only [Bool.false_eq_true,if_false]
 rw [← Array.forIn_toList]
 simp only [List.forIn_cons,List.forIn_nil]
 have g1a:S1 k a:=d1.frame _ _ _ g1 (fun o e=>sa.extBut _ _ D.i1z e) fun o e=>sa.extBut _ _ D.l1z e
 have g2a:S2 k a:=d2.frame _ _ _ g2 (fun o e=>sa.extBut _ _ D.i2z e) fun o e=>sa.extBut _ _ D.l2z e
 refine wpAny_bind (wpAny_bind (wpAny_bind (wpAny_holding ?_)))
 refine wpAny_bind (m:=Builtin.SmallTypes.nextOf (.ref i1)) (d1.item _ {s with heap:=a} _ _ k x g1a ex fun b g1b sb=>wpAny_pure (wpAny_pure ?_))
 have g2b:S2 k b:=d2.frame _ _ _ g2a (fun o e=>sb.extBut _ _ D.i12.symm e) fun o e=>sb.extBut _ _ D.l2i1 e
 refine wpAny_bind (wpAny_bind (wpAny_holding ?_))
 refine wpAny_bind (m:=Builtin.SmallTypes.nextOf (.ref i2)) (d2.item _ {s with heap:=b} _ _ k y g2b ey fun c g2c sc=>wpAny_pure (wpAny_pure (wpAny_pure ?_)))
 have n:c.objs.size=s.heap.objs.size:=sc.1.trans (sb.1.trans sa.1)
 have keep:∀v o,v≠z→v≠i1→v≠i2→s.heap.get? v=some o→c.get? v=some o:=fun v o e1 e2 e3 e=>sc.extBut _ _ e3 (sb.extBut _ _ e2 (sa.extBut _ _ e1 e))
 have zc:IsZipHeld c z TI TO T true:=sc.extBut _ _ D.i2z.symm (sb.extBut _ _ D.i1z.symm za)
 have g1c:S1 (k + 1) c:=d1.frame _ _ _ g1b (fun o e=>sc.extBut _ _ D.i12 e) fun o e=>sc.extBut _ _ D.l1i2 e
 refine wpAny_bind (m:=newTuple [x,y]) (wpAny_newTuple (wpAny_pure ⟨_,rfl,?_⟩))
 have more:∀v o,c.get? v=some o→(c.push {cls:= .type "tuple",data:= .seq #[x,y]}).get? v=some o:=fun v o e=>Heap.get?_push_of_some _ e
 have last:IsPair (c.push {cls:= .type "tuple",data:= .seq #[x,y]}) c.objs.size x y:=Heap.get?_push_size _ rfl
 have grown:(c.push {cls:= .type "tuple",data:= .seq #[x,y]}).objs.size=c.objs.size + 1:=Heap.size_push ..
 show Q (.ref c.objs.size) _
 rw [n] at last grown ⊢
 exact q _ (more _ _ zc) (d1.frame _ _ _ g1c (fun o e=>more _ _ e) fun o e=>more _ _ e) (d2.frame _ _ _ g2c (fun o e=>more _ _ e) fun o e=>more _ _ e) last grown fun v o e1 e2 e3 e=>more _ _ (keep v o e1 e2 e3 e)
theorem held_end (hh:A.handled=none) (D:ZipApart z TI TO i1 i2 l1 l2) (d1:Draw prog w i1 l1 xs S1) (d2:Draw prog w i2 l2 ys S2) (hz:IsZipHeld s.heap z TI TO T f) (hT:s.heap.get? T=some oT) (hTI:IsPair s.heap TI (.ref i1) (.ref i2))
  (g1:S1 k s.heap) (g2:S2 k s.heap) (fin:xs[k]?=none∨ys[k]?=none) {Q:PySem.Fin→Shared→Prop}
  (q:∀h' e,(∀c o,c≠z→c≠i1→c≠i2→s.heap.get? c=some o→h'.get? c=some o)→(∃o,h'.get? e=some o∧o.cls= .type "StopIteration")→E (.ref e) {s with heap:=h'}):
  wpAny (model prog w) A (Builtin.«zip.__next__» ⟨[.ref z], []⟩) Q E s:=by
 refine wpAny_bind (m:=field (.ref z) 2) (wpAny_field hz rfl (x:= .bool false) rfl (wpAny_bind (m:=field (.ref z) 3) (wpAny_field hz rfl (x:= .ref TI) rfl (wpAny_bind (wpAny_seqItems hTI rfl ?_)))))
 refine wpAny_bind (m:=Builtin.SmallTypes.ownedTupleIsFree (.ref z)) (wpAny_tupleHeld_zip hz hT fun a za sa=>?_)
 simp only [Bool.false_eq_true,if_false]
 rw [← Array.forIn_toList]
 simp only [List.forIn_cons,List.forIn_nil]
 have g1a:S1 k a:=d1.frame _ _ _ g1 (fun o e=>sa.extBut _ _ D.i1z e) fun o e=>sa.extBut _ _ D.l1z e
 have g2a:S2 k a:=d2.frame _ _ _ g2 (fun o e=>sa.extBut _ _ D.i2z e) fun o e=>sa.extBut _ _ D.l2z e
 refine wpAny_bind (wpAny_bind (wpAny_bind (wpAny_holding ?_)))
 cases ex:xs[k]? with
 | none=>exact wpAny_bind (m:=Builtin.SmallTypes.nextOf (.ref i1)) (d1.done _ {s with heap:=a} _ _ k hh g1a ex fun b e sb he=>q b e (fun c o e1 e2 _ h=>sb _ _ e2 (sa.extBut _ _ e1 h)) he)
 | some x=>
  have ey:ys[k]?=none:=fin.resolve_left (by rw [ex];exact fun h=>nomatch h)
  refine wpAny_bind (m:=Builtin.SmallTypes.nextOf (.ref i1)) (d1.item _ {s with heap:=a} _ _ k x g1a ex fun b g1b sb=>wpAny_pure (wpAny_pure ?_))
  have g2b:S2 k b:=d2.frame _ _ _ g2a (fun o e=>sb.extBut _ _ D.i12.symm e) fun o e=>sb.extBut _ _ D.l2i1 e
  refine wpAny_bind (wpAny_bind (wpAny_holding ?_))
  exact wpAny_bind (m:=Builtin.SmallTypes.nextOf (.ref i2)) (d2.done _ {s with heap:=b} _ _ k hh g2b ey fun c e sc he=>q c e (fun v o e1 e2 e3 h=>sc _ _ e3 (sb.extBut _ _ e2 (sa.extBut _ _ e1 h))) he)
theorem free_item {u v:Value} (D:ZipApart z TI TO i1 i2 l1 l2) (ne1:l1≠TO) (ne2:l2≠TO) (d1:Draw prog w i1 l1 xs S1) (d2:Draw prog w i2 l2 ys S2) (hz:IsZip s.heap z TI TO .none) (hTI:IsPair s.heap TI (.ref i1) (.ref i2)) (hTO:IsPair s.heap TO u v)
  (g1:S1 k s.heap) (g2:S2 k s.heap) (ex:xs[k]?=some x) (ey:ys[k]?=some y) {Q:Value→Shared→Prop}
  (q:∀h',IsZipHeld h' z TI TO s.heap.objs.size false→S1 (k + 1) h'→S2 (k + 1) h'→IsPair h' s.heap.objs.size x y→h'.objs.size=s.heap.objs.size + 1→(∀c o,c≠z→c≠TO→c≠i1→c≠i2→s.heap.get? c=some o→h'.get? c=some o)→Q (.ref s.heap.objs.size) {s with heap:=h'}):
  wpAny (model prog w) A (Builtin.«zip.__next__» ⟨[.ref z], []⟩) (fun fin s'=>∃v,fin= .done (.ret v)∧Q v s') E s:=by
 refine wpAny_bind (m:=field (.ref z) 2) (wpAny_field hz rfl (x:= .bool false) rfl (wpAny_bind (m:=field (.ref z) 3) (wpAny_field hz rfl (x:= .ref TI) rfl (wpAny_bind (wpAny_seqItems hTI rfl ?_)))))
 refine wpAny_bind (m:=Builtin.SmallTypes.ownedTupleIsFree (.ref z)) (wpAny_bind (wpAny_field hz rfl (x:= .none) rfl (wpAny_pure ?_)))
 simp only [if_true]
 refine wpAny_bind (wpAny_rule (wpAny_bind (wpAny_field hz rfl (x:= .ref TO) rfl (wpAny_bind (wpAny_setField_rec hz (by simp) fun a za sa=>?_)))))
 simp only [List.zipIdx_cons,List.zipIdx_nil,List.forIn_cons,List.forIn_nil]
 have za':IsZip a z TI TO .ellipsis:=za
 have g1a:S1 k a:=d1.frame _ _ _ g1 (fun o e=>sa.extBut _ _ D.i1z e) fun o e=>sa.extBut _ _ D.l1z e
 have g2a:S2 k a:=d2.frame _ _ _ g2 (fun o e=>sa.extBut _ _ D.i2z e) fun o e=>sa.extBut _ _ D.l2z e
 refine wpAny_bind (wpAny_bind (wpAny_bind (wpAny_onRaise ?_)))
 refine wpAny_bind (m:=Builtin.SmallTypes.nextOf (.ref i1)) (d1.item _ {s with heap:=a} _ _ k x g1a ex fun b g1b sb=>wpAny_pure ?_)
 have pb:IsPair b TO u v:=sb.extBut _ _ D.TOi1 (sa.extBut _ _ D.TOz hTO)
 refine wpAny_bind (wpAny_seqItems pb rfl (wpAny_bind (wpAny_updateSeq_pair pb fun c pc sc=>wpAny_bind (wpAny_letGo (wpAny_pure ?_)))))
 have pc':IsPair c TO x v:=pc
 have g2c:S2 k c:=d2.frame _ _ _ g2a (fun o e=>sc.extBut _ _ D.TOi2.symm (sb.extBut _ _ D.i12.symm e)) fun o e=>sc.extBut _ _ ne2 (sb.extBut _ _ D.l2i1 e)
 refine wpAny_bind (wpAny_bind (wpAny_onRaise ?_))
 refine wpAny_bind (m:=Builtin.SmallTypes.nextOf (.ref i2)) (d2.item _ {s with heap:=c} _ _ k y g2c ey fun d g2d sd=>wpAny_pure ?_)
 have pd:IsPair d TO x v:=sd.extBut _ _ D.TOi2 pc'
 refine wpAny_bind (wpAny_seqItems pd rfl (wpAny_bind (wpAny_updateSeq_pair pd fun e pe se=>wpAny_bind (wpAny_letGo (wpAny_pure (wpAny_pure ?_))))))
 have pe':IsPair e TO x y:=pe
 refine wpAny_bind (wpAny_seqItems pe' rfl (wpAny_bind (wpAny_newTuple ?_)))
 have n:e.objs.size=s.heap.objs.size:=se.1.trans (sd.1.trans (sc.1.trans (sb.1.trans sa.1)))
 have keep:∀m o,m≠z→m≠TO→m≠i1→m≠i2→s.heap.get? m=some o→e.get? m=some o:=fun m o e1 e2 e3 e4 h=>se.extBut _ _ e2 (sd.extBut _ _ e4 (sc.extBut _ _ e2 (sb.extBut _ _ e3 (sa.extBut _ _ e1 h))))
 have ze:IsZip e z TI TO .ellipsis:=se.extBut _ _ D.TOz.symm (sd.extBut _ _ D.i2z.symm (sc.extBut _ _ D.TOz.symm (sb.extBut _ _ D.i1z.symm za')))
 have ltz:z < e.objs.size:=Heap.lt_size ze
 have zp:IsZip (e.push {cls:= .type "tuple",data:= .seq #[x,y]}) z TI TO .ellipsis:=Heap.get?_push_of_some _ ze
 refine wpAny_bind (m:=Builtin.SmallTypes.ownedTupleHandOut (.ref z) (.ref e.objs.size)) ?_
 unfold Builtin.SmallTypes.ownedTupleHandOut
 refine wpAny_bind (wpAny_setField_rec zp (by simp) fun r1 zr1 sr1=>?_)
 have zr1':IsZip r1 z TI TO (rawInt e.objs.size):=zr1
 refine wpAny_setField_rec zr1' (by simp) fun r2 zr2 sr2=>wpAny_pure ⟨_,rfl,?_⟩
 have zr2':IsZipHeld r2 z TI TO e.objs.size false:=zr2
 have more:∀m o,m≠z→e.get? m=some o→r2.get? m=some o:=fun m o e1 h=>sr2.extBut _ _ e1 (sr1.extBut _ _ e1 (Heap.get?_push_of_some _ h))
 have last:IsPair r2 e.objs.size x y:=sr2.extBut _ _ (Nat.ne_of_gt ltz) (sr1.extBut _ _ (Nat.ne_of_gt ltz) (Heap.get?_push_size _ rfl))
 have grown:r2.objs.size=e.objs.size + 1:=by rw [sr2.1,sr1.1,Heap.size_push]
 have g1r:S1 (k + 1) r2:=d1.frame _ _ _ g1b (fun o h=>more _ _ D.i1z (se.extBut _ _ D.TOi1.symm (sd.extBut _ _ D.i12 (sc.extBut _ _ D.TOi1.symm h)))) fun o h=>more _ _ D.l1z (se.extBut _ _ ne1 (sd.extBut _ _ D.l1i2 (sc.extBut _ _ ne1 h)))
 have g2r:S2 (k + 1) r2:=d2.frame _ _ _ g2d (fun o h=>more _ _ D.i2z (se.extBut _ _ D.TOi2.symm h)) fun o h=>more _ _ D.l2z (se.extBut _ _ ne2 h)
 show Q (.ref e.objs.size) _
 rw [n] at zr2' last grown ⊢
 exact q _ zr2' g1r g2r last grown fun m o e1 e2 e3 e4 h=>more _ _ e1 (keep m o e1 e2 e3 e4 h)
theorem free_end {u v:Value} (hh:A.handled=none) (D:ZipApart z TI TO i1 i2 l1 l2) (ne1:l1≠TO) (ne2:l2≠TO) (d1:Draw prog w i1 l1 xs S1) (d2:Draw prog w i2 l2 ys S2) (hz:IsZip s.heap z TI TO .none) (hTI:IsPair s.heap TI (.ref i1) (.ref i2)) (hTO:IsPair s.heap TO u v)
  (g1:S1 k s.heap) (g2:S2 k s.heap) (fin:xs[k]?=none∨ys[k]?=none) {Q:PySem.Fin→Shared→Prop}
  (q:∀h' e,(∀c o,c≠z→c≠TO→c≠i1→c≠i2→s.heap.get? c=some o→h'.get? c=some o)→(∃o,h'.get? e=some o∧o.cls= .type "StopIteration")→E (.ref e) {s with heap:=h'}):
  wpAny (model prog w) A (Builtin.«zip.__next__» ⟨[.ref z], []⟩) Q E s:=by
 refine wpAny_bind (m:=field (.ref z) 2) (wpAny_field hz rfl (x:= .bool false) rfl (wpAny_bind (m:=field (.ref z) 3) (wpAny_field hz rfl (x:= .ref TI) rfl (wpAny_bind (wpAny_seqItems hTI rfl ?_)))))
 refine wpAny_bind (m:=Builtin.SmallTypes.ownedTupleIsFree (.ref z)) (wpAny_bind (wpAny_field hz rfl (x:= .none) rfl (wpAny_pure ?_)))
 simp only [if_true]
 refine wpAny_bind (wpAny_rule (wpAny_bind (wpAny_field hz rfl (x:= .ref TO) rfl (wpAny_bind (wpAny_setField_rec hz (by simp) fun a za sa=>?_)))))
 simp only [List.zipIdx_cons,List.zipIdx_nil,List.forIn_cons,List.forIn_nil]
 have za':IsZip a z TI TO .ellipsis:=za
 have g1a:S1 k a:=d1.frame _ _ _ g1 (fun o e=>sa.extBut _ _ D.i1z e) fun o e=>sa.extBut _ _ D.l1z e
 have g2a:S2 k a:=d2.frame _ _ _ g2 (fun o e=>sa.extBut _ _ D.i2z e) fun o e=>sa.extBut _ _ D.l2z e
 refine wpAny_bind (wpAny_bind (wpAny_bind (wpAny_onRaise ?_)))
 cases ex:xs[k]? with
 | none=>
  refine wpAny_bind (m:=Builtin.SmallTypes.nextOf (.ref i1)) (d1.done _ {s with heap:=a} _ _ k hh g1a ex fun b e sb he=>?_)
  have zb:IsZip b z TI TO .ellipsis:=sb _ _ D.i1z.symm za'
  have ez:e≠z:=fun h=>by
   obtain ⟨o,h1,h2⟩:=he
   rw [h,zb] at h1
   cases h1
   exact absurd h2 (by simp)
  refine wpAny_setField_rec zb (by simp) fun c _ sc=>q c e (fun m o e1 _ e3 _ h=>sc.extBut _ _ e1 (sb _ _ e3 (sa.extBut _ _ e1 h))) ?_
  obtain ⟨o,h1,h2⟩:=he
  exact ⟨o,sc.extBut _ _ ez h1,h2⟩
 | some x=>
  have ey:ys[k]?=none:=fin.resolve_left (by rw [ex];exact fun h=>nomatch h)
  refine wpAny_bind (m:=Builtin.SmallTypes.nextOf (.ref i1)) (d1.item _ {s with heap:=a} _ _ k x g1a ex fun b g1b sb=>wpAny_pure ?_)
  have pb:IsPair b TO u v:=sb.extBut _ _ D.TOi1 (sa.extBut _ _ D.TOz hTO)
  refine wpAny_bind (wpAny_seqItems pb rfl (wpAny_bind (wpAny_updateSeq_pair pb fun c pc sc=>wpAny_bind (wpAny_letGo (wpAny_pure ?_)))))
  have g2c:S2 k c:=d2.frame _ _ _ g2a (fun o e=>sc.extBut _ _ D.TOi2.symm (sb.extBut _ _ D.i12.symm e)) fun o e=>sc.extBut _ _ ne2 (sb.extBut _ _ D.l2i1 e)
  refine wpAny_bind (wpAny_bind (wpAny_onRaise ?_))
  refine wpAny_bind (m:=Builtin.SmallTypes.nextOf (.ref i2)) (d2.done _ {s with heap:=c} _ _ k hh g2c ey fun d e sd he=>?_)
  have zd:IsZip d z TI TO .ellipsis:=sd _ _ D.i2z.symm (sc.extBut _ _ D.TOz.symm (sb.extBut _ _ D.i1z.symm za'))
  have ez:e≠z:=fun h=>by
   obtain ⟨o,h1,h2⟩:=he
   rw [h,zd] at h1
   cases h1
   exact absurd h2 (by simp)
  refine wpAny_setField_rec zd (by simp) fun r _ sr=>q r e (fun m o e1 e2 e3 e4 h=>sr.extBut _ _ e1 (sd _ _ e4 (sc.extBut _ _ e2 (sb.extBut _ _ e3 (sa.extBut _ _ e1 h))))) ?_
  obtain ⟨o,h1,h2⟩:=he
  exact ⟨o,sr.extBut _ _ ez h1,h2⟩
end
end DL
namespace DL
open PySem PySem.Spec PyProof.Rows L2 RZ
theorem pair_draws {prog:Program} {w:World} {z TI TO i1 i2 l1 l2:Addr} {xs ys:Array Value} {S1 S2:Nat→Heap→Prop} (D:ZipApart z TI TO i1 i2 l1 l2) (ne1:l1≠TO) (ne2:l2≠TO) (d1:Draw prog w i1 l1 xs S1) (d2:Draw prog w i2 l2 ys S2):
  PairArg prog w "zip" z [z,TI,TO,i1,i2,l1,l2] [z,TO,i1,i2] (min xs.size ys.size) (fun i k v=>xs[i]?=some k∧ys[i]?=some v)
   (fun h=>IsZip h z TI TO .none∧IsPair h TI (.ref i1) (.ref i2)∧(∃a b,IsPair h TO a b)∧S1 0 h∧S2 0 h) where
 type:=fun s ok=>⟨_,ok.1,rfl⟩
 notDict:=by decide
 keep:=fun h h' ⟨a,b,⟨u,v,c⟩,e,f⟩ k=>⟨k _ _ a,k _ _ b,⟨u,v,k _ _ c⟩,d1.frame _ _ _ e (k _) (k _),d2.frame _ _ _ f (k _) (k _)⟩
 there:=fun h ⟨a,b,⟨u,v,c⟩,e,f⟩ m hm=>by
  simp only [List.mem_cons,List.not_mem_nil,or_false] at hm
  rcases hm with q | q | q | q | q | q | q <;> rw [q]
  ·exact ⟨_,a⟩
  ·exact ⟨_,b⟩
  ·exact ⟨_,c⟩
  ·exact d1.it_ _ _ e
  ·exact d2.it_ _ _ f
  ·exact d1.src _ _ e
  ·exact d2.src _ _ f
 sub:=fun m hm=>by
  simp only [List.mem_cons,List.not_mem_nil,or_false] at hm ⊢
  rcases hm with q | q | q | q <;> simp [q]
 noKeys:=fun A s Q E hA ok h=>getAttrOr_miss_zip ok.1 rfl rfl rfl zip_no_keys (by decide +kernel) hA h
 iter:=fun A s d Q E hA ⟨a,b,⟨u,v,c⟩,e,f⟩ hd off h=>by
  simp only [List.mem_cons,List.not_mem_nil,or_false,not_or] at off
  obtain ⟨o1,o2,o3,o4,o5,o6,o7⟩:=off
  refine wpAny_pyIter_zip a (h z [z,TO,i1,i2] (fun i h=>IsPair h TI (.ref i1) (.ref i2)∧S1 i h∧S2 i h∧((IsZip h z TI TO .none∧∃a b,IsPair h TO a b)∨∃T f oT,IsZipHeld h z TI TO T f∧h.get? T=some oT∧T≠z∧T≠i1∧T≠i2∧T≠d)) s.heap s.toks ?_
   ⟨b,e,f, .inl ⟨a,u,v,c⟩⟩ (fun _ _ q=>q) fun _ q=> .inl q)
  refine ⟨?_,?_,?_,?_⟩
  ·simp only [List.mem_cons,List.not_mem_nil,or_false,not_or]
   exact ⟨o1,o3,o4,o5⟩
  ·rintro i h1 h2 ⟨t,p,q,r⟩ k
   refine ⟨k _ _ (Ne.symm o2) t,d1.frame _ _ _ p (fun o=>k _ o (Ne.symm o4)) (fun o=>k _ o (Ne.symm o6)),d2.frame _ _ _ q (fun o=>k _ o (Ne.symm o5)) (fun o=>k _ o (Ne.symm o7)),?_⟩
   rcases r with ⟨x,m,n,y⟩ | ⟨T,g,oT,x,y,n1,n2,n3,n4⟩
   ·exact .inl ⟨k _ _ (Ne.symm o1) x,m,n,k _ _ (Ne.symm o3) y⟩
   ·exact .inr ⟨T,g,oT,k _ _ (Ne.symm o1) x,k _ _ n4 y,n1,n2,n3,n4⟩
  ·rintro i s1 Q1 E1 lt ⟨t,p,q,r⟩ dl go
   have e1:=Array.getElem?_eq_getElem (Nat.lt_of_lt_of_le lt (Nat.min_le_left xs.size ys.size))
   have e2:=Array.getElem?_eq_getElem (Nat.lt_of_lt_of_le lt (Nat.min_le_right xs.size ys.size))
   have new:∀{m o},s1.heap.get? m=some o→s1.heap.objs.size≠m:=fun h=>Nat.ne_of_gt (Heap.lt_size h)
   obtain ⟨_,w1⟩:=d1.it_ _ _ p
   obtain ⟨_,w2⟩:=d2.it_ _ _ q
   unfold pyNext
   rcases r with ⟨x,m,n,y⟩ | ⟨T,g,oT,x,y,n1,n2,n3,n4⟩
   ·have ty:s1.TypeIs (.ref z) "zip":=⟨_,x,rfl⟩
    refine wpAny_bind (wpAny_attempt (wpAny_callSpecial?_slot (name:=Str.ofString "__next__") ty F.slot_zip_next (wpAny_call_entry F.slot_zip_next ty F.entry_zip_next (free_item D ne1 ne2 d1 d2 x t y p q e1 e2 fun h' k1 k2 k3 k4 k5 k6=>wpAny_pure ?_) (F.args_zip_next_1 _))))
    exact go s1.heap.objs.size _ _ h' s1.toks ⟨e1,e2⟩ (.inl ⟨_,k4,rfl,_,rfl⟩) ⟨k6 _ _ D.TIz D.TITO D.TIi1 D.TIi2 t,k2,k3, .inr ⟨_,false,_,k1,k4,new x,new w1,new w2,Nat.ne_of_gt dl⟩⟩
     fun c o hc h=>k6 c o (fun z=>hc (by simp [z])) (fun z=>hc (by simp [z])) (fun z=>hc (by simp [z])) (fun z=>hc (by simp [z])) h
   ·have ty:s1.TypeIs (.ref z) "zip":=⟨_,x,rfl⟩
    refine wpAny_bind (wpAny_attempt (wpAny_callSpecial?_slot (name:=Str.ofString "__next__") ty F.slot_zip_next (wpAny_call_entry F.slot_zip_next ty F.entry_zip_next (held_item D d1 d2 x y t p q e1 e2 fun h' k1 k2 k3 k4 k5 k6=>wpAny_pure ?_) (F.args_zip_next_1 _))))
    exact go s1.heap.objs.size _ _ h' s1.toks ⟨e1,e2⟩ (.inl ⟨_,k4,rfl,_,rfl⟩) ⟨k6 _ _ D.TIz D.TIi1 D.TIi2 t,k2,k3, .inr ⟨T,true,oT,k1,k6 _ _ n1 n2 n3 y,n1,n2,n3,n4⟩⟩
     fun c o hc h=>k6 c o (fun z=>hc (by simp [z])) (fun z=>hc (by simp [z])) (fun z=>hc (by simp [z])) h
  ·rintro s1 Q1 E1 ⟨t,p,q,r⟩ go
   have fin:xs[min xs.size ys.size]?=none∨ys[min xs.size ys.size]?=none:=by
    by_cases h:xs.size≤ys.size
    ·exact .inl (Array.getElem?_eq_none (by omega))
    ·exact .inr (Array.getElem?_eq_none (by omega))
   unfold pyNext
   rcases r with ⟨x,m,n,y⟩ | ⟨T,g,oT,x,y,n1,n2,n3,n4⟩
   ·have ty:s1.TypeIs (.ref z) "zip":=⟨_,x,rfl⟩
    refine wpAny_bind (wpAny_attempt (wpAny_callSpecial?_slot (name:=Str.ofString "__next__") ty F.slot_zip_next (wpAny_call_entry F.slot_zip_next ty F.entry_zip_next (free_end (A:=A.in1) hA D ne1 ne2 d1 d2 x t y p q fin fun h' e k he=>?_) (F.args_zip_next_1 _))))
    obtain ⟨o,g1,g2⟩:=he
    exact wpAny_bind (wpAny_isInstance (T:="StopIteration") (b:=true) ⟨o,g1,g2⟩ isSubtype_stop (wpAny_pure (go _ s1.toks fun c o hc h=>k c o (fun z=>hc (by simp [z])) (fun z=>hc (by simp [z])) (fun z=>hc (by simp [z])) (fun z=>hc (by simp [z])) h)))
   ·have ty:s1.TypeIs (.ref z) "zip":=⟨_,x,rfl⟩
    refine wpAny_bind (wpAny_attempt (wpAny_callSpecial?_slot (name:=Str.ofString "__next__") ty F.slot_zip_next (wpAny_call_entry F.slot_zip_next ty F.entry_zip_next (held_end (A:=A.in1) hA D d1 d2 x y t p q fin fun h' e k he=>?_) (F.args_zip_next_1 _))))
    obtain ⟨o,g1,g2⟩:=he
    exact wpAny_bind (wpAny_isInstance (T:="StopIteration") (b:=true) ⟨o,g1,g2⟩ isSubtype_stop (wpAny_pure (go _ s1.toks fun c o hc h=>k c o (fun z=>hc (by simp [z])) (fun z=>hc (by simp [z])) (fun z=>hc (by simp [z])) h)))
end DL
namespace DL
open PySem PySem.Spec PyProof.Rows L2 RZ
theorem apart_nat {a b n:Nat} (h1:a < n) (h2:b < n):ZipApart (n + 4) (n + 2) (n + 3) n (n + 1) a b:=by
 constructor <;> (show @Ne Nat _ _;omega)
section
variable {prog : Program} {w : World} {A : Around} {E : Value → Shared → Prop} {s : Shared} {l1 l2 : Addr} {us vs : Array Value} {o1 o2 : Obj} {H1 H2 : Heap → Prop} {S1 S2 : Addr → Nat → Heap → Prop} {ks : List Key}
theorem dict_zip0 (B1:Begins (.ref l1) o1 H1) (B2:Begins (.ref l2) o2 H2) (h1:H1 s.heap) (h2:H2 s.heap) (lt1:l1 < s.heap.objs.size) (lt2:l2 < s.heap.objs.size)
  (d1:∀I,l1≠I→Draw prog w I l1 us (S1 I)) (d2:∀I,l2≠I→Draw prog w I l2 vs (S2 I))
  (m1:∀I h',h'.get? I=some o1→(∀c o,s.heap.get? c=some o→h'.get? c=some o)→S1 I 0 h') (m2:∀I h',h'.get? I=some o2→(∀c o,s.heap.get? c=some o→h'.get? c=some o)→S2 I 0 h')
  (free:A.handled=none) (n:us.size=vs.size) (hk:Vals (ks.map kV) us.toList) (nd:ks.Nodup) (small:us.size≤sizeLine) {Q:Value→Shared→Prop}
  (q:∀h' tk d,s.heap.objs.size≤d→h'.DictOf (mixKind prog w) d (ks.zip vs.toList)→(∀b o,s.heap.get? b=some o→h'.get? b=some o)→Q (.ref d) {s with heap:=h',toks:=tk}):
  wpAny (model prog w) A (call (.type "zip") [.ref l1, .ref l2]) (fun z s1=>wpAny (model prog w) A (call (.type "dict") [z]) Q E s1) E s:=by
 refine zip_begins2 B1 B2 h1 h2 fun h' a b c e1 e2 sz keep=>?_
 have kl:ks.length=us.size:=by
  have z:=hk.length
  rwa [List.length_map,Array.length_toList] at z
 have D:ZipApart (s.heap.objs.size + 4) (s.heap.objs.size + 2) (s.heap.objs.size + 3) s.heap.objs.size (s.heap.objs.size + 1) l1 l2:=apart_nat lt1 lt2
 have b1: @LT.lt Nat _ l1 s.heap.objs.size:=lt1
 have b2: @LT.lt Nat _ l2 s.heap.objs.size:=lt2
 have f1:l1≠s.heap.objs.size + 3:=Nat.ne_of_lt (by omega)
 have f2:l2≠s.heap.objs.size + 3:=Nat.ne_of_lt (by omega)
 have f3:l1≠s.heap.objs.size:=Nat.ne_of_lt b1
 have f4:l2≠s.heap.objs.size + 1:=Nat.ne_of_lt (by omega)
 have P:=pair_draws (prog:=prog) (w:=w) D f1 f2 (d1 s.heap.objs.size f3) (d2 (s.heap.objs.size + 1) f4)
 have mm:merged [] (ks.zip vs.toList)=ks.zip vs.toList:=merged_nil_of_nodup _ (by
  rw [List.map_fst_zip (by rw [kl,n,Array.length_toList];exact Nat.le_refl _)]
  exact nd)
 refine call_dict_pairs (knd:=mixKind prog w) (kvs:=ks.zip vs.toList) P free ⟨a,b,⟨_,_,c⟩,m1 _ _ e1 keep,m2 _ _ e2 keep⟩ ⟨?_,fun i key v h=>?_⟩ (Nat.le_trans (Nat.min_le_left _ _) small) fun h'' tk dd k2=>?_
 ·rw [List.length_zip,kl,n,Array.length_toList]
 ·obtain ⟨g1,g2⟩:=h
  obtain ⟨y,hy,ry⟩:=keys_at hk i key (by rw [Array.getElem?_toList];exact g1)
  exact ⟨y,by rw [List.getElem?_zip_eq_some];exact ⟨hy,by rw [Array.getElem?_toList];exact g2⟩,kV_is ry⟩
 ·rw [mm] at dd
  refine q h'' tk _ (by show @LE.le Nat _ _ h'.objs.size;rw [sz];omega) dd fun m o h=>k2 m o ?_ (keep m o h)
  have lt: @LT.lt Nat _ m s.heap.objs.size:=Heap.lt_size h
  simp only [List.mem_cons,List.not_mem_nil,or_false,not_or]
  exact ⟨Nat.ne_of_lt (by omega),Nat.ne_of_lt (by omega),Nat.ne_of_lt lt,Nat.ne_of_lt (by omega)⟩
theorem dict_zip (g1:Sq s.heap l1 us) (g2:Sq s.heap l2 vs) (free:A.handled=none) (n:us.size=vs.size) (hk:Vals (ks.map kV) us.toList) (nd:ks.Nodup) (small:us.size≤sizeLine) {Q:Value→Shared→Prop}
  (q:∀h' tk d,s.heap.objs.size≤d→h'.DictOf (mixKind prog w) d (ks.zip vs.toList)→(∀b o,s.heap.get? b=some o→h'.get? b=some o)→Q (.ref d) {s with heap:=h',toks:=tk}):
  wpAny (model prog w) A (call (.type "zip") [.ref l1, .ref l2]) (fun z s1=>wpAny (model prog w) A (call (.type "dict") [z]) Q E s1) E s:=by
 have a1:l1 < s.heap.objs.size:=by rcases g1 with ⟨o,e,_⟩ | ⟨o,e,_⟩ <;> exact Heap.lt_size e
 have a2:l2 < s.heap.objs.size:=by rcases g2 with ⟨o,e,_⟩ | ⟨o,e,_⟩ <;> exact Heap.lt_size e
 rcases g1 with g1 | g1 <;> rcases g2 with g2 | g2
 ·exact dict_zip0 (begins_list l1 us) (begins_list l2 vs) g1 g2 a1 a2 (fun I h=>draw_list h) (fun I h=>draw_list h) (fun I h' e k=>⟨⟨_,e,rfl,rfl⟩,g1.at fun o=>k _ o⟩) (fun I h' e k=>⟨⟨_,e,rfl,rfl⟩,g2.at fun o=>k _ o⟩) free n hk nd small q
 ·exact dict_zip0 (begins_list l1 us) (begins_tuple l2 vs) g1 g2 a1 a2 (fun I h=>draw_list h) (fun I h=>draw_tup h) (fun I h' e k=>⟨⟨_,e,rfl,rfl⟩,g1.at fun o=>k _ o⟩) (fun I h' e k=>⟨⟨_,e,rfl,rfl⟩,g2.at fun o=>k _ o⟩) free n hk nd small q
 ·exact dict_zip0 (begins_tuple l1 us) (begins_list l2 vs) g1 g2 a1 a2 (fun I h=>draw_tup h) (fun I h=>draw_list h) (fun I h' e k=>⟨⟨_,e,rfl,rfl⟩,g1.at fun o=>k _ o⟩) (fun I h' e k=>⟨⟨_,e,rfl,rfl⟩,g2.at fun o=>k _ o⟩) free n hk nd small q
 ·exact dict_zip0 (begins_tuple l1 us) (begins_tuple l2 vs) g1 g2 a1 a2 (fun I h=>draw_tup h) (fun I h=>draw_tup h) (fun I h' e k=>⟨⟨_,e,rfl,rfl⟩,g1.at fun o=>k _ o⟩) (fun I h' e k=>⟨⟨_,e,rfl,rfl⟩,g2.at fun o=>k _ o⟩) free n hk nd small q
end
end DL
namespace DL
open PySem PySem.Spec PyProof.Rows L2 RZ
theorem kv_zip:∀(ks:List Key) {ys:List V} {us:List Value},Vals ys us→KV (ks.zip ys) (ks.zip us)
 | [],_,_,_=>by rw [List.zip_nil_left,List.zip_nil_left];exact .nil
 | k :: ks,_,_, .nil=>by rw [List.zip_nil_right,List.zip_nil_right];exact .nil
 | k :: ks,_,_, .cons r t=>by
  rw [List.zip_cons_cons,List.zip_cons_cons]
  exact .cons ⟨rfl,r⟩ (kv_zip ks t)
def dzipK (Q:KN) (es:List D) (M:Mem):Prop:=match es with
 | [d,e]=>optK (seqOf M d) fun xs=>optK (seqOf M e) fun ys=>optK (keysD xs) fun ks=>ks.Nodup∧xs.length=ys.length∧xs.length≤sizeLine∧Q (.dct ks ys) M
 | _=>False
def wDzip (wa:WA):WE:=fun ds M Q Xc=>wa ds M (dzipK Q) Xc
section
variable {X : Cx} {W : WX} {a b : Expr} {wa : WA} {p p2 q pos : Pos}
theorem j_dzip (hc:X.calm=true) (hm:X.mg "dict"=none) (hm2:X.mg "zip"=none) (ha:JA X W [a,b] wa) (hg:Gl X "dict":=by rfl) (hg2:Gl X "zip":=by rfl)
  (hs:starEach [a,b] X.env=(false,eval a X.env) :: starEach [b] X.env:=by rfl) (hpl:(backTo q (starEach [b] X.env)).any (·.1)=false:=by rfl):
  JE X W (.Call (.Name "dict" p) [.Call (.Name "zip" p2) [a,b] [] q] [] pos) (wDzip wa):=by
 refine ⟨fun pins s σ H Q I h=>?_⟩
 refine Call_ (ld_blt I hg hm boot_dict ?_)
 refine PyProof.Rows.callWith_type1 (PyProof.Rows.args_cons ?_ rfl) rfl rfl
 refine Call_ (ld_blt I hg2 hm2 PyProof.Rows.boot_zip ?_)
 have hh:=bindA (R:=fun vs H1=>∃(l1 l2:Addr) (ks xs:List Key) (ys:List V),vs= [V.ref l1,V.ref l2]∧(SqL X.K H1 l1 (ks.map kV)∨SqT X.K H1 l1 (ks.map kV))∧(SqL X.K H1 l2 ys∨SqT X.K H1 l2 ys)∧ks.Nodup∧ks.length=ys.length∧ks.length≤sizeLine∧xs=ks∧∀d,H1 d=none→Q (.ref d) (upd H1 d (.dK (ks.zip ys)))) (wa:=wa) (f:=fun es _ M Q _=>dzipK Q es M) h fun vs es H1 h=>by
  obtain ⟨ds,M,F,Qd,Xd,hs,hv,hw,l1,l2⟩:=h
  rw [List.append_nil,List.append_nil] at hv
  unfold dzipK at hw
  split at hw
  ·rename_i d e
   obtain ⟨x,y,e1,g1,g2⟩:=dv2 hv
   subst e1
   obtain ⟨xs,q1,hw⟩:=optK_of hw
   obtain ⟨ys,q2,hw⟩:=optK_of hw
   obtain ⟨ks,q3,nd,n,small,q⟩:=optK_of hw
   obtain ⟨a1,zs,e2,s1,r1⟩:=seqOf_ok hs.1 q1 g1
   obtain ⟨a2,ws,e3,s2,r2⟩:=seqOf_ok hs.1 q2 g2
   have e4:=keysD_ok q3 r1
   subst e2
   subst e3
   subst e4
   have kl:ks.length=xs.length:=by
    have z:=r1.len
    rwa [List.length_map] at z
   have wl:=r2.len
   refine ⟨a1,a2,ks,ks,ws,rfl,s1,s2,nd,by omega,by omega,rfl,fun d hd=>?_⟩
   have ex:=new_ext hs.1.rel (o:=HO.dK (ks.zip ws)) hd
   refine l1 (.ref d) _ (.dct ks ys) M ex (hs.1.new hd) ⟨d,ks.zip ws,rfl, .inl upd_same,hs.1.rel.free hd,List.map_fst_zip (by omega),?_⟩ q
   rw [List.map_snd_zip (by omega)]
   exact DVs.ext hs.1.rel ex _ _ r2
  ·exact hw.elim
 refine PyProof.Rows.callWith_type1 (thn (ha.run q pins s σ H _ I hh) fun us s1 ⟨vs,H1,I1,r1,q1⟩=>?_) hs hpl
 obtain ⟨l1,l2,ks,xs,ys,e1,g1,g2,nd,n,small,e2,fin⟩:=q1
 subst e1
 obtain ⟨u1,u2,e3,t1,t2⟩:=vals2 r1
 subst e3
 cases t1
 cases t2
 have sq:∀(l:Addr) (zs:List V),(SqL X.K H1 l zs∨SqT X.K H1 l zs)→∃its:List Value,Vals zs its∧Sq s1.heap l its.toArray:=fun l zs h=>by
  rcases h with h | h
  ·obtain ⟨its,r,at_,_⟩:=I1.list h
   exact ⟨its,r, .inl at_.isList⟩
  ·obtain ⟨its,r,at_,_⟩:=I1.tuple h
   exact ⟨its,r, .inr at_⟩
 obtain ⟨i1,r1,s1'⟩:=sq l1 _ g1
 obtain ⟨i2,r2,s2'⟩:=sq l2 _ g2
 have n1:=r1.length
 have n2:=r2.length
 rw [List.length_map] at n1
 refine wpAny_mono (dict_zip (E:=X.xe) (Q:=fun v s2=>EP X pins σ Q v s2) s1' s2' (I1.ok.hd hc) (by simp;omega) (by simpa using r1) nd (by simp;omega) fun h' tk d le dd keep=>?_) (fun z s2 hz=>PyProof.Rows.args_nil hz) fun _ _ h=>h
 have big:(d == sysModules)=false:=beq_eq_false_iff_ne.mpr (Nat.ne_of_gt (Nat.lt_of_lt_of_le I1.big le))
 exact ⟨.ref d,upd H1 d (.dK (ks.zip ys)),I1.laid (t':=tk) keep le (show ObjOk X.prog X.w _ _ _ (.dK (ks.zip ys)) from ⟨by rw [List.length_zip];omega,big,ks.zip i2,kv_zip ks r2,by simpa using dd⟩),rfl,fin d (I1.hok.fresh le)⟩
end
def dzipKO (Q:KN) (es:List D) (M:Mem):Prop:=match es with
 | [d,e]=>optK (seqOf M d) fun xs=>optK (seqOf M e) fun ys=>optK (keysD xs) fun ks=>ks.Nodup∧xs.length=ys.length∧xs.length≤sizeLine∧∀a,M a=none→Q (.ref a) (mput M a (.dct ks ys))
 | _=>False
def wDzipO (wa:WA):WE:=fun ds M Q Xc=>wa ds M (dzipKO Q) Xc
section
variable {X : Cx} {W : WX} {a b : Expr} {wa : WA} {p p2 q pos : Pos}
theorem j_dzipO (hc:X.calm=true) (hm:X.mg "dict"=none) (hm2:X.mg "zip"=none) (ha:JA X W [a,b] wa) (hg:Gl X "dict":=by rfl) (hg2:Gl X "zip":=by rfl)
  (hs:starEach [a,b] X.env=(false,eval a X.env) :: starEach [b] X.env:=by rfl) (hpl:(backTo q (starEach [b] X.env)).any (·.1)=false:=by rfl):
  JE X W (.Call (.Name "dict" p) [.Call (.Name "zip" p2) [a,b] [] q] [] pos) (wDzipO wa):=by
 refine ⟨fun pins s σ H Q I h=>?_⟩
 refine Call_ (ld_blt I hg hm boot_dict ?_)
 refine PyProof.Rows.callWith_type1 (PyProof.Rows.args_cons ?_ rfl) rfl rfl
 refine Call_ (ld_blt I hg2 hm2 PyProof.Rows.boot_zip ?_)
 have hh:=bindA (R:=fun vs H1=>∃(l1 l2:Addr) (ks xs:List Key) (ys:List V),vs= [V.ref l1,V.ref l2]∧(SqL X.K H1 l1 (ks.map kV)∨SqT X.K H1 l1 (ks.map kV))∧(SqL X.K H1 l2 ys∨SqT X.K H1 l2 ys)∧ks.Nodup∧ks.length=ys.length∧ks.length≤sizeLine∧xs=ks∧∀d,H1 d=none→Q (.ref d) (upd H1 d (.dK (ks.zip ys)))) (wa:=wa) (f:=fun es _ M Q _=>dzipKO Q es M) h fun vs es H1 h=>by
  obtain ⟨ds,M,F,Qd,Xd,hs,hv,hw,l1,l2⟩:=h
  rw [List.append_nil,List.append_nil] at hv
  unfold dzipKO at hw
  split at hw
  ·rename_i d e
   obtain ⟨x,y,e1,g1,g2⟩:=dv2 hv
   subst e1
   obtain ⟨xs,q1,hw⟩:=optK_of hw
   obtain ⟨ys,q2,hw⟩:=optK_of hw
   obtain ⟨ks,q3,nd,n,small,q⟩:=optK_of hw
   obtain ⟨a1,zs,e2,s1,r1⟩:=seqOf_ok hs.1 q1 g1
   obtain ⟨a2,ws,e3,s2,r2⟩:=seqOf_ok hs.1 q2 g2
   have e4:=keysD_ok q3 r1
   subst e2
   subst e3
   subst e4
   have kl:ks.length=xs.length:=by
    have z:=r1.len
    rwa [List.length_map] at z
   have wl:=r2.len
   refine ⟨a1,a2,ks,ks,ws,rfl,s1,s2,nd,by omega,by omega,rfl,fun d hd=>?_⟩
   have ex:=hs.1.xown (o:=HO.dK (ks.zip ws)) (u:= .dct ks ys) hd
   refine l1 (.ref d) _ (.ref d) _ ex (hs.1.own hd ⟨ks.zip ws,upd_same,List.map_fst_zip (by omega),?_⟩) rfl (q d (hs.1.mfree hd))
   rw [List.map_snd_zip (by omega)]
   exact DVs.ext hs.1.rel ex _ _ r2
  ·exact hw.elim
 refine PyProof.Rows.callWith_type1 (thn (ha.run q pins s σ H _ I hh) fun us s1 ⟨vs,H1,I1,r1,q1⟩=>?_) hs hpl
 obtain ⟨l1,l2,ks,xs,ys,e1,g1,g2,nd,n,small,e2,fin⟩:=q1
 subst e1
 obtain ⟨u1,u2,e3,t1,t2⟩:=vals2 r1
 subst e3
 cases t1
 cases t2
 have sq:∀(l:Addr) (zs:List V),(SqL X.K H1 l zs∨SqT X.K H1 l zs)→∃its:List Value,Vals zs its∧Sq s1.heap l its.toArray:=fun l zs h=>by
  rcases h with h | h
  ·obtain ⟨its,r,at_,_⟩:=I1.list h
   exact ⟨its,r, .inl at_.isList⟩
  ·obtain ⟨its,r,at_,_⟩:=I1.tuple h
   exact ⟨its,r, .inr at_⟩
 obtain ⟨i1,r1,s1'⟩:=sq l1 _ g1
 obtain ⟨i2,r2,s2'⟩:=sq l2 _ g2
 have n1:=r1.length
 have n2:=r2.length
 rw [List.length_map] at n1
 refine wpAny_mono (dict_zip (E:=X.xe) (Q:=fun v s2=>EP X pins σ Q v s2) s1' s2' (I1.ok.hd hc) (by simp;omega) (by simpa using r1) nd (by simp;omega) fun h' tk d le dd keep=>?_) (fun z s2 hz=>PyProof.Rows.args_nil hz) fun _ _ h=>h
 have big:(d == sysModules)=false:=beq_eq_false_iff_ne.mpr (Nat.ne_of_gt (Nat.lt_of_lt_of_le I1.big le))
 exact ⟨.ref d,upd H1 d (.dK (ks.zip ys)),I1.laid (t':=tk) keep le (show ObjOk X.prog X.w _ _ _ (.dK (ks.zip ys)) from ⟨by rw [List.length_zip];omega,big,ks.zip i2,kv_zip ks r2,by simpa using dd⟩),rfl,fin d (I1.hok.fresh le)⟩
end
end DL
namespace DL
open PySem PySem.Spec PyProof.Rows L2 RZ
def rRepTD:RD2:=fun d e M Q=>match d,e with
 | .tup xs, .int k=>xs≠ []∧1≤k∧k≤1000∧xs.length≤1000∧Q (.tup (List.replicate k.toNat xs).flatten) M
 | _,_=>False
section
variable {X : Cx}
end
end DL
namespace DL
open PySem PySem.Spec PyProof.Rows L2 RZ
theorem pChain {r r':RD2} {wa wb wc:WE} {ds:SD} {M:Mem} {Q:KN} {X:KX}:(wChain r r' wa wb wc ds M Q X)=(wa ds M (fun x M1=>wb ds M1 (fun y M2=>r x y M2 fun z M3=>isBl z fun k=>if k=true then wc ds M3 (fun w M4=>r' y w M4 fun z2 M5=>isBl z2 fun k2=>Q (.bl k2) M5) X else Q (.bl false) M3) X) X):=propext Iff.rfl
theorem pCallK {sp:SpD} {n m:Nat} {ord:List Nat} {wa wk:WA} {ds:SD} {M:Mem} {Q:KN} {X:KX}:(wCallK sp n m ord wa wk ds M Q X)=(wa ds M (fun xs M1=>wk ds M1 (fun ys M2=>sp (gOrd n m ord xs ys) M2 Q X) X) X):=propext Iff.rfl
theorem pDzip {wa:WA} {ds:SD} {M:Mem} {Q:KN} {X:KX}:(wDzip wa ds M Q X)=(wa ds M (dzipK Q) X):=propext Iff.rfl
theorem pDzipK {d e:D} {M:Mem} {Q:KN}:(dzipK Q [d,e] M)=(optK (seqOf M d) fun xs=>optK (seqOf M e) fun ys=>optK (keysD xs) fun ks=>ks.Nodup∧xs.length=ys.length∧xs.length≤sizeLine∧Q (.dct ks ys) M):=propext Iff.rfl
theorem pDzipO {wa:WA} {ds:SD} {M:Mem} {Q:KN} {X:KX}:(wDzipO wa ds M Q X)=(wa ds M (dzipKO Q) X):=propext Iff.rfl
theorem pDzipKO {d e:D} {M:Mem} {Q:KN}:(dzipKO Q [d,e] M)=(optK (seqOf M d) fun xs=>optK (seqOf M e) fun ys=>optK (keysD xs) fun ks=>ks.Nodup∧xs.length=ys.length∧xs.length≤sizeLine∧∀a,M a=none→Q (.ref a) (mput M a (.dct ks ys))):=propext Iff.rfl
theorem rIsB_bl {neg a b:Bool} {M:Mem} {Q:KN}:(rIsBD neg (.bl a) (.bl b) M Q)=(Q (.bl (xor neg (decide (a=b)))) M):=propext Iff.rfl
theorem rDix_str {ks:List Key} {xs:List D} {x:Str} {M:Mem} {Q:KN}:(rDixD (.dct ks xs) (.str x) M Q)=(optK (valD ks xs (.inr x)) fun v=>Q v M):=propext Iff.rfl
theorem rDix_int {ks:List Key} {xs:List D} {x:Int} {M:Mem} {Q:KN}:(rDixD (.dct ks xs) (.int x) M Q)=(optK (valD ks xs (.inl x)) fun v=>Q v M):=propext Iff.rfl
theorem rIn_tup {neg:Bool} {d:D} {xs:List D} {M:Mem} {Q:KN}:(rInD neg d (.tup xs) M Q)=(flatD d=true∧xs.all flatD=true∧Q (.bl (xor neg (inD d xs))) M):=propext Iff.rfl
theorem rIn_lst {neg:Bool} {d:D} {xs:List D} {M:Mem} {Q:KN}:(rInD neg d (.lst xs) M Q)=(flatD d=true∧xs.all flatD=true∧Q (.bl (xor neg (inD d xs))) M):=propext Iff.rfl
theorem rEq_ns {neg:Bool} {y:Str} {M:Mem} {Q:KN}:(rEqD neg .non (.str y) M Q)=(Dat .non 60∧Dat (.str y) 60∧Q (.bl (xor neg (deq .non (.str y)))) M):=propext Iff.rfl
theorem rEq_sn {neg:Bool} {y:Str} {M:Mem} {Q:KN}:(rEqD neg (.str y) .non M Q)=(Dat (.str y) 60∧Dat .non 60∧Q (.bl (xor neg (deq (.str y) .non))) M):=propext Iff.rfl
theorem rRepT_p {xs:List D} {k:Int} {M:Mem} {Q:KN}:(rRepTD (.tup xs) (.int k) M Q)=(xs≠ []∧1≤k∧k≤1000∧xs.length≤1000∧Q (.tup (List.replicate k.toNat xs).flatten) M):=propext Iff.rfl
theorem rAll_f {xs:List D} {M:Mem} {Q:KN}:(rAllD false [.lst xs] M Q)=(optK (bools xs) fun bs=>Q (.bl (bs.all id)) M):=propext Iff.rfl
theorem rAll_t {xs:List D} {M:Mem} {Q:KN}:(rAllD true [.lst xs] M Q)=(optK (bools xs) fun bs=>Q (.bl (bs.any id)) M):=propext Iff.rfl
theorem at_0 {x:D} {xs:List D}:atI (x :: xs) (0:Int)=some x:=(atI_nat (k:=0)).trans rfl
theorem at_1 {x y:D} {xs:List D}:atI (x :: y :: xs) (1:Int)=some y:=(atI_nat (k:=1)).trans rfl
theorem at_2 {x y z:D} {xs:List D}:atI (x :: y :: z :: xs) (2:Int)=some z:=(atI_nat (k:=2)).trans rfl
theorem at_3 {x y z w:D} {xs:List D}:atI (x :: y :: z :: w :: xs) (3:Int)=some w:=(atI_nat (k:=3)).trans rfl
theorem dl_0_0:decide (((0:Nat):Int)=0)=true:=by decide
theorem dl_0_1:decide (((0:Nat):Int)=1)=false:=by decide
theorem dl_0_2:decide (((0:Nat):Int)=2)=false:=by decide
theorem dl_0_3:decide (((0:Nat):Int)=3)=false:=by decide
theorem dl_0_4:decide (((0:Nat):Int)=4)=false:=by decide
theorem dl_0_5:decide (((0:Nat):Int)=5)=false:=by decide
theorem dl_1_0:decide (((0 + 1:Nat):Int)=0)=false:=by decide
theorem dl_1_1:decide (((0 + 1:Nat):Int)=1)=true:=by decide
theorem dl_1_2:decide (((0 + 1:Nat):Int)=2)=false:=by decide
theorem dl_1_3:decide (((0 + 1:Nat):Int)=3)=false:=by decide
theorem dl_1_4:decide (((0 + 1:Nat):Int)=4)=false:=by decide
theorem dl_1_5:decide (((0 + 1:Nat):Int)=5)=false:=by decide
theorem dl_2_0:decide (((0 + 1 + 1:Nat):Int)=0)=false:=by decide
theorem dl_2_1:decide (((0 + 1 + 1:Nat):Int)=1)=false:=by decide
theorem dl_2_2:decide (((0 + 1 + 1:Nat):Int)=2)=true:=by decide
theorem dl_2_3:decide (((0 + 1 + 1:Nat):Int)=3)=false:=by decide
theorem dl_2_4:decide (((0 + 1 + 1:Nat):Int)=4)=false:=by decide
theorem dl_2_5:decide (((0 + 1 + 1:Nat):Int)=5)=false:=by decide
theorem dl_3_0:decide (((0 + 1 + 1 + 1:Nat):Int)=0)=false:=by decide
theorem dl_3_1:decide (((0 + 1 + 1 + 1:Nat):Int)=1)=false:=by decide
theorem dl_3_2:decide (((0 + 1 + 1 + 1:Nat):Int)=2)=false:=by decide
theorem dl_3_3:decide (((0 + 1 + 1 + 1:Nat):Int)=3)=true:=by decide
theorem dl_3_4:decide (((0 + 1 + 1 + 1:Nat):Int)=4)=false:=by decide
theorem dl_3_5:decide (((0 + 1 + 1 + 1:Nat):Int)=5)=false:=by decide
theorem dl_4_0:decide (((0 + 1 + 1 + 1 + 1:Nat):Int)=0)=false:=by decide
theorem dl_4_1:decide (((0 + 1 + 1 + 1 + 1:Nat):Int)=1)=false:=by decide
theorem dl_4_2:decide (((0 + 1 + 1 + 1 + 1:Nat):Int)=2)=false:=by decide
theorem dl_4_3:decide (((0 + 1 + 1 + 1 + 1:Nat):Int)=3)=false:=by decide
theorem dl_4_4:decide (((0 + 1 + 1 + 1 + 1:Nat):Int)=4)=true:=by decide
theorem dl_4_5:decide (((0 + 1 + 1 + 1 + 1:Nat):Int)=5)=false:=by decide
theorem dn_1_0 {n:Nat}:decide (((n + 1:Nat):Int)=0)=false:=decide_eq_false (by omega)
theorem dn_2_0 {n:Nat}:decide (((n + 1 + 1:Nat):Int)=0)=false:=decide_eq_false (by omega)
theorem dn_2_1 {n:Nat}:decide (((n + 1 + 1:Nat):Int)=1)=false:=decide_eq_false (by omega)
theorem dn_3_0 {n:Nat}:decide (((n + 1 + 1 + 1:Nat):Int)=0)=false:=decide_eq_false (by omega)
theorem dn_3_1 {n:Nat}:decide (((n + 1 + 1 + 1:Nat):Int)=1)=false:=decide_eq_false (by omega)
theorem dn_3_2 {n:Nat}:decide (((n + 1 + 1 + 1:Nat):Int)=2)=false:=decide_eq_false (by omega)
theorem dn_4_0 {n:Nat}:decide (((n + 1 + 1 + 1 + 1:Nat):Int)=0)=false:=decide_eq_false (by omega)
theorem dn_4_1 {n:Nat}:decide (((n + 1 + 1 + 1 + 1:Nat):Int)=1)=false:=decide_eq_false (by omega)
theorem dn_4_2 {n:Nat}:decide (((n + 1 + 1 + 1 + 1:Nat):Int)=2)=false:=decide_eq_false (by omega)
theorem dn_4_3 {n:Nat}:decide (((n + 1 + 1 + 1 + 1:Nat):Int)=3)=false:=decide_eq_false (by omega)
end DL
namespace DL
open PySem PySem.Spec PyProof.Rows L2 RZ
theorem rngD_at {lo:Int} {n k:Nat} (h:k < n):(rngD lo n)[k]?=some (.int (lo + (k:Nat))):=by
 unfold rngD
 rw [List.getElem?_map,List.getElem?_range h]
 rfl
theorem forR_at {g:GD} {wb:WS} {E:ED} (xs:List D) (I:Nat→SD→Mem→Prop) (hn:∀ds M,I xs.length ds M→E.nx ds M)
  (hs:∀k d,xs[k]?=some d→∀ds M (R:SD→Mem→Prop),(∀ds' M',I (k + 1) ds' M'→R ds' M')→I k ds M→g d ds fun ds2=>wb {E with nx:=R,ct:=R,bk:=E.nx} ds2 M)
  {ds:SD} {M:Mem} (h:I 0 ds M):forR g wb E xs ds M:=by
 refine forR_ind (fun items ds M=>∃k,k + items.length=xs.length∧items=xs.drop k∧I k ds M) ?_ ?_ xs ds M ⟨0,by omega,rfl,h⟩
 ·rintro ds M ⟨k,h1,h2,h3⟩
  rw [List.length_nil,Nat.add_zero] at h1
  subst h1
  exact hn _ _ h3
 ·rintro d items ds M R hR ⟨k,h1,h2,h3⟩
  rw [List.length_cons] at h1
  have e:xs[k]?=some d:=by
   have:=congrArg (fun l=>l[0]?) h2
   rw [List.getElem?_drop] at this
   simpa using this.symm
  refine hs k d e ds M R (fun ds' M' q=>hR _ _ ⟨k + 1,by omega,?_,q⟩) h3
  have:=congrArg List.tail h2
  rw [List.tail_cons,List.tail_drop] at this
  exact this
theorem forR_rng {g:GD} {wb:WS} {E:ED} {lo:Int} {n:Nat} (I:Nat→SD→Mem→Prop) (hn:∀ds M,I n ds M→E.nx ds M)
  (hs:∀k,k < n→∀ds M (R:SD→Mem→Prop),(∀ds' M',I (k + 1) ds' M'→R ds' M')→I k ds M→g (.int (lo + (k:Nat))) ds fun ds2=>wb {E with nx:=R,ct:=R,bk:=E.nx} ds2 M)
  {ds:SD} {M:Mem} (h:I 0 ds M):forR g wb E (rngD lo n) ds M:=
 forR_at _ I (by rw [rngD_len];exact hn) (fun k d e ds M R hR hI=>by
  have hk:k < n:=by
   have:=(List.getElem?_eq_some_iff.mp e).1
   rwa [rngD_len] at this
  rw [rngD_at hk] at e
  cases e
  exact hs k hk ds M R hR hI) h
theorem cut_from {α:Type} {xs:List α} {k:Nat} (h:k≤xs.length):cutL xs (some (k:Int)) none=xs.drop k:=by
 unfold cutL
 rw [HT.sIx_none,HT.sIx_nat,Nat.min_eq_left h,List.take_of_length_le]
 rw [List.length_drop]
 exact Nat.le_refl _
theorem cut_1 {x:D} {xs:List D}:cutL (x :: xs) (some 1) none=xs:=cut_from (k:=1) (xs:=x :: xs) (by simp)
theorem cut_2 {x y:D} {xs:List D}:cutL (x :: y :: xs) (some 2) none=xs:=cut_from (k:=2) (xs:=x :: y :: xs) (by simp)
def wIfT (c t u:WT):WT:=fun ds M Q Xc=>c ds M (fun b M1=>if b=true then t ds M1 Q Xc else u ds M1 Q Xc) Xc
theorem pIfT {c t u:WT} {ds:SD} {M:Mem} {Q:Bool→Mem→Prop} {X:KX}:(wIfT c t u ds M Q X)=(c ds M (fun b M1=>if b=true then t ds M1 Q X else u ds M1 Q X) X):=propext Iff.rfl
end DL
namespace DL
open PySem PySem.Spec PyProof.Rows L2 RZ
theorem FnOk.mkD {P:Program} {w:World} {K:PySem.W.Frag} {mg:Str→Option Value} {base:Heap} {k:Nat} {x qual:Str} {st:Stmt} {f:Addr} {fd:FuncData} {N ps:List Str} {sp:SpD} {wb:WS}
  (F:Fun K x qual st f fd) (S:FnScope N ps (defScope st))
  (body:∀(cdv:Value) (A:Around) (outer:List Env) (s:Shared) (H:Hp) (E:XK),Room k (A.deeper (envOfC qual (defScope st) s.heap.objs.size f cdv))→
   Takes (cxOf (L2.CX P w) P w K mg base N qual (defScope st) f cdv A outer s H E) (WD E)→
   JSs (cxOf (L2.CX P w) P w K mg base N qual (defScope st) f cdv A outer s H E) (WD E) (defBody st) wb)
  (h:∀ds M Q Xc,sp ds M Q Xc→ds.length=ps.length∧wb {nx:=fun _ M=>Fin Q .non M,rt:=Fin Q,ex:=fun x _ M=>Xc x M} (startD N ds) M):FnOk P w K mg base (L2.CX P w) (k + 1) f fd ps (liftSp K sp):=by
 refine F.okX S (fun vs H Q E hh=>?_) (fun cdv A outer s H vs Q E hr hh=>?_)
 ·obtain ⟨ds,M,Fr,Qd,Xd,q1,q2,q3,_⟩:=hh
  rw [q2.len]
  exact (h _ _ _ _ q3).1
 ·obtain ⟨ds,M,Fr,Qd,Xd,q1,q2,q3,l1,l2⟩:=hh
  refine ⟨_,body cdv A outer s H E hr (takes_of rfl rfl rfl rfl),?_⟩
  have fin:∀(v:V) (H':Hp) (d:D) (M':Mem),Ext H (uni M Fr) H' (uni M' Fr)→Rm K H' M' Fr→DV K H' (uni M' Fr) d v→Fin Qd d M'→Q v H':=fun v H' d M' e r dv ⟨d2,M2,fz,q⟩=>
   l1 v H' d2 M2 (e.down (sub_none fz.sub)) (r.sub fz.sub) (fz.dv K H' Fr v r dv) q
  exact ⟨startD N ds,M,Fr,_,⟨q1,Sl.start q2⟩,rfl,(h _ _ _ _ q3).2,⟨fun σ' H' ds' M' e r q=>fin .non H' .non M' e r.1 rfl q,fin,fun _ _ _ _ _ _ z=>z.elim,fun _ _ _ _ _ _ z=>z.elim,fun cls dc σ' H' x ds' M' e r dv q=>l2 cls dc H' x M' e r.1 dv q⟩⟩
theorem FnJK.mkAt {P:Program} {w:World} {K:PySem.W.Frag} {mg:Str→Option Value} {base:Heap} {k:Nat} {x qual:Str} {st:Stmt} {f:Addr} {N ps ks:List Str} {n m:Nat} {ord:List Nat} {sp:SpD} {wb:WS}
  (F:DefAt K x qual st ps f) (S:FnScope N ps (defScope st)) (hp:0 < ps.length)
  (hb:∀(kV doc pm:Value) (an:Option Addr) (cdv ct:Value) (us ws:List Value),us.length=n→ws.length=m→
   bindArgs (PySem.W.fnOf x qual (defArgs st) (defBody st) (defScope st) .none kV doc pm an cdv ct) ⟨us,ks.zip ws⟩=pure (ps.zip (gOrd n m ord us ws)))
  (body:∀(cdv:Value) (A:Around) (outer:List Env) (s:Shared) (H:Hp) (E:XK),Room k (A.deeper (envOfC qual (defScope st) s.heap.objs.size f cdv))→
   Takes (cxOf (L2.CX P w) P w K mg base N qual (defScope st) f cdv A outer s H E) (WD E)→
   JSs (cxOf (L2.CX P w) P w K mg base N qual (defScope st) f cdv A outer s H E) (WD E) (defBody st) wb)
  (h:∀ds M Q Xc,sp ds M Q Xc→ds.length=ps.length∧wb {nx:=fun _ M=>Fin Q .non M,rt:=Fin Q,ex:=fun x _ M=>Xc x M} (startD N ds) M):FnJK P w K mg base (k + 1) f sp ks n m ord:=by
 obtain ⟨fd,h1,h2⟩:=F.ex
 refine ⟨⟨fd,ps,FnOk.mkD h1 S body h,?_⟩,h1.kp⟩
 obtain ⟨oc,od,kV,doc,pm,an,cdv,ct,osl,rfl,lk,hcd⟩:=h1.ex
 exact kb_mk hp fun us ws e1 e2 s=> .of_eq (hb kV doc pm an cdv ct us ws e1 e2)
end DL
namespace DL
open PySem PySem.Spec PyProof.Rows L2 RZ
open AutoSeq1 (wpAny_loadPart')
section
variable {prog : Program} {w : World} {A : Around} {E : Value → Shared → Prop} {s : Shared}
end
section
variable {K : PySem.W.Frag} {H0 : Hp} {N0 : Mem}
end
end DL
namespace DL
open PySem PySem.Spec PyProof.Rows L2 RZ
def enumKA (Q:List D→Mem→Prop) (es:List D) (M:Mem):Prop:=match es with
 | [.tup xs]=>Q (enumD xs) M
 | [.lst xs]=>Q (enumD xs) M
 | _=>False
def wiEnumA (wa:WA):WI:=fun ds M Q Xc=>wa ds M (enumKA Q) Xc
theorem piEnumA {wa:WA} {ds:SD} {M:Mem} {Q:List D→Mem→Prop} {X:KX}:(wiEnumA wa ds M Q X)=(wa ds M (enumKA Q) X):=propext Iff.rfl
theorem pEnumA_tup {Q:List D→Mem→Prop} {xs:List D} {M:Mem}:(enumKA Q [.tup xs] M)=(Q (enumD xs) M):=propext Iff.rfl
theorem pEnumA_lst {Q:List D→Mem→Prop} {xs:List D} {M:Mem}:(enumKA Q [.lst xs] M)=(Q (enumD xs) M):=propext Iff.rfl
def rInVD (neg:Bool):RD2:=fun d e M Q=>match e with
 | .tup xs=>Dat d 60∧Dat (.tup xs) 60∧Q (.bl (xor neg (xs.any fun y=>deq y d))) M
 | .lst xs=>Dat d 60∧Dat (.lst xs) 60∧Q (.bl (xor neg (xs.any fun y=>deq y d))) M
 | _=>False
theorem rInV_tup {neg:Bool} {d:D} {xs:List D} {M:Mem} {Q:KN}:(rInVD neg d (.tup xs) M Q)=(Dat d 60∧Dat (.tup xs) 60∧Q (.bl (xor neg (xs.any fun y=>deq y d))) M):=propext Iff.rfl
theorem rInV_lst {neg:Bool} {d:D} {xs:List D} {M:Mem} {Q:KN}:(rInVD neg d (.lst xs) M Q)=(Dat d 60∧Dat (.lst xs) 60∧Q (.bl (xor neg (xs.any fun y=>deq y d))) M):=propext Iff.rfl
section
variable {X : Cx}
end
end DL
namespace DL
open PySem PySem.Spec PyProof.Rows L2 RZ
def rSlN (d:D) (lo hi:Option Int) (M:Mem) (Q:KN):Prop:=match d with
 | .tup xs=>¬(HT.sIx xs.length 0 lo=0∧HT.sIx xs.length xs.length hi=xs.length)∧Q (.tpn (cutL xs lo hi)) M
 | _=>False
theorem rSlN_p {xs:List D} {lo hi:Option Int} {M:Mem} {Q:KN}:(rSlN (.tup xs) lo hi M Q)=(¬(HT.sIx xs.length 0 lo=0∧HT.sIx xs.length xs.length hi=xs.length)∧Q (.tpn (cutL xs lo hi)) M):=propext Iff.rfl
def wSlN (we:WE) (wl wh:WO):WE:=fun ds M Q Xc=>we ds M (fun d M1=>wl ds M1 (fun l M2=>wh ds M2 (fun h M3=>rSlN d l h M3 Q) Xc) Xc) Xc
theorem pSlN {we:WE} {wl wh:WO} {ds:SD} {M:Mem} {Q:KN} {X:KX}:(wSlN we wl wh ds M Q X)=(we ds M (fun d M1=>wl ds M1 (fun l M2=>wh ds M2 (fun h M3=>rSlN d l h M3 Q) X) X) X):=propext Iff.rfl
def tnK (d:D) (M:Mem) (Q:KN):Prop:=match d with
 | .tpn xs=>Q (.tup xs) M
 | _=>False
def wTn (w:WE):WE:=fun ds M Q Xc=>w ds M (fun d M1=>tnK d M1 Q) Xc
theorem pTn {w:WE} {ds:SD} {M:Mem} {Q:KN} {X:KX}:(wTn w ds M Q X)=(w ds M (fun d M1=>tnK d M1 Q) X):=propext Iff.rfl
theorem pTnK {xs:List D} {M:Mem} {Q:KN}:(tnK (.tpn xs) M Q)=(Q (.tup xs) M):=propext Iff.rfl
section
variable {X : Cx} {W : WX}
def wTM (r:D→List D→Mem→KN→Prop) (we:WE) (wa:WA):WE:=fun ds M Q Xc=>we ds M (fun d M1=>tnK d M1 (fun _ M1=>wa ds M1 (fun xs M2=>r d xs M2 Q) Xc)) Xc
theorem pTM {r:D→List D→Mem→KN→Prop} {we:WE} {wa:WA} {ds:SD} {M:Mem} {Q:KN} {X:KX}:(wTM r we wa ds M Q X)=(we ds M (fun d M1=>tnK d M1 (fun _ M1=>wa ds M1 (fun xs M2=>r d xs M2 Q) X)) X):=propext Iff.rfl
def rTidx (d:D) (ds:List D) (M:Mem) (Q:KN):Prop:=match d,ds with
 | .tpn xs, [.str z]=>optK (strsD xs) fun ys=>optK (ys.findIdx? fun y=>decide (y=z)) fun j=>Q (.int (j:Nat)) M
 | _,_=>False
theorem rTidx_p {xs:List D} {z:Str} {M:Mem} {Q:KN}:(rTidx (.tpn xs) [.str z] M Q)=(optK (strsD xs) fun ys=>optK (ys.findIdx? fun y=>decide (y=z)) fun j=>Q (.int (j:Nat)) M):=propext Iff.rfl
def rLidx (d:D) (ds:List D) (M:Mem) (Q:KN):Prop:=match d,ds with
 | .lst xs, [y]=>flatD y=true∧xs.all flatD=true∧optK (xs.findIdx? fun z=>deq z y) fun j=>Q (.int (j:Nat)) M
 | _,_=>False
theorem rLidx_p {xs:List D} {y:D} {M:Mem} {Q:KN}:(rLidx (.lst xs) [y] M Q)=(flatD y=true∧xs.all flatD=true∧optK (xs.findIdx? fun z=>deq z y) fun j=>Q (.int (j:Nat)) M):=propext Iff.rfl
end
end DL
namespace DL
open PySem PySem.Spec PyProof.Rows L2 RZ
def lexGt:List Int→List Int→Bool
 | [],_=>false
 | _ :: _, []=>true
 | a :: as,b :: bs=>if a=b then lexGt as bs else decide (b < a)
def intsD:List D→Option (List Int)
 | []=>some []
 | .int i :: ds=>(intsD ds).map (i :: ·)
 | _=>none
theorem DVs.intsD {K:PySem.W.Frag} {H:Hp} {M:Mem}:∀{ds:List D} {ns:List Int} {xs:List V},DL.intsD ds=some ns→DVs K H M ds xs→xs=ns.map V.int
 | [],ns,xs,h,g=>by
  cases h
  exact g
 | d :: ds,ns,xs,h,g=>by
  obtain ⟨y,zs,e,g1,g2⟩:=g
  subst e
  cases d <;> first | cases h | skip
  rename_i b
  cases (show y= .int b from g1)
  have h':(DL.intsD ds).map (b :: ·)=some ns:=h
  cases q:DL.intsD ds with
  | none=>rw [q] at h';cases h'
  | some cs=>
   rw [q] at h'
   cases h'
   rw [DVs.intsD q g2]
   rfl
def rGtL:RD2:=fun d e M Q=>match d,e with
 | .lst xs, .lst ys=>optK (intsD xs) fun ns=>optK (intsD ys) fun ms=>Q (.bl (lexGt ns ms)) M
 | _,_=>False
theorem rGtL_p {xs ys:List D} {M:Mem} {Q:KN}:(rGtL (.lst xs) (.lst ys) M Q)=(optK (intsD xs) fun ns=>optK (intsD ys) fun ms=>Q (.bl (lexGt ns ms)) M):=propext Iff.rfl
section
variable {X : Cx} {W : WX}
def wStar (we:WE) (wr:WA):WA:=fun ds M Q Xc=>we ds M (fun d M1=>optK (seqOf M1 d) fun xs=>wr ds M1 (fun ys M2=>Q (xs ++ ys) M2) Xc) Xc
theorem pStar {we:WE} {wr:WA} {ds:SD} {M:Mem} {Q:List D→Mem→Prop} {X:KX}:(wStar we wr ds M Q X)=(we ds M (fun d M1=>optK (seqOf M1 d) fun xs=>wr ds M1 (fun ys M2=>Q (xs ++ ys) M2) X) X):=propext Iff.rfl
end
end DL
set_option maxHeartbeats 2000000
namespace DL
open PySem PySem.Spec PyProof.Rows L2 RZ
structure ExC (P:Program) (K:PySem.W.Frag) (qual:Str) (ist:Stmt) (C fI:Addr):Prop where
 oex:OexC K C
 init:PySem.W.findIn K (.ref C) "__init__"=some (some (.ref fI))
 tyI:PySem.W.typeIn K (.ref fI)=some (.type "function")
 sup:PySem.W.ks_superIn K C C "__init__"=some (some (.builtin "ValueError.__init__"))
 sub:PySem.W.subIn K (.ref C) (.type "ValueError")=some true
 mro:PySem.W.mroIn K C (.ref C)=some true
 op:PySem.W.nsIn K PySem.cStatics "thirdparty.any"=some none
 xf:XfC K C
 fn:∃(cc cda:Addr) (oc:Value) (od:Option Addr) (kV doc pm ct:Value) (an:Option Addr) (osl:Array (Option Value)) (ccl:Value) (cdd:Option Addr) (vs:Array Value) (ccs:Array (Option Value)) (file:Str) (tf:Tok) (cl:Value) (cld:Option Addr) (csl:Array (Option Value)),
  K.lookup fI=some ⟨oc,od, .func (PySem.W.fnX "__init__" qual (defArgs ist) (defBody ist) (defScope ist) [("__class__",cc)] .none kV doc pm an (.ref cda) ct),osl⟩∧PySem.W.codeIn K (.ref cda) qual=true∧
  K.lookup cda=some ⟨ccl,cdd, .fields vs,ccs⟩∧vs[2]?=some (.str file tf)∧((P.main.file:Str) == file)=true∧K.lookup cc=some ⟨cl,cld, .cell (some (.ref C)),csl⟩
 top:(P.main.scope.names.lookup ("super":Str)).isSome=false
section
variable {P : Program} {w : World} {A : Around} {E : Value → Shared → Prop} {h : Heap} {g : Array GenState} {d : Drawn} {t : Nat} {os : OsState} {nm q : Str} {C N : Addr} {bs bm : List Value} {hdct : Bool} {sn : List Str} {sub : List Value} {ab : Bool} {col : Option Bool} {dd : Option Addr} {k0 k1 k2 k3 k5 : Option Value}
theorem call_mw {u e t0:Addr} {rest:List Value} {Q:Value→Shared→Prop}
  (hC:h.get? C=some (excClassObj nm q C N bs bm hdct sn sub ab col dd k0 k1 k2 k3 k5 "ValueError.__new__")) (he:h.get? e=some ({cls:= .ref C,dict:=none,data:= .fields #[.ref t0, .none, .none, .none, .bool false, .none]}:Obj)) (hu:h.get? u=some (PySem.W.kxs_mw "ValueError.__init__" e)) (hrest:rest.length≤sizeLine)
  (hq:∀h' t1,(∀b o,b≠e→h.get? b=some o→h'.get? b=some o)→h'.get? e=some ({cls:= .ref C,dict:=none,data:= .fields #[.ref t1, .none, .none, .none, .bool false, .none]}:Obj)→Q .none ⟨h',g,d,t,os⟩):
  wpAny (model P w) A (call (.ref u) rest) Q E ⟨h,g,d,t,os⟩:=by
 have B:=F.excBase_ValueError
 have isM:(Value.type "method-wrapper" == Value.type "method" || Value.type "method-wrapper" == Value.type "builtin_function_or_method" || Value.type "method-wrapper" == Value.type "method-wrapper")=true:=by decide
 refine wpAny_call (codeAny_of_tree ?_)
 show wpAny _ A.in1 (callAny (.ref u) ⟨rest, []⟩) _ _ _
 unfold callAny
 refine wpAny_bind (wpAny_load hu ?_)
 dsimp only [PySem.W.kxs_mw]
 rw [isM]
 refine PySem.W.KFB.if_so (by decide) ?_
 refine wpAny_bind (PySem.W.check_bound_init B.toExcCallFacts hC he rfl ?_)
 refine wpAny_bind (wpAny_pure (wpAny_pure ⟨plainId_quiet B.init.plain _,codeAny_builtin B.initEntry ?_⟩))
 exact PySem.W.exc_init_tree he hrest fun h' k e1 _=>hq h' _ k e1
end
def exNF (qual:Str) (ist:Stmt) (cc cda:Addr):NdefX.NF:=⟨"__init__",qual,defArgs ist,defBody ist,defScope ist, [("__class__",cc)],cda⟩
theorem cells_cls {K:PySem.W.Frag} {C cc:Addr} {cl:Value} {cld:Option Addr} {csl:Array (Option Value)} {h:Heap} {H:Hp} (hc:K.lookup cc=some ⟨cl,cld, .cell (some (.ref C)),csl⟩) (X:K.In h) (hn:H cc=none):NdefX.CellsAt [("__class__",cc)] ["__class__"] [some (V.ref C)] h H:=by
 have one:∀y c,([("__class__",cc)]:List (Str×Addr)).lookup y=some c→y="__class__"∧c=cc:=fun y c e=>by
  rw [List.lookup_cons] at e
  by_cases z:y="__class__"
  ·subst z
   simp at e
   exact ⟨rfl,e.symm⟩
  ·have z':(y == ("__class__":Str))=false:=by simpa using z
   rw [z'] at e
   simp at e
 have isc:h.IsCell cc (some (.ref C)):=⟨_,X _ _ hc,rfl⟩
 refine ⟨rfl,fun y c e=>?_,fun x y c e1 e2=>?_,fun i y e=>?_⟩
 ·obtain ⟨_,rfl⟩:=one y c e
  exact ⟨hn,_,isc⟩
 ·rw [(one x c e1).1,(one y c e2).1]
 ·cases i with
  | zero=>
   cases e
   refine ⟨cc,by simp [List.lookup],fun v e=>?_⟩
   cases e
   exact ⟨.ref C,rfl,isc⟩
  | succ i=>simp at e
section
variable {CX : CXT} {P : Program} {w : World} {K : PySem.W.Frag} {mg : Str → Option Value} {base : Heap} {k : Nat} {qual : Str} {ist : Stmt} {C fI : Addr} {N ps : List Str} {sp : Sp}
theorem exc_fn (X:ExC P K qual ist C fI) (S:NdefX.NScope N (("self":Str) :: ps) ["__class__"] (defScope ist)) (ms:mg "super"=none) (hks:(defScope ist).names.lookup ("super":Str)=some .globalImplicit)
  {msg:Str} {j:Nat} {p0 p1 p2 p3 p4 p5:Pos} {rest:List Stmt} (hb:defBody ist= .Expr (.Call (.Attribute (.Call (.Name "super" p0) [] [] p1) "__init__" p2) [.Constant (.str msg) j p3] [] p4) p5 :: rest)
  (hE:∀cc cda L:Addr,(∃pl:Sem Bool,eval (.Call (.Attribute (.Call (.Name "super" p0) [] [] p1) "__init__" p2) [.Constant (.str msg) j p3] [] p4) (NdefX.envF (exNF qual ist cc cda) fI L)=(do
   let ov ← attributeBase (.Call (.Name "super" p0) [] [] p1) "__init__" (NdefX.envF (exNF qual ist cc cda) fI L) (eval (.Call (.Name "super" p0) [] [] p1) (NdefX.envF (exNF qual ist cc cda) fI L))
   standAt p2.atName
   let (f,first) ← holding [ov] (getMethod ov "__init__" pl)
   callWith p4 f first (backTo p4 (starEach [.Constant (.str msg) j p3] (NdefX.envF (exNF qual ist cc cda) fI L))) []))∧interactive (NdefX.envF (exNF qual ist cc cda) fI L)=false∧
   swapsWith (.Call (.Attribute (.Call (.Name "super" p0) [] [] p1) "__init__" p2) [.Constant (.str msg) j p3] [] p4) none p5.line (NdefX.envF (exNF qual ist cc cda) fI L)=pure false)
  {ar:Arg} (har:((defArgs ist).posonlyargs ++ (defArgs ist).args).head?=some ar) (hself:ar.arg="self")
  (bind:∀(cc cda:Addr) (kV doc pm ct:Value) (an:Option Addr) (us:List Value),us.length=ps.length + 1→bindArgs (PySem.W.fnX "__init__" qual (defArgs ist) (defBody ist) (defScope ist) [("__class__",cc)] .none kV doc pm an (.ref cda) ct) ⟨us, []⟩=pure ((("self":Str) :: ps).zip us))
  (len:∀vs H Q E,sp vs H Q E→vs.length=ps.length + 1)
  (hbody:∀(cc cda:Addr) (A:Around) (outer:List Env) (s:Shared) (H:Hp) (vs:List V) (Q:VK) (E:XK),sp vs H Q E→
   ∃(a:Addr) (r:List V),vs= .ref a :: r∧H a=some (exo a C none)∧∃t,PSs (NdefX.ncx CX P w K mg base N (exNF qual ist cc cda) fI A outer s H E) rest t∧t {nx:=fun _ H'=>Q .non H',rt:=Q} (NdefX.startF N vs [some (.ref C)]) H):
  ∃fd,FnOk P w K mg base CX (k + 1) fI fd (("self":Str) :: ps) sp∧Binds K fd (("self":Str) :: ps) []:=by
 obtain ⟨cc,cda,oc,od,kV,doc,pm,ct,an,osl,ccl,cdd,vs0,ccs,file,tf,cl,cld,csl,lk,hcd,lc,hvs,hfile,lcell⟩:=X.fn
 refine ⟨_,⟨fun vs H Q E q=>len vs H Q E q,fun A outer s H args us vs Q E hr e0 hbd r hsp=>?_⟩, .all fun us hl=>bind cc cda kV doc pm ct an us hl⟩
 have hl:=len _ _ _ _ hsp
 have KX:K.In s.heap:=e0.mod.kin.keeps fun b o e=>(e0.bs b o e).1
 have lim:s.heap.NoLimit:=e0.mod.nolimit.keeps fun b o e=>(e0.bs b o e).1
 have hn:H cc=none:=(e0.bs cc _ (e0.mod.kin _ _ lcell)).2
 obtain ⟨a,rr,ev,ha,t,ht,hq⟩:=hbody cc cda A outer s H vs Q E hsp
 refine ks_codeAny_call_defAt (binds:=(("self":Str) :: ps).zip us) hr.depth (KX _ _ lk) rfl lim (PySem.W.codeRec_of KX hcd) rfl hbd S.nocell (fun ⟨n,_⟩ hy=>S.par n (List.of_mem_zip hy).1) (fun h₀ hns kp=>?_) S.co S.gen S.kind
 have I:Inv (NdefX.ncx CX P w K mg base N (exNF qual ist cc cda) fI A outer s H E) [] (NdefX.startF N vs [some (.ref C)]) H {s with heap:=h₀,toks:=s.toks + ((("self":Str) :: ps).zip us).length}:=NdefX.inv_startN S hr.hd e0 hl r (cells_cls lcell KX hn) hns kp
 have fin:∀{σ':L2.St} {H':Hp} {v:V} {u:Value} {s'},Inv (NdefX.ncx CX P w K mg base N (exNF qual ist cc cda) fI A outer s H E) [] σ' H' s'→L2.RelV v u→Q v H'→CE outer P w H s Q u s':=
  fun {σ' H' v u s'} J rv q=>⟨v,H',J.os,J.bare,J.base,J.hok,rv,q⟩
 have hps:us= .ref a :: us.drop 1:=by
  subst ev
  cases r with
  | cons r1 r2=>rw [show _=Value.ref a from r1];rfl
 have hnd:((("self":Str) :: ps)).Nodup:=by
  have q:=S.nd.sublist (List.take_sublist ((("self":Str) :: ps).length + 1) N)
  have p:=S.pre
  rw [show (["__class__"]:List Str).length=1 from rfl] at p
  rw [p] at q
  exact (List.nodup_append.mp q).1
 have hv:((("self":Str) :: ps).zip us).reverse.lookup ("self":Str)=some (.ref a):=NdefX.zip_look (i:=0) hnd rfl (by rw [hps];rfl)
 obtain ⟨nm,q,N',bs,bm,sn,sub,ab,col,dd,k0,k1,k2,k3,k5,hC,hbm⟩:=X.oex.cls
 have hcl:PySem.W.clsIn K C=some {name:=nm,bases:=bs,mro:= .ref C :: bm,ns:=N',qualname:=q,hasDict:=true,slotNames:=sn,subclasses:=sub,abstract:=ab,collection:=col,hasDel:=false}:=by unfold PySem.W.clsIn;rw [hC] <;> rfl
 have hal:=X.sup
 unfold PySem.W.ks_superIn at hal
 rw [hcl,Option.bind_some] at hal
 obtain ⟨t0,ho⟩:=exo_at I.hok ha
 have X0:K.In h₀:=I.kIn
 have IA:PySem.W.InstAt h₀ a ({cls:= .ref C,dict:=none,data:= .fields #[.ref t0, .none, .none, .none, .bool false, .none]}:Obj) C none:=⟨ho,rfl,rfl,trivial⟩
 have hne:a≠C:=PySem.W.ks_ne X0 IA hcl
 obtain ⟨mb,b1,b2⟩:=e0.mod.blt
 have bK:∀b o,base.get? b=some o→h₀.get? b=some o:=fun b o e=>kp b o (e0.bs b o e).1
 obtain ⟨hp,g,d,tk,os⟩:=s
 show _root_.PySem.wpAt _ _ _ (execs (defBody ist) (NdefX.envF (exNF qual ist cc cda) fI hp.objs.size)) _ _ _
 rw [hb]
 obtain ⟨⟨pl,hE1⟩,hE2,hE3⟩:=hE cc cda hp.objs.size
 refine ks_wpAt_execs_cons (ks_wpAt_Expr_any (hi:=hE2) (hs:=hE3) (ks_wpAt_MethodCall (pl:=pl) (he:=hE1) (ks_wpAt_super_base (env:=NdefX.envF (exNF qual ist cc cda) fI hp.objs.size) hks (S.frk _ List.mem_cons_self) (by decide) rfl (kp _ _ (KX _ _ lk)) rfl har rfl (kp _ _ (KX _ _ lc)) rfl hvs hfile X.top ?_)))
 refine PySem.W.ks_loadName_global S.kind hks (Calls.loadGlobal_builtin (e0.mod.glob.keeps bK) ms (b1.keeps bK) (v:= .type "super") ((b2 ("super":Str) (by decide)).trans (by rfl)) ⟨rfl,?_⟩)
 refine wpAny_loadName_free S.kind (S.frk _ List.mem_cons_self) (by rfl) ⟨_,kp _ _ (KX _ _ lcell),rfl⟩ ?_
 rw [hself]
 refine wpAny_loadName_local S.kind (S.par _ List.mem_cons_self) hns hv ?_
 refine ks_wpAny_isType_cls (X0 _ _ hC) rfl ⟨rfl,?_⟩
 refine ks_wpAny_call_super (X0 _ _ hC) rfl ho rfl (fun c e=>by cases e) (PySem.W.looks_mroIn X0 X.mro) (fun h1 e1 kk1=>?_)
 have X1:K.In h1:=X0.keeps kk1
 have IA1:PySem.W.InstAt h1 a ({cls:= .ref C,dict:=none,data:= .fields #[.ref t0, .none, .none, .none, .bool false, .none]}:Obj) C none:=⟨kk1 _ _ ho,rfl,rfl,trivial⟩
 refine PySem.W.kxs_getMethod PySem.W.kxs_ValueError e1 (PySem.W.looks_opaque X1 X.op) (fun A Q E s k q=>wpAny_bind ((PySem.W.looks_clsIn X1 hcl) A _ E s k (wpAny_pure q))) rfl X1 hal (IA1.type.andThen (PySem.W.looks_subIn X1 X.sub)) hne (by decide) ?_
 have hmw:(h1.push (PySem.W.kxs_mw "ValueError.__init__" a)).get? h1.objs.size=some (PySem.W.kxs_mw "ValueError.__init__" a):=Heap.get?_push_at rfl rfl
 have kk2:∀b o,h₀.get? b=some o→(h1.push (PySem.W.kxs_mw "ValueError.__init__" a)).get? b=some o:=fun b o e=>Heap.get?_push_of_some _ (kk1 b o e)
 refine PySem.W.kxs_callWith (i:="ValueError.__init__") (x:=a) rfl (Calls.evalArgs_plain (Calls.spliced_cons (Calls.Constant_str (k:=j) (pos:=p3) (Calls.spliced_nil ⟨hmw,?_⟩))))
 refine call_mw (kk2 _ _ (X0 _ _ hC)) (kk2 _ _ ho) hmw (by rw [sizeLine_eq];simp) (fun h2 t2 kk3 e3=>?_)
 have eu:upd H a (exo a C none)=H:=by
  funext b
  by_cases z:b=a
  ·rw [z,upd_same,ha]
  ·rw [upd_ne z]
 have J:∀t':Nat,Inv (NdefX.ncx CX P w K mg base N (exNF qual ist cc cda) fI A outer ⟨hp,g,d,tk,os⟩ H E) [] (NdefX.startF N vs [some (.ref C)]) H ⟨h2,g,d,t',os⟩:=fun t'=>by
  have J:=I.write (t':=t') (x:=a) (e:=a) (o:=exo a C none) (h':=h2) (by rw [ha];exact True.intro) (.inl rfl) (fun b o hb e=>kk3 b o hb (kk2 b o e)) ⟨_,e3⟩ (exo_ok e3)
  rw [eu] at J
  exact J
 refine wpAt_of_wpAny (wpAny_mono (ht.run [] _ _ H _ (J _) hq) (fun fl s' hs=>?_) fun e s' hs=>hs)
 cases fl with
 | ret u=>
  obtain ⟨v,σ',H',J,rv,q⟩:=hs
  exact fin J rv q
 | next=>
  obtain ⟨σ',H',J,q⟩:=hs
  exact fin (v:=V.non) (u:=Value.none) J rfl q
 | brk=>
  obtain ⟨_,_,_,q⟩:=hs
  exact False.elim q
 | cont=>
  obtain ⟨_,_,_,q⟩:=hs
  exact False.elim q
end
end DL
set_option maxHeartbeats 2000000
namespace DL
open PySem PySem.Spec PyProof.Rows L2 RZ
def spEx (C:Addr) (fs:List Str) (tag:Str):Sp:=fun vs H Q _=>∃(a:Addr) (ys:List V),vs= .ref a :: ys∧ys.length=fs.length∧H a=some (exo a C none)∧
 ∀(d:Addr) (H':Hp),H d=none→d≠a→H' a=some (exo a C (some d))→H' d=some (exd d ((("tag":Str),V.str tag) :: (fs.zip ys).reverse))→(∀b,b≠a→b≠d→H' b=H b)→Q .non H'
structure XJ (P:Program) (w:World) (K:PySem.W.Frag) (mg:Str→Option Value) (base:Heap) (C fI:Addr) (fs:List Str) (tag:Str):Prop where
 ex:∃fd ps,FnOk P w K mg base CX0 1 fI fd ps (spEx C fs tag)∧Binds K fd ps []
 oex:OexC K C
 init:PySem.W.findIn K (.ref C) "__init__"=some (some (.ref fI))
 tyI:PySem.W.typeIn K (.ref fI)=some (.type "function")
section
variable {P : Program} {w : World} {K : PySem.W.Frag} {mg : Str → Option Value} {base : Heap} {k : Nat} {qual : Str} {ist : Stmt} {C fI : Addr} {f x tag : Str}
abbrev SupE (qual:Str) (ist:Stmt) (fI:Addr) (msg:Str) (j:Nat) (p0 p1 p2 p3 p4 p5:Pos):Prop:=∀cc cda L:Addr,(∃pl:Sem Bool,eval (.Call (.Attribute (.Call (.Name "super" p0) [] [] p1) "__init__" p2) [.Constant (.str msg) j p3] [] p4) (NdefX.envF (exNF qual ist cc cda) fI L)=(do
   let ov ← attributeBase (.Call (.Name "super" p0) [] [] p1) "__init__" (NdefX.envF (exNF qual ist cc cda) fI L) (eval (.Call (.Name "super" p0) [] [] p1) (NdefX.envF (exNF qual ist cc cda) fI L))
   standAt p2.atName
   let (f,first) ← holding [ov] (getMethod ov "__init__" pl)
   callWith p4 f first (backTo p4 (starEach [.Constant (.str msg) j p3] (NdefX.envF (exNF qual ist cc cda) fI L))) []))∧interactive (NdefX.envF (exNF qual ist cc cda) fI L)=false∧
   swapsWith (.Call (.Attribute (.Call (.Name "super" p0) [] [] p1) "__init__" p2) [.Constant (.str msg) j p3] [] p4) none p5.line (NdefX.envF (exNF qual ist cc cda) fI L)=pure false
theorem exc_0 (X:ExC P K qual ist C fI) (nt:PySem.W.findIn K (.ref C) "tag"=some none) (S:NdefX.NScope ["self","__class__"] ["self"] ["__class__"] (defScope ist)) (ms:mg "super"=none) (hks:(defScope ist).names.lookup ("super":Str)=some .globalImplicit)
  {msg:Str} {j j2:Nat} {p0 p1 p2 p3 p4 p5 q5 q6 q7 q8:Pos} (hb:defBody ist= [.Expr (.Call (.Attribute (.Call (.Name "super" p0) [] [] p1) "__init__" p2) [.Constant (.str msg) j p3] [] p4) p5,
   .Assign [.Attribute (.Name "self" q5) "tag" q6] (.Constant (.str tag) j2 q7) q8])
  (hE:SupE qual ist fI msg j p0 p1 p2 p3 p4 p5) {ar:Arg} (har:((defArgs ist).posonlyargs ++ (defArgs ist).args).head?=some ar) (hself:ar.arg="self")
  (bind:∀(cc cda:Addr) (kV doc pm ct:Value) (an:Option Addr) (us:List Value),us.length=1→bindArgs (PySem.W.fnX "__init__" qual (defArgs ist) (defBody ist) (defScope ist) [("__class__",cc)] .none kV doc pm an (.ref cda) ct) ⟨us, []⟩=pure ((["self"]:List Str).zip us)):XJ P w K mg base C fI [] tag:=by
 refine ⟨?_,X.oex,X.init,X.tyI⟩
 obtain ⟨fd,h1,h2⟩:=exc_fn (CX:=CX0) (w:=w) (mg:=mg) (base:=base) (k:=0) (sp:=spEx C [] tag) X S ms hks hb hE har hself bind (fun vs H Q E h=>by
  obtain ⟨a,ys,rfl,hl,_⟩:=h
  rw [List.length_cons,hl]
  all_goals rfl) (fun cc cda A outer s H vs Q E h=>by
  obtain ⟨a,ys,ev,hl,ha,q⟩:=h
  obtain rfl:ys= []:=List.eq_nil_of_length_eq_zero hl
  refine ⟨a, [],ev,ha,_,pss_one (ps_ost (pe_var (i:=0) rfl (.inl (S.par _ List.mem_cons_self))) pe_str),?_⟩
  subst ev
  refine ⟨.ref a,rfl,a,C,rfl,X.oex,nt, .inl ⟨ha,fun d hd ne=>?_⟩⟩
  refine q d _ hd ne (by rw [upd_same]) (by rw [upd_ne ne,upd_same];rfl) fun b h1 h2=>by rw [upd_ne h1,upd_ne h2])
 exact ⟨fd,_,h1,h2⟩
theorem exc_1 (X:ExC P K qual ist C fI) (nf:PySem.W.findIn K (.ref C) f=some none) (nt:PySem.W.findIn K (.ref C) "tag"=some none) (S:NdefX.NScope ["self",x,"__class__"] ["self",x] ["__class__"] (defScope ist)) (ms:mg "super"=none) (hks:(defScope ist).names.lookup ("super":Str)=some .globalImplicit)
  {msg:Str} {j j2:Nat} {p0 p1 p2 p3 p4 p5 q1 q2 q3 q4 q5 q6 q7 q8:Pos} (hb:defBody ist= [.Expr (.Call (.Attribute (.Call (.Name "super" p0) [] [] p1) "__init__" p2) [.Constant (.str msg) j p3] [] p4) p5,
   .Assign [.Attribute (.Name "self" q1) f q2] (.Name x q3) q4, .Assign [.Attribute (.Name "self" q5) "tag" q6] (.Constant (.str tag) j2 q7) q8])
  (hE:SupE qual ist fI msg j p0 p1 p2 p3 p4 p5) {ar:Arg} (har:((defArgs ist).posonlyargs ++ (defArgs ist).args).head?=some ar) (hself:ar.arg="self")
  (bind:∀(cc cda:Addr) (kV doc pm ct:Value) (an:Option Addr) (us:List Value),us.length=2→bindArgs (PySem.W.fnX "__init__" qual (defArgs ist) (defBody ist) (defScope ist) [("__class__",cc)] .none kV doc pm an (.ref cda) ct) ⟨us, []⟩=pure ((["self",x]:List Str).zip us))
  (hx:(x == ("__debug__":Str))=false) (hx2:(x == ("__classdict__":Str))=false):XJ P w K mg base C fI [f] tag:=by
 refine ⟨?_,X.oex,X.init,X.tyI⟩
 obtain ⟨fd,h1,h2⟩:=exc_fn (CX:=CX0) (w:=w) (mg:=mg) (base:=base) (k:=0) (sp:=spEx C [f] tag) X S ms hks hb hE har hself bind (fun vs H Q E h=>by
  obtain ⟨a,ys,rfl,hl,_⟩:=h
  rw [List.length_cons,hl]
  all_goals rfl) (fun cc cda A outer s H vs Q E h=>by
  obtain ⟨a,ys,ev,hl,ha,q⟩:=h
  obtain ⟨y,rfl⟩:∃y,ys= [y]:=by
   match ys,hl with
   | [y],_=>exact ⟨y,rfl⟩
  refine ⟨a, [y],ev,ha,_,pss_cons (ps_ost (pe_var (i:=0) rfl (.inl (S.par _ List.mem_cons_self))) (pe_var (i:=1) rfl (.inl (S.par _ (List.mem_cons_of_mem _ List.mem_cons_self))) hx hx2)) (pss_one (ps_ost (pe_var (i:=0) rfl (.inl (S.par _ List.mem_cons_self))) pe_str)),?_⟩
  subst ev
  refine ⟨y,rfl, .ref a,rfl,a,C,rfl,X.oex,nf, .inl ⟨ha,fun d hd ne=>?_⟩⟩
  refine ⟨.ref a,rfl,a,C,rfl,X.oex,nt, .inr ⟨d,_,upd_same,by rw [upd_ne ne,upd_same],by simp,?_⟩⟩
  refine q d _ hd ne (by rw [upd_ne ne.symm,upd_same]) (by rw [upd_same];rfl) fun b h1 h2=>by rw [upd_ne h2,upd_ne h1,upd_ne h2])
 exact ⟨fd,_,h1,h2⟩
end
end DL
set_option maxHeartbeats 2000000
namespace DL
open PySem PySem.Spec PyProof.Rows L2 RZ
section
variable {K : PySem.W.Frag} {W : WX} {H H' : Hp} {M M' F : Mem} {σ : L2.St} {ds : SD} {E : ED} {D' : Ends} {es : List D} {vs : List V}
theorem bindSA {wa:WA} {f:List D→WS} {R:List V→Hp→Prop} (h:liftS K W es vs (fun E ds M=>wa ds M (fun d M1=>f d E ds M1) (E.xc ds)) D' σ H)
  (k:∀v d H1,liftS K W (d ++ es) (v ++ vs) (f d) D' σ H1→R v H1):liftA K W wa σ H R:=by
 obtain ⟨ds,M,F,E,hs,hv,hw,l⟩:=h
 exact ⟨ds,M,F,fun d M1=>f d E ds M1,E.xc ds,hs,rfl,hw,fun v H' d M' e r dv q=>k v d H' ⟨ds,M',F,E,hs.ext e r,DVs.app dv (DVs.ext hs.1.rel e es vs hv),q,l.ext e⟩,
  fun cls dc H' x M' e r dv q=>l.ex cls dc σ H' x ds M' e (hs.ext e r) dv q⟩
theorem DVs.rev:∀{ds:List D} {vs:List V},DVs K H M ds vs→DVs K H M ds.reverse vs.reverse
 | [],vs,h=>by
  have e:vs= []:=h
  subst e
  exact rfl
 | d :: ds,vs,h=>by
  obtain ⟨y,ys,e,h1,h2⟩:=h
  subst e
  rw [List.reverse_cons,List.reverse_cons]
  exact DVs.app (DVs.rev h2) (DVs.one h1)
theorem zip_fst:∀{fs:List Str} {ys:List V},ys.length=fs.length→(fs.zip ys).map (·.1)=fs
 | [], [],_=>rfl
 | f :: fs,y :: ys,h=>by
  show f :: (fs.zip ys).map (·.1)=_
  rw [zip_fst (by simpa using h)]
theorem zip_snd:∀{fs:List Str} {ys:List V},ys.length=fs.length→(fs.zip ys).map (·.2)=ys
 | [], [],_=>rfl
 | f :: fs,y :: ys,h=>by
  show y :: (fs.zip ys).map (·.2)=_
  rw [zip_snd (by simpa using h)]
end
def wRaise (C:Addr) (fs:List Str) (tag:Str) (wa:WA):WS:=fun E ds M=>wa ds M (fun xs M1=>xs.length=fs.length∧E.ex (.own C ((("tag":Str)) :: fs.reverse) (.str tag :: xs.reverse)) ds M1) (E.xc ds)
theorem gone_eq {H1 H':Hp} {a d:Addr} {o:HO} (ha:H1 a=none) (h3:∀b,b≠a→b≠d→H' b=upd H1 a (exo a 0 none) b):upd (del H' a) d o=upd H1 d o:=by
 funext b
 by_cases hb:b=d
 ·rw [hb,upd_same,upd_same]
 ·rw [upd_ne hb,upd_ne hb]
  by_cases hz:b=a
  ·rw [hz,del_same,ha]
  ·rw [del_ne hz,h3 b hz hb,upd_ne hz]
section
variable {X : Cx} {W : WX} {x : Str} {p pos rpos : Pos} {e : Expr} {es : List Expr} {wa : WA} {j : Nat} {C fI : Addr} {fs : List Str} {tag : Str}
theorem raise_end {D':Ends} {σ:L2.St} {vs:List V} {xs:List D} {H1:Hp} (h:liftS X.K W xs vs (fun E ds M=>xs.length=fs.length∧E.ex (.own C ((("tag":Str)) :: fs.reverse) (.str tag :: xs.reverse)) ds M) D' σ H1):
  vs.length=fs.length∧∀d,H1 d=none→W (.ref C) (some d) σ (upd H1 d (.xd ((("tag":Str),V.str tag) :: (fs.zip vs).reverse))):=by
 obtain ⟨ds,M,F,E,hs,hv,⟨hl,hw⟩,l⟩:=h
 have hl':vs.length=fs.length:=by rw [hv.len,hl]
 refine ⟨hl',fun d hd=>?_⟩
 have ex:=new_ext hs.1.rel (o:=HO.xd ((("tag":Str),V.str tag) :: (fs.zip vs).reverse)) hd
 refine l.ex _ _ σ _ (.own C ((("tag":Str)) :: fs.reverse) (.str tag :: xs.reverse)) ds M ex (hs.ext ex (hs.1.new hd)) ⟨rfl,d,_,rfl,upd_same,hs.1.rel.free hd,?_,?_⟩ hw
 ·rw [List.map_cons,List.map_reverse,zip_fst hl']
 ·rw [List.map_cons,List.map_reverse,zip_snd hl']
  exact ⟨_,_,rfl,rfl,(DVs.ext hs.1.rel ex _ _ hv).rev⟩
theorem js_raise (hc:X.calm=true) (J:XJ X.prog X.w X.K X.mg X.base C fI fs tag) (hr:Room j X.A) (hj:2≤j) (tk:Takes X W) (hm:X.mg x=some (.ref C)) (hfs:fs.length≤1000) (ha:JA X W (e :: es) wa) (hg:Gl X x:=by rfl)
  (hdb:(x == ("__debug__":Str))=false:=by decide) (he:starEach (e :: es) X.env=(false,eval e X.env) :: starEach es X.env:=by rfl) (hpl:(backTo pos (starEach es X.env)).any (·.1)=false:=by rfl):
  JS X W (.Raise (some (.Call (.Name x p) (e :: es) [] pos)) none rpos) (wRaise C fs tag wa):=by
 obtain ⟨fd,ps,F1,hb⟩:=J.ex
 refine ps_mono (ps_raise hc tk (pmk_oex J.oex J.init J.tyI F1 (hr.mono hj) hb .nil pass0 hg hm ha hdb he hpl)) fun D' σ H h=>?_
 refine bindSA (wa:=wa) (f:=fun xs E ds M=>xs.length=fs.length∧E.ex (.own C ((("tag":Str)) :: fs.reverse) (.str tag :: xs.reverse)) ds M) h fun vs xs H1 h=>?_
 rw [List.append_nil,List.append_nil] at h
 obtain ⟨hl,q⟩:=raise_end h
 refine ⟨by rw [hl];exact hfs,fun a ha=>⟨a,vs,by rw [List.append_nil],hl,upd_same,fun d H' hd ne h1 h2 h3=>?_⟩⟩
 have hd':H1 d=none:=by rw [upd_ne ne] at hd;exact hd
 refine ⟨rfl,d,_,h1,h2,hd',?_⟩
 rw [gone_eq (H1:=H1) ha fun b hb1 hb2=>by rw [h3 b hb1 hb2,upd_ne hb1,upd_ne hb1]]
 exact q d hd'
theorem run_exc {Q:XK} {pins:List (Addr×Obj)} {σ:L2.St} {H:Hp} {s:Shared} {us:List Value} {vs:List V} (J:XJ X.prog X.w X.K X.mg X.base C fI fs tag) (hr:Room 2 X.A) (I:Inv X pins σ H s) (r:Vals vs us) (hl:vs.length=fs.length) (hz:vs.length≤1000)
  (q:∀d,H d=none→Q (.ref C) (some d) (upd H d (.xd ((("tag":Str),V.str tag) :: (fs.zip vs).reverse)))):wpAny (model X.prog X.w) X.A (call (.ref C) us) (MkP X pins σ Q) X.xe s:=by
 obtain ⟨fd,ps,F1,hb⟩:=J.ex
 obtain ⟨nm,qn,N,bs,bm,sn,sub,ab,col,dd,k0,k1,k2,k3,k5,hC,hbm⟩:=J.oex.cls
 have lu:us.length≤sizeLine:=by rw [← r.length,sizeLine_eq];omega
 obtain ⟨n,hn⟩:∃n,n=s.heap.objs.size:=⟨_,rfl⟩
 have free:H (n + 1)=none:=I.hok.fresh (by omega)
 have sp0:spEx C fs tag (.ref (n + 1) :: vs) (upd H (n + 1) (exo (n + 1) C none)) (fun v H2=>v= .non∧∃(d:Addr) (ff:List (Str×V)),H2 (n + 1)=some (exo (n + 1) C (some d))∧H2 d=some (exd d ff)∧H d=none∧Q (.ref C) (some d) (upd (del H2 (n + 1)) d (.xd ff))) E0:=
  ⟨n + 1,vs,rfl,hl,upd_same,fun d H2 hd ne h1 h2 h3=>by
   have hd':H d=none:=by rw [upd_ne ne] at hd;exact hd
   refine ⟨rfl,d,_,h1,h2,hd',?_⟩
   rw [gone_eq (H1:=H) free fun b hb1 hb2=>by rw [h3 b hb1 hb2,upd_ne hb1,upd_ne hb1]]
   exact q d hd'⟩
 obtain ⟨hp,g,dr,tk,os⟩:=s
 subst hn
 have keep:∀b o,hp.get? b=some o→((hp.push (PySem.W.kdv_tup us)).push (PySem.HandSPX.excO C hp.objs.size)).get? b=some o:=fun b o e=>Heap.get?_push_of_some _ (Heap.get?_push_of_some _ e)
 have at1:((hp.push (PySem.W.kdv_tup us)).push (PySem.HandSPX.excO C hp.objs.size)).get? (hp.objs.size + 1)=some (PySem.HandSPX.excO C hp.objs.size):=by heap_get
 have I2:=I.laid (t':=tk) (a:=hp.objs.size + 1) (o:=exo (hp.objs.size + 1) C none) keep (Nat.le_succ _) (exo_ok at1)
 have r2:Vals (V.ref (hp.objs.size + 1) :: vs) (Value.ref (hp.objs.size + 1) :: us):= .cons rfl r
 have hb2:=hb _ (Value.ref (hp.objs.size + 1) :: us) I2.kIn (by rw [List.append_nil,← r2.length];exact F1.len _ _ _ _ sp0)
 rw [List.append_nil] at hb2
 refine wpAny_call (PySem.HandSPX.call_own F.excBase_ValueError (fun Y=>PySem.HandSPX.refsVE_contains Y bm hbm) (I.kIn _ _ hC) (PySem.W.looks_findIn I.kIn J.init) (fun self=>PySem.W.bind_fn I.kIn self J.tyI) lu
  (codeAny_mono (F1.run _ X.stack _ _ ⟨_, []⟩ _ _ _ E0 (hr.make C us []) (I2.env0.make C us []) hb2 r2 sp0) fun res s' hres=>?_))
 cases res with
 | error e=>exact (show False from hres).elim
 | ok fl=>
  cases fl with
  | ret u=>
   obtain ⟨v,H2,o2,b2,un2,ok2,rv,e1,d,ff,ea,ed,hd1,q2⟩:=hres
   subst e1
   exact ⟨rv,mk_end (raises_own J.oex.exC J.oex.tyC) I (Nat.le_succ _) keep un2 ok2 o2 b2 ea ed hd1 q2⟩
  | next=>exact hres.elim
  | brk=>exact hres.elim
  | cont=>exact hres.elim
theorem js_raise0 (hc:X.calm=true) (J:XJ X.prog X.w X.K X.mg X.base C fI [] tag) (hr:Room j X.A) (hj:2≤j) (tk:Takes X W) (hm:X.mg x=some (.ref C)) (hg:Gl X x:=by rfl) (hdb:(x == ("__debug__":Str))=false:=by decide):
  JS X W (.Raise (some (.Call (.Name x p) [] [] pos)) none rpos) (wRaise C [] tag wNil):=by
 refine ps_mono (ps_raise (t:=fun σ H Q=>∀d,H d=none→Q (.ref C) (some d) (upd H d (.xd [(("tag":Str),V.str tag)]))) hc tk fun pins s σ H Q I h=>?_) fun D' σ H h=>?_
 ·refine wpAny_Call_Name_kw (ld_glob I hg hm ?_ hdb)
  exact PySem.W.callWith_K0 I.kIn J.oex.kC (run_exc J (hr.mono hj) I .nil rfl (by decide) h)
 ·obtain ⟨ds,M,F,E,hs,hv,hw,l⟩:=h
  exact (raise_end (vs:= []) (xs:= []) (fs:= []) (tag:=tag) (C:=C) ⟨ds,M,F,E,hs,rfl,hw,l⟩).2
end
end DL
set_option maxHeartbeats 2000000
namespace DL
open PySem PySem.Spec PyProof.Rows L2 RZ
abbrev SpP:=Addr×Obj→List V→Hp→VK→Prop
structure FnP (P:Program) (w:World) (K:PySem.W.Frag) (mg:Str→Option Value) (base:Heap) (k:Nat) (f:Addr) (fd:FuncData) (ps:List Str) (sp:SpP):Prop where
 len:∀p vs H Q,sp p vs H Q→vs.length=ps.length
 run:∀(A:Around) (outer:List Env) (s:Shared) (H:Hp) (args:Args) (us:List Value) (vs:List V) (Q:VK) (p:Addr×Obj),L2H.RoomH k A→L2H.PinOk outer H s p→Env0 P w K mg base A outer s H→BindsTo s fd args (ps.zip us)→Vals vs us→sp p vs H Q→
  codeAny (model P w) A (.call (.ref f) args) (CR CX0 outer P w H s Q E0) s
theorem _root_.L2H.RoomH.units {k:Nat} {A:Around} (r:L2H.RoomH k A):A.units + 64 < cLine:=by have:=r.un;omega
section
variable {P : Program} {w : World} {K : PySem.W.Frag} {mg : Str → Option Value} {base : Heap} {k : Nat} {x qual : Str} {st : Stmt} {f : Addr} {fd : FuncData} {N ps : List Str} {sp : SpP}
theorem fn_pin (Fn:Fun K x qual st f fd) (S:FnScope N ps (defScope st)) (len:∀p vs H Q,sp p vs H Q→vs.length=ps.length)
  (hbody:∀(cdv:Value) (A:Around) (outer:List Env) (s:Shared) (H:Hp) (vs:List V) (Q:VK) (p:Addr×Obj),L2H.RoomH k (A.deeper (envOfC qual (defScope st) s.heap.objs.size f cdv))→sp p vs H Q→
   ∃t,PSs (L2H.cxH CX0 P w K mg base N qual (defScope st) f cdv A outer s H E0 p) (defBody st) t∧t {nx:=fun _ H'=>Q .non H',rt:=Q} (L2.start N vs) H):FnP P w K mg base (k + 1) f fd ps sp:=by
 obtain ⟨oc,od,kV,doc,pm,an,cdv,ct,osl,rfl,lk,hcd⟩:=Fn.ex
 refine ⟨len,fun A outer s H args us vs Q p hr hpin e0 hb r hsp=>?_⟩
 have inb:∀b o,base.get? b=some o→s.heap.get? b=some o:=fun b o e=>(e0.bs b o e).1
 have hk:∀y∈ps.zip us,(defScope st).names.lookup y.1=some .local∨((defScope st).names.lookup y.1=some .cell∧((cellsFrom (s.heap.objs.size + 1) (defScope st).names []).lookup y.1).isSome=true):=fun y hy=>
  (S.par y.1 (List.of_mem_zip (a:=y.1) (b:=y.2) hy).1).imp id fun q=>⟨q,PySem.W.cellsFrom_some _ _ _ (.inl q)⟩
 obtain ⟨t,ht,hq⟩:=hbody cdv A outer s H vs Q p (hr.deeper _) hsp
 refine codeAny_call_function hr.depth ((e0.mod.kin.keeps inb) _ _ lk) rfl S.co S.gen rfl (PySem.W.codeRec_of (e0.mod.kin.keeps inb) hcd) (hb _ _ _ _ (wpAny_newFunctionEnv_cells S.kind hk fun env he s1 y=>?_))
 subst he
 refine ⟨(e0.mod.nolimit.keeps inb).keeps y.toInCall.keep,codeAny_func (wpAny_mono (ht.run [] s1 _ H _ (L2H.inv_startH S hpin e0 (len _ _ _ _ hsp) r y) hq) (fun fl s' hs=>?_) fun e s' hs=>hs)⟩
 cases fl with
 | ret u=>
  obtain ⟨v,σ',H',J,rv,q⟩:=hs
  exact ⟨v,H',J.os,J.bare,J.base,J.hok,rv,q⟩
 | next=>
  obtain ⟨σ',H',J,q⟩:=hs
  exact ⟨.non,H',J.os,J.bare,J.base,J.hok,rfl,q⟩
 | brk=>
  obtain ⟨_,_,_,q⟩:=hs
  exact q.elim
 | cont=>
  obtain ⟨_,_,_,q⟩:=hs
  exact q.elim
end
abbrev SpX:=Addr→List Str→List D→Mem→KN→Prop
structure PinX (p:Addr×Obj) (a dd C:Addr):Prop where
 at_:p.1=a
 cls:p.2.cls= .ref C
 dict:p.2.dict=some dd
 data:∃vs:Array Value,p.2.data= .fields vs
def spP (K:PySem.W.Frag) (sp:SpX):SpP:=fun p vs H Q=>∃(a dd C:Addr) (ns:List Str) (xs:List D) (M F:Mem) (Qd:KN),PinX p a dd C∧Rm K H M F∧DVs K H (uni M F) [.exc a dd C ns xs] vs∧sp C ns xs M Qd∧LkG K F (rE K) H M Qd Q
structure FnXJ (P:Program) (w:World) (K:PySem.W.Frag) (mg:Str→Option Value) (base:Heap) (k:Nat) (f:Addr) (sp:SpX):Prop where
 ex:∃fd ps,FnP P w K mg base k f fd ps (spP K sp)∧Binds K fd ps []
 kp:PySem.W.keepIn K (.ref f)=true
theorem FnXJ.mkAt {P:Program} {w:World} {K:PySem.W.Frag} {mg:Str→Option Value} {base:Heap} {k:Nat} {x qual e:Str} {st:Stmt} {f:Addr} {N:List Str} {sp:SpX} {wb:Addr→Addr→Addr→WS}
  (Fd:DefAt K x qual st [e] f) (S:FnScope N [e] (defScope st))
  (body:∀(cdv:Value) (A:Around) (outer:List Env) (s:Shared) (H:Hp) (p:Addr×Obj) (a dd C:Addr),L2H.RoomH k (A.deeper (envOfC qual (defScope st) s.heap.objs.size f cdv))→PinX p a dd C→JSs (L2H.cxH CX0 P w K mg base N qual (defScope st) f cdv A outer s H E0 p) WF (defBody st) (wb a dd C))
  (h:∀a dd C ns xs M Q,sp C ns xs M Q→wb a dd C {nx:=fun _ M=>Fin Q .non M,rt:=Fin Q,ex:=fun _ _ _=>False} (startD N [.exc a dd C ns xs]) M):FnXJ P w K mg base (k + 1) f sp:=by
 obtain ⟨fd,Fn,hb⟩:=Fd.ex
 refine ⟨⟨fd, [e],fn_pin Fn S (fun p vs H Q q=>?_) (fun cdv A outer s H vs Q p hr q=>?_),hb⟩,Fn.kp⟩
 ·obtain ⟨_,_,_,_,_,_,_,_,_,_,q,_⟩:=q
  exact q.len
 ·obtain ⟨a,dd,C,ns,xs,M,Fr,Qd,px,R,dv,hs,l⟩:=q
  refine ⟨_,body cdv A outer s H p a dd C hr px,?_⟩
  have fin:∀(v:V) (H':Hp) (d:D) (M':Mem),Ext H (uni M Fr) H' (uni M' Fr)→Rm K H' M' Fr→DV K H' (uni M' Fr) d v→Fin Qd d M'→Q v H':=fun v H' d M' e r dv ⟨d2,M2,fz,q⟩=>
   l v H' d2 M2 (e.down (sub_none fz.sub)) (r.sub fz.sub) (fz.dv K H' Fr v r dv) q
  exact ⟨startD N [.exc a dd C ns xs],M,Fr,_,⟨R,Sl.start dv⟩,rfl,h a dd C ns xs M Qd hs,⟨fun σ' H' ds' M' e r q=>fin .non H' .non M' e r.1 rfl q,fin,fun _ _ _ _ _ _ z=>z.elim,fun _ _ _ _ _ _ z=>z.elim,fun _ _ _ _ _ _ _ _ _ _ z=>z.elim⟩⟩
def wXf (K:PySem.W.Frag) (a dd C:Addr) (f:Str) (we:WE):WE:=fun ds M Q Xc=>we ds M (fun d M1=>∃ns xs i v,d= .exc a dd C ns xs∧XfC K C∧PySem.W.findIn K (.ref C) f=some none∧ns.findIdx? (· == f)=some i∧xs[i]?=some v∧Q v M1) Xc
def wCallX (a dd C:Addr) (sp:SpX) (we:WE):WE:=fun ds M Q Xc=>we ds M (fun d M1=>∃ns xs,d= .exc a dd C ns xs∧sp C ns xs M1 Q) Xc
section
variable {X : Cx} {W : WX} {e : Expr} {we : WE} {f x : Str} {pos q : Pos} {p : Addr × Obj} {a dd C : Addr} {j k : Nat} {g : Addr} {sp : SpX}
theorem j_xf (hp:p∈X.pn) (px:PinX p a dd C) (he:JE X W e we) (hb:attributeBase e f X.env (eval e X.env)=eval e X.env:=by rfl):JE X W (.Attribute e f pos) (wXf X.K a dd C f we):=by
 refine ⟨fun pins s σ H Q I h=>?_⟩
 have hh:liftE X.K W we σ H (fun x H1=>x=V.ref a∧XfC X.K C∧PySem.W.findIn X.K (.ref C) f=some none∧∃(fs:List (Str×V)) (v:V),H1 dd=some (.xd fs)∧fs.lookup f=some v∧Q v H1):=
  bindE (wa:=we) (f:=fun d _ M Q _=>∃ns xs i v,d= .exc a dd C ns xs∧XfC X.K C∧PySem.W.findIn X.K (.ref C) f=some none∧ns.findIdx? (· == f)=some i∧xs[i]?=some v∧Q v M) h fun v d H1 h=>by
   obtain ⟨_,M,F,Qd,Xd,hs,hv,⟨ns,xs,i,y,e1,h1,h2,h3,h4,h5⟩,l1,_⟩:=h
   subst e1
   obtain ⟨_,_,e2,dv,_⟩:=hv
   cases e2
   obtain ⟨e3,fs,g1,g2,g3,g4⟩:=dv
   obtain ⟨u,k1,k2⟩:=g4.get h4
   exact ⟨e3,h1,h2,fs,u,g1,by rw [look_at g3 h3];exact k1,l1 u H1 y M Ext.rfl' hs.1 k2 h5⟩
 refine attr_of hb (thn (he.run pins s σ H _ I hh) fun u s1 hq=>?_)
 obtain ⟨x,H1,I1,rx,ex,T,hno,fs,v,ea,l,q⟩:=hq
 subst ex
 obtain rfl:u=Value.ref a:=rx
 obtain ⟨ha,_⟩:=I1.pin p (List.mem_append_left _ hp)
 obtain ⟨vs,hd⟩:=px.data
 obtain ⟨mA,hns,hr⟩:ObjOk X.prog X.w H1 s1.heap dd (.xd fs):=I1.hok dd _ ea
 obtain ⟨od,ho,hl⟩:=lookIn_ns hns
 obtain ⟨u,hu,ru⟩:=RelO.some_of (v:=v) (o:=mA f) (by rw [← l];exact hr f)
 have J:PySem.W.InstAt s1.heap a p.2 C (some od):=⟨by rw [← px.at_];exact ha,px.cls,by unfold PySem.W.notCls;rw [hd] <;> rfl,by rw [px.dict];exact ho⟩
 exact HandSPX.exc_get I1.kIn J T.ga T.gg T.exC (PySem.W.findObj_own T.hdC hno rfl (by rw [hl,hu])) (handed_of ru) ⟨v,H1,I1.tok _,ru,q⟩
theorem j_callX (hp:p∈X.pn) (px:PinX p a dd C) (F:FnXJ X.prog X.w X.K X.mg X.base k g sp) (hr:L2H.RoomH j X.A) (hkj:k≤j) (hm:X.mg x=some (.ref g)) (he:JE X W e we) (hg:Gl X x:=by rfl)
  (hdb:(x == ("__debug__":Str))=false:=by decide) (hst:starEach [e] X.env=(false,eval e X.env) :: starEach [] X.env:=by rfl) (hpl:(backTo pos (starEach [] X.env)).any (·.1)=false:=by rfl):
  JE X W (.Call (.Name x q) [e] [] pos) (wCallX a dd C sp we):=by
 obtain ⟨fd,ps,Fp,hb⟩:=F.ex
 have ha:JA X W [e] (wCons we wNil):=j_cons he j_nil hst
 refine ⟨fun pins s σ H Q I h=>wpAny_Call_Name_kw (ld_glob I hg hm ?_ hdb)⟩
 have hh:liftA X.K W (wCons we wNil) σ H (fun vs H1=>spP X.K sp p vs H1 Q):=by
  obtain ⟨ds,M,F,Qd,Xd,hs,hv,hw,l1,l2⟩:=h
  refine ⟨ds,M,F,fun xs M1=>∃ns ys,xs= [.exc a dd C ns ys]∧sp C ns ys M1 Qd,Xd,hs,hv,?_,fun vs H1 xs M1 e1 r1 dv ⟨ns,ys,e2,q⟩=>?_,l2⟩
  ·have key:(fun (d:D) M1=>∃ns xs,d= .exc a dd C ns xs∧sp C ns xs M1 Qd)=fun d M1=>∃ns ys, [d]= [.exc a dd C ns ys]∧sp C ns ys M1 Qd:=by
    funext d M1
    simp
   show we ds M (fun d M1=>∃ns ys, [d]= [.exc a dd C ns ys]∧sp C ns ys M1 Qd) Xd
   rw [← key]
   exact hw
  ·subst e2
   exact ⟨a,dd,C,ns,ys,M1,F,Qd,px,r1,dv,q,l1.ext e1⟩
 refine PySem.W.callWith_K (h₀:=X.base) I.ok.mod.kin F.kp (thn (ha.run pos pins s σ H _ I hh) fun us s1 ⟨vs,H1,I1,r,q⟩=>⟨I1.kIn,?_⟩) hst hpl
 have hl:us.length=ps.length:=by rw [← r.length];exact Fp.len _ _ _ _ q
 have b:=hb s1 us I1.kIn (by rw [List.append_nil];exact hl)
 rw [List.append_nil] at b
 have P1:=I1.pin p (List.mem_append_left _ hp)
 have hpin:L2H.PinOk X.stack H1 s1 p:=⟨P1.1,P1.2.1,fun hm=>(List.mem_cons.mp (I1.stkSub p.1 hm)).elim P1.2.2.1 P1.2.2.2.1,P1.2.2.2.2⟩
 refine wpAny_call (codeAny_mono (Fp.run X.A X.stack s1 H1 ⟨us, []⟩ us vs Q p ⟨by have:=hr.dp;omega,by have:=hr.un;omega⟩ hpin I1.env0 b r q) fun r s' hq=>?_)
 cases r with
 | error e=>exact (show False from hq).elim
 | ok fl=>
  cases fl with
  | ret u=>exact I1.after hq
  | next=>exact hq.elim
  | brk=>exact hq.elim
  | cont=>exact hq.elim
end
end DL
set_option maxHeartbeats 2000000
namespace DL
open PySem PySem.Spec PyProof.Rows L2 RZ
def w3 (K:PySem.W.Frag) (cs:List Value) (i:Nat) (ts:Addr→Value→Option Addr→TS) (D:Ends):WX:=fun cls d σ H=>
 PySem.W.exmAny K cls cs=some true∧∀a,H a=none→ts a cls d {nx:=fun σ' H'=>D.nx (σ'.set i none) H',rt:=D.rt,bk:=fun σ' H'=>D.bk (σ'.set i none) H',ct:=fun σ' H'=>D.ct (σ'.set i none) H'} (σ.set i (some (.ref a))) H
theorem flying_more {B h h':Heap} {l:List Env} {a:Addr} {Z:Obj→Prop} (f:HandSPX.FlyingZ B l a Z h) (k:∀b o,h.get? b=some o→h'.get? b=some o):HandSPX.FlyingZ B l a Z h':=by
 obtain ⟨f1,f2,f3,oe,vs,T,oT,ts,e1,e2,e3,e4,e5,e6,e7,e8,e9⟩:=f
 exact ⟨fun b o q=>k b o (f1 b o q),f2,f3.of_keeps fun b o q _=>⟨o,k b o q,rfl⟩,oe,vs,T,oT,ts,k _ _ e1,e2,e3,e4,e5,e6,k _ _ e7,e8,e9⟩
section
variable {X : Cx} {x1 x2 x3 n : Str} {c1 c2 c3 : Value} {i kk : Nat} {body suite : List Stmt} {b₀ : Stmt} {p1 p2 p3 tpos pos pos' : Pos} {tb : WX → TS} {ts : Addr → Value → Option Addr → TS}
theorem ld_name {Y:Cx} {pins:List (Addr×Obj)} {σ:L2.St} {H:Hp} {s:Shared} {x:Str} {c:Value} {p:Pos} {Q:Value→Shared→Prop} {E:Value→Shared→Prop} (I:Inv Y pins σ H s) (hc:Names Y x c) (q:Q c s):wpAny (model Y.prog Y.w) Y.A (eval (.Name x p) Y.env) Q E s:=by
 obtain ⟨g,d,h | ⟨h,hv,hn⟩⟩:=hc
 ·exact ld_glob I g h q d
 ·exact ld_blt I g h hv q hn d
theorem ps_try3 (hs:X.stack=X.env :: X.outer) (hf:X.env.frame=some X.env.locals) (hN:X.N.Nodup) (hi:X.N[i]?=some n) (hln:X.env.kindOf n=some .local) (h1:Names X x1 c1) (h2:Names X x2 c2) (h3:Names X x3 c3)
  (hb:∀(W:WX) (pn:List (Addr×Obj)) (xe:Value→Shared→Prop),Takes (X.tr pn xe) W→PassesOwn (model X.prog X.w) X.A X.env xe→PSs (X.tr pn xe) body (tb W))
  (hsu:∀(a:Addr) (oe:Obj) (cls:Value) (d:Option Addr) (pn:List (Addr×Obj)),Zc cls d oe→(∃vs,oe.data= .fields vs)→PSs (X.suite a ((a,oe) :: pn)) (b₀ :: suite) (ts a cls d)):
  PS X (.Try body [.ExceptHandler (some (.Tuple [.Name x1 p1, .Name x2 p2, .Name x3 p3] kk tpos)) (some n) (b₀ :: suite) pos'] [] [] pos) (fun D σ H=>tb (w3 X.K [c1,c2,c3] i ts D) D σ H):=by
 refine ⟨fun pins s σ H D I h=>wpAny_Try_except ?_⟩
 have ok:=I.ok
 have hfr:X.A.frames=some (X.env :: X.outer):=by rw [ok.frames,hs]
 refine wpAny_mono ((hb _ (X.pn ++ pins) _ ?_ PassesOwn.looking).run [] s σ H D (I.toTry _) h) (fun f s1 hsp=>?_) (fun e s1 he=>he)
 ·rintro u s' ⟨a,B,sI,pins',σ',H',cls,d,rfl,J',nb,up,sky,na,os,ag,hx,hgo⟩
  have J:Inv X pins σ' H' sI:=J'.ofTry ok
  refine Sky.land Zc.steady hfr hf (by rw [← hs];exact sky) fun ha fl up3=>?_
  have Ja:Inv X pins σ' H' {s' with heap:=ha}:=J.landed nb fl.1 (up.trans up3) os ag
  obtain ⟨oe,vs,he,hz,hd⟩:=fl.there
  have out:∀{h:Heap} {o:Obj} {ws:Array Value},h.FunFrames B (X.env :: X.outer)→h.get? a=some o→o.data= .fields ws→a≠X.env.locals∧a∉X.fs:=fun {h o ws} ff e dd=>by
   have nf:a∉frs (X.env :: X.outer):=fun hm=>by
    obtain ⟨_,o2,e2,q⟩:=ff.mem hm
    rw [e] at e2
    cases e2
    exact q _ dd
   refine ⟨fun z=>nf (List.mem_filterMap.mpr ⟨X.env,List.mem_cons_self,by rw [hf,z]⟩),fun hm=>nf ?_⟩
   obtain ⟨e3,h3,q⟩:=List.mem_filterMap.mp hm
   exact List.mem_filterMap.mpr ⟨e3,List.mem_cons_of_mem _ h3,q⟩
  obtain ⟨nL,nF⟩:=out fl.2.2.1 he hd
  have S:=Ja.suite he hd na nL nF
  refine wpAny_handleBy_cons (codeAny_handlers_test ?_) (by intro q;cases q)
  have kp:∀b o,ha.get? b=some o→(ha.push {cls:= .type "tuple",data:= .seq [c1,c2,c3].toArray}).get? b=some o:=fun _ _ z=>Heap.get?_push_of_some _ z
  have LT:PySem.W.Looks (model X.prog X.w) (ha.push {cls:= .type "tuple",data:= .seq [c1,c2,c3].toArray}) (typeOf (.ref a)) cls:=fun A Q E s k q=>wpAny_typeOf_ref (k _ _ (kp _ _ he)) (by rw [hz.1];exact q)
  refine wpAny_Tuple ?_
  refine wpAny_items_cons (ld_name (Y:=X.suite a ((a,oe) :: (X.pn ++ pins))) S h1 ?_)
  refine wpAny_items_cons (ld_name (Y:=X.suite a ((a,oe) :: (X.pn ++ pins))) S h2 ?_)
  refine wpAny_items_cons (ld_name (Y:=X.suite a ((a,oe) :: (X.pn ++ pins))) S h3 ?_)
  refine wpAny_items_nil ⟨by size_fits,?_⟩
  refine (PySem.W.exm_tup3 (Ja.kIn.keeps kp) LT (Heap.get?_push_size ha rfl) hx).here ?_
  refine codeAny_handlers_suite_as ?_
  refine HandSPX.lands_againZ (flying_more fl kp) fun hq fl4 up4=>?_
  have J4:Inv X pins σ' H' {s' with heap:=hq}:=J.landed nb fl4.1 (((up.trans up3).trans (Heap.UpToSlots.of_keeps kp)).trans up4) os ag
  obtain ⟨oe4,vs4,he4,hz4,hd4⟩:=fl4.there
  have S4:=J4.suite he4 hd4 na nL nF
  refine store_ok (X:=X.suite a ((a,oe4) :: (X.pn ++ pins))) (v:= .ref a) S4 hN hi (.inl hln) rfl (fun s5 S5=>?_) (.inr hln)
  refine wpAny_mono ((hsu a oe4 cls d (X.pn ++ pins) hz4 ⟨_,hd4⟩).run [] s5 _ H' _ S5 (hgo a na)) (fun f s6 hsp=>?_) (fun _ _ z=>False.elim z)
  cases f with
  | next=>
   obtain ⟨σ6,H6,S6,q6⟩:=hsp
   exact gone_ok (S6.unsuite ok) hN hi hln fun s7 J7=>⟨_,_,J7,q6⟩
  | brk=>
   obtain ⟨σ6,H6,S6,q6⟩:=hsp
   exact gone_ok (S6.unsuite ok) hN hi hln fun s7 J7=>⟨_,_,J7,q6⟩
  | cont=>
   obtain ⟨σ6,H6,S6,q6⟩:=hsp
   exact gone_ok (S6.unsuite ok) hN hi hln fun s7 J7=>⟨_,_,J7,q6⟩
  | ret u=>
   obtain ⟨v6,σ6,H6,S6,r6,q6⟩:=hsp
   exact gone_ok (S6.unsuite ok) hN hi hln fun s7 J7=>⟨_,_,_,J7,r6,q6⟩
 ·cases f with
  | next=>
   obtain ⟨σ',H',J',q⟩:=hsp
   exact wpAny_execs_nil ⟨σ',H',J'.ofTry ok,q⟩
  | brk=>
   obtain ⟨σ',H',J',q⟩:=hsp
   exact ⟨σ',H',J'.ofTry ok,q⟩
  | cont=>
   obtain ⟨σ',H',J',q⟩:=hsp
   exact ⟨σ',H',J'.ofTry ok,q⟩
  | ret u=>
   obtain ⟨v,σ',H',J',r,q⟩:=hsp
   exact ⟨v,σ',H',J'.ofTry ok,r,q⟩
end
end DL
set_option maxHeartbeats 2000000
namespace DL
open PySem PySem.Spec PyProof.Rows L2 RZ
abbrev lamQ (X:Cx):Str:=X.env.qual ++ "<lambda>"
section
variable {X : Cx} {pins : List (Addr × Obj)} {σ : L2.St} {H : Hp} {s : Shared}
theorem lam_mk {c P:Addr} {params:Arguments} {body:Expr} {scope:Scope} {pos:Pos} {E:Value→Shared→Prop} {Q:Value→Shared→Prop} (I:Inv X pins σ H s) (B:LamX.TabB X.base X.mg c P) (hcode:X.env.code= .ref c) (T:LamX.TabS H P (lamQ X))
  (hdef:defaultsOf params X.env=([], [])) (hfree:∀y∈scope.names,y.2= .free→∃c,X.env.cells.lookup y.1=some c)
  (h:∀(f c':Addr) (pm ctv:Value) (H1:Hp) (s':Shared),Inv X pins σ H1 s'→(∀b o,b≠P→H b=some o→H1 b=some o)→LamX.TabS H1 P (lamQ X)→
   s'.heap.get? f=some (PySem.W.kla_obj "<lambda>" (lamQ X) params body scope (cloFrom X.env.cells scope.names []) pm c' ctv)→H1 f=none→f∉frs X.stack→H1 c'=some (LamX.CodeO c' (lamQ X))→Q (.ref f) s'):
  wpAny (model X.prog X.w) X.A (eval (.Lambda params body scope pos) X.env) Q E s:=by
 obtain ⟨ps,hP,ht,ha⟩:=T
 have atP:s.heap.get? P=some ({cls:= .none,data:= .fields ps}:Obj):=I.hok P _ hP
 have code:=B.code.keeps I.bk
 have bm:=B.bm.keeps I.bk
 have clo:=closure_ok (env:=X.env) hfree
 have far:∀{f:Addr},s.heap.objs.size≤f→f∉frs X.stack:=fun {f} hf z=>(List.mem_cons.mp (I.stkSub f z)).elim (fun e=>Nat.lt_irrefl _ (Nat.lt_of_lt_of_le I.lt (e ▸ hf))) (I.nofs hf)
 refine PySem.W.kla_eval hdef ?_
 rcases hc:codeAmong pos ps.toList with _ | cv
 ·
  refine PySem.W.kla_makeFunction (mg:=X.mg) (c:=c) (P:=P) (ps:=ps) clo I.ok.glob (I.mod.glob.keeps I.bk) hcode code atP ht hc B.gP bm fun c' ctv h1 tk ext hge hlt ⟨c2,oc,vs,t,e2,hoc,hd,hv⟩ tab=>?_
  cases e2
  have nC:H c'=none:=I.hok.fresh hge
  have le:s.heap.objs.size≤h1.objs.size:=Nat.le_trans hge (Nat.le_of_lt hlt)
  have new:=LamX.inv_table (t':=tk) (q:=lamQ X) (more:= #[rawInt pos.line,rawInt pos.col, .ref c']) (h':=h1.push (PySem.W.kla_obj "<lambda>" (lamQ X) params body scope (cloFrom X.env.cells scope.names []) ((X.mg "__name__").getD .none) c' ctv)) I hP
   (fun b o hb e=>Heap.get?_push_of_some _ (ext b o hb e)) (Heap.get?_push_of_some _ tab) hge ⟨oc,vs,t,Heap.get?_push_of_some _ hoc,hd,hv⟩
  have stay:∀b o,b≠P→H b=some o→upd (upd H P (.tbl (ps ++ #[rawInt pos.line,rawInt pos.col, .ref c']))) c' (LamX.CodeO c' (lamQ X)) b=some o:=fun b o hb e=>by
   rw [upd_ne (ne_of_none e nC),upd_ne hb]
   exact e
  refine h h1.objs.size c' _ ctv _ _ new stay ⟨_,(upd_ne (ne_of_none hP nC)).trans upd_same,?_,fun p' cv hcv=>?_⟩ (Heap.get?_push_size _ rfl) ?_ (far le) upd_same
  ·rw [Array.toList_append]
   exact PySem.TriplesOk_snoc _ _ _ _ ht
  ·rw [Array.toList_append] at hcv
   rcases LamX.among_app _ ht hcv with z | z
   ·obtain ⟨c0,e1,e3⟩:=ha p' cv z
    have ne:c0≠P:=fun q=>by
     rw [q,hP] at e3
     exact LamX.codeO_ne ps (Option.some.inj e3).symm
    exact ⟨c0,e1,stay _ _ ne e3⟩
   ·exact ⟨c',z,upd_same⟩
  ·have n1:h1.objs.size≠c':=Nat.ne_of_gt hlt
   have n2:h1.objs.size≠P:=Nat.ne_of_gt (Nat.lt_of_lt_of_le (Heap.lt_size atP) le)
   rw [upd_ne n1,upd_ne n2]
   exact I.hok.fresh le
 ·
  obtain ⟨c',e,hco⟩:=ha pos cv hc
  subst e
  refine PySem.W.kla_makeFunctionHit (mg:=X.mg) (c:=c) (P:=P) (ps:=ps) clo I.ok.glob (I.mod.glob.keeps I.bk) hcode code atP ht hc bm fun ctv h1 tk ext le=>?_
  exact h h1.objs.size c' _ ctv H _ (I.kept (t':=tk) fun b o e=>Heap.get?_push_of_some _ (ext b o e)) (fun _ _ _ e=>e) ⟨ps,hP,ht,ha⟩ (Heap.get?_push_size _ rfl) (I.hok.fresh le) (far le) hco
end
def tLam1 (P:Addr) (q:Str) (TT:(XK→Hp→VK→Prop)→Hp→VK→Prop) (t:XK→TE):TE:=fun σ H Q=>LamX.TabS H P q∧∀H1,(∀b o,b≠P→H b=some o→H1 b=some o)→LamX.TabS H1 P q→TT (fun E H' Q'=>t E σ H' Q') H1 Q
section
variable {X : Cx}
theorem pe_lam1 {TT:(XK→Hp→VK→Prop)→Hp→VK→Prop} {x a:Str} {g c P:Addr} {k:Nat} {st:Stmt} {fd:FuncData} {Ng:List Str}
  {params:Arguments} {body:Expr} {scope:Scope} {t:XK→TE} {p lpos pos:Pos} (hg:Gl X x) (hm:X.mg x=some (.ref g)) (Fn:Fun X.K x x st g fd) (hb:L2.Binds X.K fd [a] []) (Sg:FnScope Ng [a] (defScope st)) (hNg:Ng[0]?=some a) (hva:Vis (defScope st) a)
  (hG:∀cdv,LamX.GivesTo X Ng x (defScope st) g cdv (defBody st) a (lamQ X) TT)
  (B:LamX.TabB X.base X.mg c P) (hcode:X.env.code= .ref c) (hr:Room (k + 2) X.A) (L:LamX.LamS X.env.scope scope) (hdef:defaultsOf params X.env=([], []))
  (hbind:∀(q:Str) (cl:List (Str×Addr)) (pm cv ctv:Value),bindArgs (PySem.W.kla_fn "<lambda>" q params body scope cl pm cv ctv) ⟨[], []⟩=pure [])
  (hbody:∀(A:Around) (outer:List Env) (s:Shared) (H:Hp) (E:XK) (f c':Addr),Room k (A.deeper (LamX.lamEnv X scope s.heap.objs.size f c'))→PE (LamX.lamCx X A outer s H E scope f c') body (t E))
  (hdb:(x == ("__debug__":Str))=false:=by decide) (hd:(a == ("__debug__":Str))=false:=by decide) (hcd:(a == ("__classdict__":Str))=false:=by decide):
  PE X (.Call (.Name x p) [.Lambda params body scope lpos] [] pos) (tLam1 P (lamQ X) TT t):=by
 obtain ⟨oc,od,kV,doc,pm,an,cdv,ct,osl,rfl,lk,hcg⟩:=Fn.ex
 refine ⟨fun pins s σ H Q I ⟨hT,h⟩=>wpAny_Call_Name_kw (ld_glob I hg hm ?_ hdb)⟩
 refine PySem.W.callWith_K (h₀:=X.base) I.ok.mod.kin Fn.kp ?_ (by rfl) (by rfl)
 show wpAny _ _ (spliced ((false,eval (.Lambda params body scope lpos) X.env) :: backTo pos (starEach [] X.env))) _ _ s
 refine Calls.spliced_cons (lam_mk I B hcode hT hdef (L.has I.ok) fun f c' pm' ctv H1 s' I1 eN T1 hf hfn hfr hco=>Calls.spliced_nil ⟨I1.kIn,?_⟩)
 refine wpAny_call (codeAny_mono (LamX.run_ofS (CX:=C8.CX0) (E:=C8.E0) (Q:=Q) (N:=Ng) (ps:= [a]) (us:= [.ref f]) (vs:= [.ref f]) lk hcg Sg hr I1.env0 (hb s' [.ref f] I1.kIn rfl) (.cons rfl .nil) rfl fun hr'=>?_) fun r s2 hq=>?_)
 ·obtain ⟨t',ht',hq'⟩:=hG cdv f c' s' H1 Q (fun E H' Q'=>t E σ H' Q') (fun W pn xe E p1 p2 tk hW=>LamX.pe_act (i:=0) I1 L hf hfn hfr (hbind _ _ _ _ _) tk hW hr' (fun A outer s H hr2=>hbody A outer s H E f c' hr2) hNg hva hd hcd) hco (h H1 eN T1)
  exact ⟨t',ht'.nox,hq'⟩
 ·cases r with
  | error e=>exact (show False from hq).elim
  | ok fl=>
   cases fl with
   | ret u=>exact I1.after hq
   | next=>exact False.elim hq
   | brk=>exact False.elim hq
   | cont=>exact False.elim hq
end
end DL
set_option maxHeartbeats 2000000
namespace DL
open PySem PySem.Spec PyProof.Rows L2 RZ
abbrev XRow:=Addr×Str×List Str
def excR (XT:List XRow) (x:Exn) (M:Mem) (Q:KN):Prop:=∃(C:Addr) (tag:Str) (fs:List Str) (xs:List D),(C,tag,fs)∈XT∧x= .own C ((("tag":Str)) :: fs.reverse) (.str tag :: xs.reverse)∧xs.length=fs.length∧Q (.tup [.str tag, .tup xs]) M
def spFd (XT:List XRow):SpX:=fun C ns ds M Q=>∃(tag:Str) (fs:List Str) (xs:List D),(C,tag,fs)∈XT∧ns=(("tag":Str)) :: fs.reverse∧ds= .str tag :: xs.reverse∧xs.length=fs.length∧Q (.tup xs) M
def wTry (P:Addr) (q:Str) (XT:List XRow) (wb:WE):WE:=fun ds M Q _=>M P=some (.tab q)∧wb ds M (fun d M1=>Q (.tup [.str "value",d]) M1) (fun x M1=>excR XT x M1 Q)
structure XCls (K:PySem.W.Frag) (cs:List Value) (C:Addr):Prop where
 exm:PySem.W.exmAny K (.ref C) cs=some true
 xf:XfC K C
 tag:PySem.W.findIn K (.ref C) "tag"=some none
def wSuit (K:PySem.W.Frag) (a dd C:Addr) (spf:SpX):WS:=wRet (wTup (wCons (wXf K a dd C "tag" (wVar 1)) (wCons (wCallX a dd C spf (wVar 1)) wNil)))
def TTry (K:PySem.W.Frag) (cs:List Value) (spf:SpX):(XK→Hp→VK→Prop)→Hp→VK→Prop:=fun tl H Q=>
 tl (fun cls d H'=>PySem.W.exmAny K cls cs=some true∧∀a,H' a=none→∃dd C,cls= .ref C∧d=some dd∧∀(σ:L2.St) (D:Ends),σ.length=2→D.rt=Q→liftS K WF [] [] (wSuit K a dd C spf) D (σ.set 1 (some (.ref a))) H') H
  fun v H'=> [V.str "value",v].length≤sizeLine∧∀t,H' t=none→Q (.ref t) (upd H' t (.tup [.str "value",v]))
section
variable {X : Cx} {x a n fld x1 x2 x3 q : Str} {sg : Scope} {g gF : Addr} {cdg : Value} {c1 c2 c3 : Value} {kF j : Nat} {spf : SpX}
theorem try_gives {j1 k1 k2 k3:Nat} {p1 p2 p3 p4 p5 q1 q2 q3 q4 r1 r2 r3 r4 r5 r6 r7 r8 r9:Pos} (hr:∀L,Room j (X.A.deeper (envOfC x sg L g cdg))) (hkj:kF≤j) (F:FnXJ X.prog X.w X.K X.mg X.base kF gF spf) (hmF:X.mg fld=some (.ref gF))
  (nd: [a,n].Nodup) (ha:sg.names.lookup a=some .local) (hn:sg.names.lookup n=some .local) (g1:sg.names.lookup x1=some .globalImplicit) (g2:sg.names.lookup x2=some .globalImplicit) (g3:sg.names.lookup x3=some .globalImplicit) (gf:sg.names.lookup fld=some .globalImplicit)
  (m1:X.mg x1=some c1) (m2:X.mg x2=some c2) (m3:X.mg x3=some c3) (d1:(x1 == ("__debug__":Str))=false) (d2:(x2 == ("__debug__":Str))=false) (d3:(x3 == ("__debug__":Str))=false) (df:(fld == ("__debug__":Str))=false) (dn:(n == ("__debug__":Str))=false) (dn2:(n == ("__classdict__":Str))=false)
  (hb:∀L:Addr,attributeBase (.Name n r1) "tag" (envOfC x sg L g cdg) (eval (.Name n r1) (envOfC x sg L g cdg))=eval (.Name n r1) (envOfC x sg L g cdg)):
  LamX.GivesTo X [a,n] x sg g cdg [.Try [.Return (some (.Tuple [.Constant (.str "value") j1 p1, .Call (.Name a p2) [] [] p3] k1 p4)) p5] [.ExceptHandler (some (.Tuple [.Name x1 q1, .Name x2 q2, .Name x3 q3] k2 q4)) (some n)
   [.Return (some (.Tuple [.Attribute (.Name n r1) "tag" r2, .Call (.Name fld r3) [.Name n r4] [] r5] k3 r6)) r7] r8] [] [] r9] a q (TTry X.K [c1,c2,c3] spf):=by
 intro f c' s H Q tl act hc h
 refine ⟨_,pss_one (ps_try3 (X:=(cxOf C8.CX0 X.prog X.w X.K X.mg X.base [a,n] x sg g cdg X.A X.stack s H C8.E0).nox) (i:=1) (c1:=c1) (c2:=c2) (c3:=c3)
   (tb:=fun W D σ H=>∃Ech:XK,(∀cls d σ' H',Ech cls d H'→W cls d σ' H')∧σ[0]?=some (some (.ref f))∧H c'=some (LamX.CodeO c' q)∧tl Ech H fun v H'=> [V.str "value",v].length≤sizeLine∧∀t,H' t=none→D.rt (.ref t) (upd H' t (.tup [.str "value",v])))
   (ts:=fun e cls d=>fun D σ H=>σ.length=2→∃dd C,cls= .ref C∧d=some dd∧liftS X.K WF [] [] (wSuit X.K e dd C spf) D σ H)
   rfl rfl nd rfl hn ⟨g1,d1, .inl m1⟩ ⟨g2,d2, .inl m2⟩ ⟨g3,d3, .inl m3⟩ (fun W pn xe tk _=>?_) fun e oe cls d pn hz hd=>?_),?_⟩
 ·refine ⟨fun pins s' σ H' D I h'=>?_⟩
  obtain ⟨Ech,hW,h1,h2,h3⟩:=h'
  have hp:=act W pn xe Ech p2 p3 tk hW
  refine (pss_one (ps_ret (pos:=p5) (pe_tup (x1:=k1) (pos:=p4) (pa_cons (pe_str (x:="value") (j:=j1) (pos:=p1)) (pa_cons hp pa_nil))))).run pins s' σ H' D I ⟨h1,h2,h3⟩
 ·refine ⟨fun pins s' σ H' D I h'=>?_⟩
  obtain ⟨dd,C,rfl,rfl,hh⟩:=h' I.len
  have px:PinX (e,oe) e dd C:=⟨rfl,hz.1,hz.2,hd⟩
  have rh:L2H.RoomH j ((cxOf C8.CX0 X.prog X.w X.K X.mg X.base [a,n] x sg g cdg X.A X.stack s H C8.E0).nox.suite e ((e,oe) :: pn)).A:=⟨(hr s.heap.objs.size).dp,(hr s.heap.objs.size).un⟩
  have v1:JE ((cxOf C8.CX0 X.prog X.w X.K X.mg X.base [a,n] x sg g cdg X.A X.stack s H C8.E0).nox.suite e ((e,oe) :: pn)) WF (.Name n r1) (wVar 1):=jv 1 rfl (.inl hn) dn dn2
  have v2:JE ((cxOf C8.CX0 X.prog X.w X.K X.mg X.base [a,n] x sg g cdg X.A X.stack s H C8.E0).nox.suite e ((e,oe) :: pn)) WF (.Name n r4) (wVar 1):=jv 1 rfl (.inl hn) dn dn2
  exact (js_one (js_ret (pos:=r7) (j_tup (k:=k3) (pos:=r6) (j_cons (j_xf (p:=(e,oe)) (pos:=r2) List.mem_cons_self px v1 (hb _)) (j_cons (j_callX (p:=(e,oe)) (q:=r3) (pos:=r5) List.mem_cons_self px F rh hkj hmF v2 gf df) j_nil))))).run pins s' σ H' D I hh
 ·refine ⟨_,fun cls d σ' H' hE=>⟨hE.1,fun e he hl=>?_⟩,rfl,hc,h⟩
  obtain ⟨dd,C,e1,e2,hh⟩:=hE.2 e he
  exact ⟨dd,C,e1,e2,hh σ' _ (by rw [List.length_set] at hl;exact hl) rfl⟩
end
theorem tab_c {K:PySem.W.Frag} {H H1:Hp} {M:Mem} {P:Addr} {q:Str} (R:RelM K H M) (hP:M P=some (.tab q)) (eN:∀b o,b≠P→H b=some o→H1 b=some o) (T:LamX.TabS H1 P q):TabM H1 M P q:=by
 obtain ⟨ps,g1,g2,g3⟩:=T
 refine ⟨ps,g1,g2,fun pos cv hc=>?_⟩
 obtain ⟨c,e1,e2⟩:=g3 pos cv hc
 refine ⟨c,e1,e2,?_⟩
 have ne:c≠P:=fun z=>by
  rw [z,g1] at e2
  exact LamX.codeO_ne ps (Option.some.inj e2).symm
 cases e:M c with
 | none=>rfl
 | some o=>
  exfalso
  have r:=R c o e
  have no:∀u,H c=some u→(∀p,u≠ .ext p)→False:=fun u hu n=>by
   have z:=eN c u ne hu
   rw [e2] at z
   exact n _ (Option.some.inj z).symm
  cases o with
  | lst ds=>obtain ⟨xs,z,_⟩:=r;exact no _ z fun p q=>by cases q
  | dct ks ds=>obtain ⟨xs,z,_⟩:=r;exact no _ z fun p q=>by cases q
  | dtt ks ds=>obtain ⟨xs,z,_⟩:=r;exact no _ z fun p q=>by cases q
  | ins C ns ds=>obtain ⟨_,_,z,_⟩:=r;exact no _ z fun p q=>by cases q
  | tab q'=>obtain ⟨ps',z,_⟩:=r;exact no _ z fun p q=>by cases q
theorem try_lift {K:PySem.W.Frag} {W:WX} {P:Addr} {q:Str} {cs:List Value} {XT:List XRow} {wb:WE} (hX:∀r∈XT,XCls K cs r.1) {σ:L2.St} {H:Hp} {Q:VK} (h:liftE K W (wTry P q XT wb) σ H Q):
  tLam1 P q (TTry K cs (spFd XT)) (fun E=>liftE K (WD E) wb) σ H Q:=by
 obtain ⟨ds,M,F,Qd,Xd,hs,_,⟨hP,hw⟩,l1,l2⟩:=h
 have big:=sizeLine_big
 have hu:=hs.1.at hP
 obtain ⟨ps,h1,h2,h3⟩:TabM H (uni M F) P q:=hs.1.rel P _ hu
 refine ⟨⟨ps,h1,h2,fun pos cv hc=>let ⟨c,e1,e2,_⟩:=h3 pos cv hc;⟨c,e1,e2⟩⟩,fun H1 eN T1=>?_⟩
 have ex:Ext H (uni M F) H1 (uni M F):=fun a o ha hm hn=>⟨⟨o,eN a o (fun z=>by subst z;rw [hu] at hm;cases hm) ha, .same⟩,hm⟩
 have R1:Rm K H1 M F:=by
  refine ⟨fun a o ha=>?_,hs.1.dj⟩
  by_cases hz:a=P
  ·subst hz
   rw [hu] at ha
   cases ha
   exact tab_c hs.1.rel hu eN T1
  ·exact MOk.ext hs.1.rel ex (hs.1.rel a o ha) fun u e=>eN a u hz e
 refine ⟨ds,M,F,fun d M1=>Qd (.tup [.str "value",d]) M1,fun x M1=>excR XT x M1 Qd,hs.ext ex R1,rfl,hw,fun v H' d M' e r dv q=>⟨?_,fun t ht=>?_⟩,fun cls dc H' x M' e r xv q=>?_⟩
 ·show 2≤sizeLine
  omega
 ·have e2:=new_ext r.rel (o:=HO.tup [.str "value",v]) ht
  exact l1 (.ref t) _ (.tup [.str "value",d]) M' ((ex.trans e).trans e2) (r.new ht) ⟨t,_,rfl,SqT.of upd_same,_,_,rfl,rfl,_,_,rfl,DV.ext r.rel e2 d v dv,rfl⟩ q
 ·obtain ⟨C,tag,fs,xs,hin,rfl,hl,hQ⟩:=q
  obtain ⟨rfl,dd,ff,rfl,hdd,hM,hfst,hdv⟩:=xv
  have xc:=hX _ hin
  refine ⟨xc.exm,fun a ha=>⟨dd,C,rfl,rfl,fun σ' D hlen hrt=>?_⟩⟩
  refine ⟨[none,some (.exc a dd C ((("tag":Str)) :: fs.reverse) (.str tag :: xs.reverse))],M',F,{nx:=fun _ _=>False,rt:=Qd,ex:=fun _ _ _=>False},⟨r,by rw [List.length_set,hlen];rfl,fun i d hd=>?_⟩,rfl,?_,
   ⟨fun _ _ _ _ _ _ z=>z.elim,by rw [hrt];exact l1.ext (ex.trans e),fun _ _ _ _ _ _ z=>z.elim,fun _ _ _ _ _ _ z=>z.elim,fun _ _ _ _ _ _ _ _ _ _ z=>z.elim⟩⟩
  ·match i,hd with
   | 1,hd=>
    cases hd
    exact ⟨.ref a,by rw [List.getElem?_set_self (by omega)],rfl,ff,hdd,hM,hfst,hdv⟩
  ·refine ⟨((("tag":Str)) :: fs.reverse),(.str tag :: xs.reverse),0, .str tag,rfl,xc.xf,xc.tag,by rw [List.findIdx?_cons,if_pos (by decide)],rfl,_,_,rfl,tag,fs,xs,hin,rfl,rfl,hl,?_,hQ⟩
   show 2≤sizeLine
   omega
end DL
set_option maxHeartbeats 2000000
namespace DL
open PySem PySem.Spec PyProof.Rows L2 RZ
section
variable {X : Cx} {W : WX} {x a : Str} {g c P : Addr} {st : Stmt} {N : List Str} {cs : List Value} {XT : List XRow} {wb : WE} {params : Arguments} {body : Expr} {scope : Scope} {lpos pos p : Pos} {j k : Nat}
theorem takes_lam {A:Around} {outer:List Env} {s:Shared} {H:Hp} {E:XK} {f c':Addr}:Takes (LamX.lamCx X A outer s H E scope f c') (WD E):=takes_of (X:=LamX.lamCx X A outer s H E scope f c') rfl rfl rfl rfl
theorem j_try (Fd:DefAt X.K x x st [a] g) (Sg:FnScope N [a] (defScope st)) (hNg:N[0]?=some a) (hva:Vis (defScope st) a) (hG:∀cdv,LamX.GivesTo X N x (defScope st) g cdv (defBody st) a (lamQ X) (TTry X.K cs (spFd XT))) (hX:∀r∈XT,XCls X.K cs r.1)
  (B:LamX.TabB X.base X.mg c P) (hcode:X.env.code= .ref c) (hr:Room j X.A) (hj:k + 2≤j) (L:LamX.LamS X.env.scope scope) (hm:X.mg x=some (.ref g))
  (hbody:∀(A:Around) (outer:List Env) (s:Shared) (H:Hp) (E:XK) (f c':Addr),Room k (A.deeper (LamX.lamEnv X scope s.heap.objs.size f c'))→Takes (LamX.lamCx X A outer s H E scope f c') (WD E)→JE (LamX.lamCx X A outer s H E scope f c') (WD E) body wb)
  (hbind:∀(q:Str) (cl:List (Str×Addr)) (pm cv ctv:Value),bindArgs (PySem.W.kla_fn "<lambda>" q params body scope cl pm cv ctv) ⟨[], []⟩=pure [])
  (hg:Gl X x:=by rfl) (hdef:defaultsOf params X.env=([], []):=by rfl)
  (hdb:(x == ("__debug__":Str))=false:=by decide) (hd:(a == ("__debug__":Str))=false:=by decide) (hcd:(a == ("__classdict__":Str))=false:=by decide):
  JE X W (.Call (.Name x p) [.Lambda params body scope lpos] [] pos) (wTry P (lamQ X) XT wb):=by
 obtain ⟨fd,Fn,hb⟩:=Fd.ex
 exact pe_mono (pe_lam1 (t:=fun E=>liftE X.K (WD E) wb) hg hm Fn hb Sg hNg hva hG B hcode (hr.mono hj) L hdef hbind (fun A outer s H E f c' hr2=>hbody A outer s H E f c' hr2 takes_lam) hdb hd hcd) fun σ H Q h=>try_lift hX h
end
end DL
set_option maxHeartbeats 2000000
namespace DL
open PySem PySem.Spec PyProof.Rows L2 RZ
def fmtK:D→(Str→Prop)→Prop
 | .str y,k=>y.length≤sizeLine∧k y
 | .int i,k=>i.natAbs.log2 < 1920∧k (toString i)
 | _,_=>False
def strKD:D→(Str→Prop)→Prop
 | .str y,k=>k y
 | _,_=>False
def wFmt (we:WE):WE:=fun ds M Q Xc=>we ds M (fun d M1=>fmtK d fun s=>Q (.str s) M1) Xc
def wJs:List WE→Str→WE
 | [],acc=>fun _ M Q _=>Q (.str acc) M
 | w :: ws,acc=>fun ds M Q Xc=>w ds M (fun d M1=>strKD d fun y=>(acc ++ y).length≤sizeLine∧wJs ws (acc ++ y) ds M1 Q Xc) Xc
section
variable {X : Cx} {W : WX} {e v1 v2 : Expr} {es rest : List Expr} {we : WE} {ws : List WE} {pos : Pos}
end
theorem pFmt {we:WE} {ds:SD} {M:Mem} {Q:KN} {X:KX}:(wFmt we ds M Q X)=(we ds M (fun d M1=>fmtK d fun s=>Q (.str s) M1) X):=propext Iff.rfl
theorem pFmtS {y:Str} {k:Str→Prop}:(fmtK (.str y) k)=(y.length≤sizeLine∧k y):=propext Iff.rfl
theorem pFmtI {i:Int} {k:Str→Prop}:(fmtK (.int i) k)=(i.natAbs.log2 < 1920∧k (toString i)):=propext Iff.rfl
theorem pJs0 {acc:Str} {ds:SD} {M:Mem} {Q:KN} {X:KX}:(wJs [] acc ds M Q X)=(Q (.str acc) M):=propext Iff.rfl
theorem pJs1 {w:WE} {ws:List WE} {acc:Str} {ds:SD} {M:Mem} {Q:KN} {X:KX}:(wJs (w :: ws) acc ds M Q X)=(w ds M (fun d M1=>strKD d fun y=>(acc ++ y).length≤sizeLine∧wJs ws (acc ++ y) ds M1 Q X) X):=propext Iff.rfl
theorem pStrKD {y:Str} {k:Str→Prop}:(strKD (.str y) k)=k y:=propext Iff.rfl
end DL
set_option maxHeartbeats 2000000
namespace DL
open PySem PySem.Spec PyProof.Rows L2 RZ
def repS (x:Str) (k:Nat):Str:=⟨(List.replicate k x.cps).foldl (· ++ ·) #[]⟩
def rMulSD:RD2:=fun d e M Q=>match d,e with
 | .str x, .int k=>2≤k∧k≤1000∧1≤x.length∧x.length≤1000∧Q (.str (repS x k.toNat)) M
 | _,_=>False
theorem rMulS_p {x:Str} {k:Int} {M:Mem} {Q:KN}:(rMulSD (.str x) (.int k) M Q)=(2≤k∧k≤1000∧1≤x.length∧x.length≤1000∧Q (.str (repS x k.toNat)) M):=propext Iff.rfl
section
variable {X : Cx}
end
def parK3 (i j k:Nat) (E:ED) (ds:SD):List D→Mem→Prop:=fun es M1=>match es with
 | [d,e,f]=>E.nx (((ds.set i (some d)).set j (some e)).set k (some f)) M1
 | _=>False
def wPar3 (i j k:Nat) (wa:WA):WS:=fun E ds M=>wa ds M (parK3 i j k E ds) (E.xc ds)
theorem pPar3 {i j k:Nat} {wa:WA} {E:ED} {ds:SD} {M:Mem}:(wPar3 i j k wa E ds M)=(wa ds M (parK3 i j k E ds) (E.xc ds)):=propext Iff.rfl
theorem pParK3 {i j k:Nat} {E:ED} {ds:SD} {d e f:D} {M:Mem}:(parK3 i j k E ds [d,e,f] M)=(E.nx (((ds.set i (some d)).set j (some e)).set k (some f)) M):=propext Iff.rfl
section
variable {X : Cx} {W : WX}
end
end DL
set_option maxHeartbeats 2000000
namespace DL
open PySem PySem.Spec PyProof.Rows L2 RZ He
mutual
def dvB (K:PySem.W.Frag):D→Value→Bool
 | .non, .none=>true
 | .bl b, .bool c=>b == c
 | .int i, .int j _=>decide (j=i)
 | .str x, .str y _=>decide (y=x)
 | .tup ds, .ref a=>(match K.lookup a with
  | some ⟨.type c,_, .seq its _,_⟩=>decide (c="tuple") && (decide (its.size≤sizeLine) && dvBs K ds its.toList)
  | _=>false)
 | _,_=>false
def dvBs (K:PySem.W.Frag):List D→List Value→Bool
 | [], []=>true
 | d :: ds,u :: us=>dvB K d u && dvBs K ds us
 | _,_=>false
end
mutual
theorem dvB_ok {K:PySem.W.Frag}:∀(d:D) (u:Value),dvB K d u=true→∃v,RelV v u∧∀H M,DV K H M d v
 | .non,u,h=>by
  cases u <;> first | (simp [dvB] at h;done) | exact ⟨.non,rfl,fun _ _=>rfl⟩
 | .bl b,u,h=>by
  cases u <;> first | (simp [dvB] at h;done) | skip
  rename_i c
  have e:b=c:=by simpa [dvB] using h
  subst e
  exact ⟨.bl b,rfl,fun _ _=>rfl⟩
 | .int i,u,h=>by
  cases u <;> first | (simp [dvB] at h;done) | skip
  rename_i j t
  have e:j=i:=by simpa [dvB] using h
  subst e
  exact ⟨.int j,⟨t,rfl⟩,fun _ _=>rfl⟩
 | .str x,u,h=>by
  cases u <;> first | (simp [dvB] at h;done) | skip
  rename_i y t
  have e:y=x:=by simpa [dvB] using h
  subst e
  exact ⟨.str y,⟨t,rfl⟩,fun _ _=>rfl⟩
 | .tup ds,u,h=>by
  cases u <;> first | (simp [dvB] at h;done) | skip
  rename_i a
  unfold dvB at h
  cases q:K.lookup a with
  | none=>rw [q] at h;cases h
  | some o=>
   obtain ⟨oc,od,dt,osl⟩:=o
   rw [q] at h
   cases oc <;> first | (cases dt <;> cases h;done) | skip
   cases dt <;> first | (cases h;done) | skip
   rename_i c its n
   obtain ⟨h1,h⟩:=ba (show (decide (c="tuple") && (decide (its.size≤sizeLine) && dvBs K ds its.toList))=true from h)
   obtain ⟨h2,h3⟩:=ba h
   obtain ⟨vs,r,dv⟩:=dvBs_ok ds its.toList h3
   exact ⟨.ref a,rfl,fun H M=>⟨a,vs,rfl, .inr ⟨_,its,n,q,congrArg Value.type (of_decide_eq_true h1),rfl,of_decide_eq_true h2,r⟩,dv H M⟩⟩
 | .ty _,u,h=>by simp [dvB] at h
 | .ref _,u,h=>by simp [dvB] at h
 | .lst _,u,h=>by simp [dvB] at h
 | .dct _ _,u,h=>by simp [dvB] at h
 | .dtt _ _,u,h=>by simp [dvB] at h
 | .ins _ _ _,u,h=>by simp [dvB] at h
 | .scr _,u,h=>by simp [dvB] at h
 | .tpn _,u,h=>by simp [dvB] at h
 | .exc _ _ _ _ _,u,h=>by simp [dvB] at h
theorem dvBs_ok {K:PySem.W.Frag}:∀(ds:List D) (us:List Value),dvBs K ds us=true→∃vs,Vals vs us∧∀H M,DVs K H M ds vs
 | [],us,h=>by
  cases us with
  | nil=>exact ⟨[], .nil,fun _ _=>rfl⟩
  | cons u us=>simp [dvBs] at h
 | d :: ds,us,h=>by
  cases us with
  | nil=>simp [dvBs] at h
  | cons u us=>
   unfold dvBs at h
   obtain ⟨h1,h2⟩:=ba h
   obtain ⟨v,r1,d1⟩:=dvB_ok d u h1
   obtain ⟨vs,r2,d2⟩:=dvBs_ok ds us h2
   exact ⟨v :: vs, .cons r1 r2,fun H M=>⟨v,vs,rfl,d1 H M,d2 H M⟩⟩
end
def bNone (K:PySem.W.Frag) (x:Str):Bool:=eqO (PySem.W.nsIn K mainGlobals x) (some none)
def bGlo (K:PySem.W.Frag) (x:Str):Bool:=eqO (PySem.W.nsIn K mainGlobals x) (some (some (.ref (ga K x))))
def bCon (K:PySem.W.Frag) (x:Str) (d:D):Bool:=match PySem.W.nsIn K mainGlobals x with
 | some (some u)=>dvB K d u
 | _=>false
def bCls (K:PySem.W.Frag) (C:Addr):Bool:=PySem.W.plainGet K C Str.empty && (PySem.W.hasDictIn K C && (PySem.W.plainOver K C && eqO (PySem.W.findIn K (.ref C) "__setattr__") (some (some (.builtin "object.__setattr__")))))
def bNo (K:PySem.W.Frag) (C:Addr) (f:Str):Bool:=eqO (PySem.W.findIn K (.ref C) f) (some none)
def bMk (K:PySem.W.Frag) (C f:Addr):Bool:=PySem.W.makesIn K C && (eqO (PySem.W.findIn K (.ref C) "__init__") (some (some (.ref f))) && (PySem.W.isFn K (.ref f) && PySem.W.keepIn K (.ref C)))
def bMeth (K:PySem.W.Frag) (C:Addr) (m:Str) (f:Addr):Bool:=eqO (PySem.W.findIn K (.ref C) m) (some (some (.ref f))) && (PySem.W.isFn K (.ref f) && PySem.W.keepIn K (.ref f))
def prG (K:PySem.W.Frag) (q:Addr):Addr:=match PySem.W.recIn K q "property" with
 | some (.ref f :: _)=>f
 | _=>0
def bProp (K:PySem.W.Frag) (C:Addr) (p:Str) (q g:Addr):Bool:=eqO (PySem.W.findIn K (.ref C) p) (some (some (.ref q))) && (eqO (PySem.W.specialIn K (.ref q) "__get__") (some (some (.builtin "property.__get__"))) && (decide (PySem.W.takesIn K (.ref q)=some true) && (match PySem.W.recIn K q "property" with
 | some (.ref f :: _)=>decide (f=g)
 | _=>false)))
def bCv (K:PySem.W.Frag) (C:Addr) (f:Str) (d:D):Bool:=PySem.W.readsIn K C (.type "type") && (eqO (PySem.W.specialIn K (.ref C) "__getattribute__") (some (some (.builtin "type.__getattribute__"))) && (match PySem.W.findCls K (.ref C) (.type "type") f with
 | some (.val u)=>dvB K d u
 | _=>false))
section
variable {K : PySem.W.Frag} {h : Heap} {mg : Str → Option Value}
theorem bNone_ok (X:K.In h) (G:h.Ns mainGlobals mg) {x:Str} (c:bNone K x=true):mg x=none:=PySem.W.mg_none_of X G (eqO_ok c)
theorem bGlo_ok (X:K.In h) (G:h.Ns mainGlobals mg) {x:Str} (c:bGlo K x=true):mg x=some (.ref (ga K x)):=PySem.W.mg_of X G (eqO_ok c)
theorem bCon_ok (X:K.In h) (G:h.Ns mainGlobals mg) {x:Str} {d:D} (c:bCon K x d=true):GK K mg x d:=by
 unfold bCon at c
 split at c
 ·rename_i u e
  obtain ⟨v,r,dv⟩:=dvB_ok d u c
  exact ⟨u,v,PySem.W.mg_of X G e,r,dv⟩
 ·cases c
theorem bCls_ok {C:Addr} (c:bCls K C=true):Cls K C:=by
 obtain ⟨c1,c⟩:=ba c
 obtain ⟨c2,c⟩:=ba c
 obtain ⟨c3,c4⟩:=ba c
 exact ⟨c1,c2,c3,eqO_ok c4⟩
theorem bNo_ok {C:Addr} {f:Str} (c:bNo K C f=true):NoAttr K C f:=eqO_ok c
theorem bMk_ok {C f:Addr} (c:bMk K C f=true):Mk K C f:=by
 obtain ⟨c1,c⟩:=ba c
 obtain ⟨c2,c⟩:=ba c
 obtain ⟨c3,c4⟩:=ba c
 exact ⟨c1,eqO_ok c2,c3,c4⟩
theorem bMeth_ok {C f:Addr} {m:Str} (c:bMeth K C m f=true):Meth K C m f:=by
 obtain ⟨c1,c⟩:=ba c
 obtain ⟨c2,c3⟩:=ba c
 exact ⟨eqO_ok c1,c2,c3⟩
theorem bProp_ok {C q g:Addr} {p:Str} (c:bProp K C p q g=true):PropOf K C p q g:=by
 obtain ⟨c1,c⟩:=ba c
 obtain ⟨c2,c⟩:=ba c
 obtain ⟨c3,c4⟩:=ba c
 refine ⟨eqO_ok c1,eqO_ok c2,of_decide_eq_true c3,?_⟩
 split at c4
 ·rename_i f r e
  rw [← of_decide_eq_true c4]
  exact ⟨r,e⟩
 ·cases c4
theorem bCv_ok {C:Addr} {f:Str} {d:D} (c:bCv K C f d=true):CVk K C f d:=by
 obtain ⟨c1,c⟩:=ba c
 obtain ⟨c2,c3⟩:=ba c
 split at c3
 ·rename_i u e
  obtain ⟨v,r,dv⟩:=dvB_ok d u c3
  exact ⟨.type "type",v,u,⟨c1,eqO_ok c2⟩,⟨e,r⟩,dv⟩
 ·cases c3
end
structure DfR where
 at_:PySem.W.Frag→Addr
 name:Str
 qual:Str
 st:Stmt
 cl:List Str:= []
abbrev FnZ:Type:=Option (Str×Str×Arguments×FuncBody×Scope×Addr×List Str×Value×Addr)
def fnZ (K:PySem.W.Frag) (a:Addr):FnZ:=match K.lookup a with
 | some ⟨_,_, .func fd,_⟩=>some (fd.name,fd.qualname,fd.params,fd.body,fd.scope,fd.globals,fd.closure.map (·.1),fd.defaults,fd.builtins)
 | _=>none
def DfR.val (d:DfR):FnZ:=some (d.name,d.qual,defArgs d.st, .stmts (defBody d.st),defScope d.st,mainGlobals,d.cl, .none,builtinsNs)
def DfR.ok (K:PySem.W.Frag) (d:DfR):Bool:=PySem.W.keepIn K (.ref (d.at_ K)) && (match K.lookup (d.at_ K) with
 | some ⟨_,_, .func fd,_⟩=>PySem.W.codeIn K fd.code d.qual
 | _=>false)
theorem DfR.ex {K:PySem.W.Frag} {d:DfR} (e:fnZ K (d.at_ K)=d.val) (c:d.ok K=true):PySem.W.keepIn K (.ref (d.at_ K))=true∧∃(oc:Value) (od:Option Addr) (osl:Array (Option Value)) (kV doc pm:Value) (an:Option Addr) (cdv ct:Value) (cl:List (Str×Addr)),
  K.lookup (d.at_ K)=some ⟨oc,od, .func (PySem.W.fnX d.name d.qual (defArgs d.st) (defBody d.st) (defScope d.st) cl .none kV doc pm an cdv ct),osl⟩∧cl.map (·.1)=d.cl∧PySem.W.codeIn K cdv d.qual=true:=by
 obtain ⟨kp,c2⟩:=ba c
 refine ⟨kp,?_⟩
 unfold fnZ at e
 cases q:K.lookup (d.at_ K) with
 | none=>
  rw [q] at c2
  cases c2
 | some o=>
  obtain ⟨oc,od,dt,osl⟩:=o
  rw [q] at c2 e
  cases dt with
  | func fd=>
   obtain ⟨n1,n2,n3,n4,n5,n6,n7,n8,n9,n10,n11,n12,n13,n14,n15⟩:=fd
   have e2:(some (n1,n2,n3,n4,n5,n6,n7.map (·.1),n8,n15):FnZ)=some (d.name,d.qual,defArgs d.st, .stmts (defBody d.st),defScope d.st,mainGlobals,d.cl, .none,builtinsNs):=e
   simp only [Option.some.injEq,Prod.mk.injEq] at e2
   obtain ⟨h1,h2,h3,h4,h5,h6,h7,h8,h9⟩:=e2
   subst h1 h2 h3 h4 h5 h6 h8 h9
   exact ⟨oc,od,osl,n9,n10,n11,n12,n13,n14,n7,rfl,h7,c2⟩
  | _=>cases c2
theorem DfR.defAt {K:PySem.W.Frag} {d:DfR} {ps:List Str} (e:fnZ K (d.at_ K)=d.val) (c:d.ok K=true) (hc:d.cl= []:=by rfl)
  (hb:∀(oc:Value) (od:Option Addr) (kV doc pm cdv ct:Value) (an:Option Addr) (us:List Value),us.length=ps.length→bindArgs (PySem.W.fnOf d.name d.qual (defArgs d.st) (defBody d.st) (defScope d.st) .none kV doc pm an cdv ct) ⟨us, []⟩=pure (ps.zip us)):DefAt K d.name d.qual d.st ps (d.at_ K):=by
 obtain ⟨kp,oc,od,osl,kV,doc,pm,an,cdv,ct,cl,lk,hcl,hcd⟩:=DfR.ex e c
 rw [hc] at hcl
 have e0:cl= []:=List.map_eq_nil_iff.mp hcl
 subst e0
 have F:Fun K d.name d.qual d.st (d.at_ K) _:=fun_mk (st:=d.st) lk hcd kp
 exact ⟨_,F, .all fun us hl=>hb oc od kV doc pm cdv ct an us hl⟩
def exMro (C:Addr):List Value→Bool
 | .ref C' :: bm=>decide (C'=C) && PySem.HandSPX.refsVE bm
 | _=>false
theorem exMro_ok {C:Addr}:∀{l:List Value},exMro C l=true→∃bm,l= .ref C :: bm∧PySem.HandSPX.refsVE bm=true
 | .ref C' :: bm,h=>by
  obtain ⟨h1,h2⟩:=ba (show (decide (C'=C) && PySem.HandSPX.refsVE bm)=true from h)
  exact ⟨bm,by rw [of_decide_eq_true h1],h2⟩
def exSl:List (Option Value)→Bool
 | [_,_,_,_,some (.builtin n),_]=>decide (n="ValueError.__new__")
 | _=>false
theorem exSl_ok {l:List (Option Value)} (h:exSl l=true):∃k0 k1 k2 k3 k5,l= [k0,k1,k2,k3,some (.builtin "ValueError.__new__"),k5]:=by
 unfold exSl at h
 split at h
 ·rw [← of_decide_eq_true h]
  exact ⟨_,_,_,_,_,rfl⟩
 ·cases h
def exB (K:PySem.W.Frag) (C:Addr):Bool:=match K.lookup C with
 | some ⟨.type t,_, .cls cd,sl⟩=>decide (t="type") && (exMro C cd.mro && (cd.hasDict && (!cd.hasDel && exSl sl.toList)))
 | _=>false
theorem exB_ok {K:PySem.W.Frag} {C:Addr} (h:exB K C=true):∃nm q N bs bm sn sub ab col dd k0 k1 k2 k3 k5,K.lookup C=some (excClassObj nm q C N bs bm true sn sub ab col dd k0 k1 k2 k3 k5 "ValueError.__new__")∧PySem.HandSPX.refsVE bm=true:=by
 unfold exB at h
 cases q:K.lookup C with
 | none=>rw [q] at h;cases h
 | some o=>
  obtain ⟨oc,od,dt,osl⟩:=o
  rw [q] at h
  cases oc <;> first | (cases dt <;> cases h;done) | skip
  cases dt <;> first | (cases h;done) | skip
  rename_i t cd
  obtain ⟨h1,h⟩:=ba h
  obtain ⟨h2,h⟩:=ba h
  obtain ⟨h3,h⟩:=ba h
  obtain ⟨h4,h5⟩:=ba h
  obtain ⟨nm,bs,mro,N,qn,hdct,sn,sub,ab,col,hdl⟩:=cd
  have e1:t="type":=of_decide_eq_true h1
  have e3:hdct=true:=h3
  have e4:hdl=false:=by
   cases z:hdl with
   | false=>rfl
   | true=>rw [z] at h4;cases h4
  obtain ⟨bm,e6,h7⟩:=exMro_ok (show exMro C mro=true from h2)
  obtain ⟨k0,k1,k2,k3,k5,e7⟩:=exSl_ok h5
  have e8:osl= #[k0,k1,k2,k3,some (.builtin "ValueError.__new__"),k5]:=Array.toList_inj.mp e7
  subst e1 e3 e4 e6 e8
  exact ⟨nm,qn,N,bs,bm,sn,sub,ab,col,od,k0,k1,k2,k3,k5,rfl,h7⟩
def bOex (K:PySem.W.Frag) (C:Addr):Bool:=exB K C && (eqO (PySem.W.findIn K (.ref C) "__setattr__") (some (some (.builtin "object.__setattr__"))) && (decide (PySem.W.subIn K (.ref C) (.type "BaseException")=some true) && (decide (PySem.W.typeIn K (.ref C)=some (.type "type")) && PySem.W.keepIn K (.ref C))))
theorem bOex_ok {K:PySem.W.Frag} {C:Addr} (h:bOex K C=true):OexC K C:=by
 obtain ⟨h1,h⟩:=ba h
 obtain ⟨h2,h⟩:=ba h
 obtain ⟨h3,h⟩:=ba h
 obtain ⟨h4,h5⟩:=ba h
 exact ⟨exB_ok h1,eqO_ok h2,of_decide_eq_true h3,of_decide_eq_true h4,h5⟩
def bFnX (K:PySem.W.Frag) (f C:Addr) (file:Str):Bool:=match K.lookup f with
 | some ⟨_,_, .func fd,_⟩=>(match fd.code with
  | .ref c=>(match K.lookup c with
   | some ⟨_,_, .fields vs,_⟩=>(match (vs.toList[2]?:Option Value) with
    | some (.str x _)=>decide (x=file)
    | _=>false)
   | _=>false)
  | _=>false) && (match fd.closure with
  | [(_,cc)]=>(match K.lookup cc with
   | some ⟨_,_, .cell (some (.ref C')),_⟩=>decide (C'=C)
   | _=>false)
  | _=>false)
 | _=>false
def bExC (K:PySem.W.Frag) (C fI:Addr) (file:Str):Bool:=bOex K C && (eqO (PySem.W.findIn K (.ref C) "__init__") (some (some (.ref fI))) && (decide (PySem.W.typeIn K (.ref fI)=some (.type "function")) && (eqO (PySem.W.ks_superIn K C C "__init__") (some (some (.builtin "ValueError.__init__"))) &&
 (decide (PySem.W.subIn K (.ref C) (.type "ValueError")=some true) && (decide (PySem.W.mroIn K C (.ref C)=some true) && (eqO (PySem.W.nsIn K PySem.cStatics "thirdparty.any") (some none) && (xfB K C && bFnX K fI C file)))))))
theorem bExC_ok {P:Program} {K:PySem.W.Frag} {d:DfR} {C:Addr} {qual:Str} {ist:Stmt} (e:fnZ K (d.at_ K)=d.val) (c:d.ok K=true) (h:bExC K C (d.at_ K) P.main.file=true) (ht:(P.main.scope.names.lookup ("super":Str)).isSome=false) (hn:d.name="__init__") (hq:d.qual=qual) (hs:d.st=ist) (hcl:d.cl= [("__class__":Str)]):
  ExC P K qual ist C (d.at_ K):=by
 obtain ⟨h1,h⟩:=ba h
 obtain ⟨h2,h⟩:=ba h
 obtain ⟨h3,h⟩:=ba h
 obtain ⟨h4,h⟩:=ba h
 obtain ⟨h5,h⟩:=ba h
 obtain ⟨h6,h⟩:=ba h
 obtain ⟨h7,h⟩:=ba h
 obtain ⟨h8,h9⟩:=ba h
 refine ⟨bOex_ok h1,eqO_ok h2,of_decide_eq_true h3,eqO_ok h4,of_decide_eq_true h5,of_decide_eq_true h6,eqO_ok h7,xfB_ok h8,?_,ht⟩
 obtain ⟨kp,oc,od,osl,kV,doc,pm,an,cdv,ct,cl,lk,hcm,hcd⟩:=DfR.ex e c
 rw [hcl] at hcm
 obtain ⟨cc,rfl⟩:∃cc,cl= [(("__class__":Str),cc)]:=by
  match cl,hcm with
  | [(x,cc)],hcm=>
   have:x=("__class__":Str):=(List.cons.inj hcm).1
   exact ⟨cc,by rw [this]⟩
 subst hq hs
 unfold bFnX at h9
 rw [lk] at h9
 obtain ⟨g1,g2⟩:=ba h9
 dsimp only [PySem.W.fnX] at g1 g2
 obtain ⟨cda,rfl⟩:=codeIn_ref hcd
 dsimp only at g1 g2
 split at g1
 ·rename_i ccl cdd vs ccs lc
  split at g1
  ·rename_i x t hv
   split at g2
   ·rename_i cl0 cld C' csl lcc
    have eC:C'=C:=of_decide_eq_true g2
    subst eC
    have ef:x=P.main.file:=of_decide_eq_true g1
    refine ⟨cc,cda,oc,od,kV,doc,pm,ct,an,osl,ccl,cdd,vs,ccs,x,t,cl0,cld,csl,by rw [← hn];exact lk,hcd,lc,by rw [← Array.getElem?_toList];exact hv,by rw [ef];exact beq_self_eq_true _,lcc⟩
   ·cases g2
  ·cases g1
 ·cases g1
def bExm (K:PySem.W.Frag) (C:Addr) (cs:List Value):Bool:=decide (PySem.W.exmAny K (.ref C) cs=some true)
theorem bExm_ok {K:PySem.W.Frag} {C:Addr} {cs:List Value} (h:bExm K C cs=true):PySem.W.exmAny K (.ref C) cs=some true:=of_decide_eq_true h
def refsZ (o:Obj):List Addr:=match o.data with
 | .cls cd=> [cd.ns]
 | .dict es _=>es.toList.flatMap fun e=>refV e.val
 | .func fd=>refV fd.code ++ (refV fd.kwdefaults ++ fd.closure.map (·.2))
 | .seq its _=>its.toList.flatMap refV
 | .fields vs=>vs.toList.flatMap refV
 | _=> []
def stepZ (g:Addr→Option Obj) (as:List Addr):List Addr:=as.flatMap fun a=>match g a with
 | some o=>refsZ o
 | none=> []
def asZ (g:Addr→Option Obj) (xs:List Str):List Addr:=
 let K0:=frG g [mainGlobals]
 let r0:=xs.map (ga K0)
 let r1:=stepZ g r0
 let r2:=stepZ g r1
 let r3:=stepZ g r2
 let r4:=stepZ g r3
 [mainGlobals,PySem.cStatics] ++ (r0 ++ (r1 ++ (r2 ++ (r3 ++ r4))))
abbrev AlZ:Type:=Bool×List FnZ
abbrev TbZ:Type:=PySem.W.Frag→List (Addr×Addr)
def tabZ (g:Addr→Option Obj) (ts:List (Addr×Addr)) (K:PySem.W.Frag):Bool:=ts.all fun p=>PySem.W.codeHdIn K p.1 p.2 && (match g p.2 with
 | some o=>emptyTab o
 | none=>false)
def obsK (fb:PySem.W.Frag→List Bool) (fn:List DfR) (tf:TbZ) (g:Addr→Option Obj) (K:PySem.W.Frag):AlZ:=((fb K).all id && ((fn.all fun d=>d.ok K) && tabZ g (tf K) K),fn.map fun d=>fnZ K (d.at_ K))
def obsZ (xs:List Str) (fb:PySem.W.Frag→List Bool) (fn:List DfR) (tf:TbZ) (g:Addr→Option Obj):AlZ:=obsK fb fn tf g (frT g (asZ g xs))
def valZ (fn:List DfR):AlZ:=(true,fn.map DfR.val)
structure SaysZ (fb:PySem.W.Frag→List Bool) (fn:List DfR) (tf:TbZ) (h:Heap) (K:PySem.W.Frag):Prop where
 facts:(fb K).all id=true
 defs:∀(i:Nat) (d:DfR),fn[i]?=some d→fnZ K (d.at_ K)=d.val∧d.ok K=true
 hd:∀p∈tf K,PySem.W.codeHdIn K p.1 p.2=true
 out:∀p∈tf K,K.lookup p.2=none
 empty:∀p∈tf K,h.get? p.2=some {cls:= .none,data:= .fields #[]}
theorem saysZ_of {xs:List Str} {fb:PySem.W.Frag→List Bool} {fn:List DfR} {tf:TbZ} {h:Heap} (e:obsZ xs fb fn tf h.get?=valZ fn):SaysZ fb fn tf h (frT h.get? (asZ h.get? xs)):=by
 unfold obsZ at e
 have hm:∀p o,h.get? p=some o→emptyTab o=true→(frT h.get? (asZ h.get? xs)).lookup p=none:=fun p o q z=>frT_none q z
 generalize frT h.get? (asZ h.get? xs)=K at e hm ⊢
 have e1:((fb K).all id && ((fn.all fun d=>d.ok K) && tabZ h.get? (tf K) K))=true:=congrArg (fun z:AlZ=>z.1) e
 have e2:fn.map (fun d=>fnZ K (d.at_ K))=fn.map DfR.val:=congrArg (fun z:AlZ=>z.2) e
 obtain ⟨h1,h2⟩:=ba e1
 obtain ⟨h3,h4⟩:=ba h2
 have key:∀p∈tf K,PySem.W.codeHdIn K p.1 p.2=true∧∃o,h.get? p.2=some o∧emptyTab o=true:=fun p hp=>by
  obtain ⟨h5,h6⟩:=ba (List.all_eq_true.mp h4 p hp)
  refine ⟨h5,?_⟩
  cases q:h.get? p.2 with
  | none=>rw [q] at h6;cases h6
  | some o=>rw [q] at h6;exact ⟨o,rfl,h6⟩
 refine ⟨h1,fun i d hi=>⟨?_,List.all_eq_true.mp h3 d (List.mem_of_getElem? hi)⟩,fun p hp=>(key p hp).1,fun p hp=>?_,fun p hp=>?_⟩
 ·have e3:(fn.map fun d=>fnZ K (d.at_ K))[i]?=(fn.map DfR.val)[i]?:=by rw [e2]
  rw [List.getElem?_map,List.getElem?_map,hi] at e3
  exact Option.some.inj e3
 ·obtain ⟨_,o,q,z⟩:=key p hp
  exact hm _ o q z
 ·obtain ⟨_,o,q,z⟩:=key p hp
  rw [q,emptyTab_eq z]
def hookZ (xs:List Str) (fb:PySem.W.Frag→List Bool) (fn:List DfR) (tf:TbZ):PySem.W.Hook where
 α:=AlZ
 obs:=fun s=>obsZ xs fb fn tf s.heap.get?
 val:=fun _=>valZ fn
 says:=fun _ h=>∃K:PySem.W.Frag,K.In h∧SaysZ fb fn tf h K
 of:=fun _ _ e=>⟨_,frT_in,saysZ_of e⟩
 keeps:=fun _ _ _ ⟨K,hK,c⟩ k=>⟨K,PySem.W.Frag.In.keeps hK k,⟨c.facts,c.defs,c.hd,c.out,fun p hp=>k _ _ (c.empty p hp)⟩⟩
theorem obsZ_eq {xs:List Str} {fb:PySem.W.Frag→List Bool} {fn:List DfR} {tf:TbZ} {g:Addr→Option Obj} {s:Shared} (h:∀a,g a=s.heap.get? a):obsZ xs fb fn tf g=(hookZ xs fb fn tf).obs s:=by
 have e:g=s.heap.get?:=funext h
 rw [e] <;> rfl
theorem factZ {l:List Bool} (h:l.all id=true) (i:Nat) {b:Bool} (e:l[i]?=some b:=by rfl):b=true:=List.all_eq_true.mp h b (List.mem_of_getElem? e)
def cdZ (K:PySem.W.Frag) (f:Addr):Addr:=match K.lookup f with
 | some ⟨_,_, .func fd,_⟩=>(match fd.code with
  | .ref c=>c
  | _=>0)
 | _=>0
def tbZ (K:PySem.W.Frag) (f:Addr):Addr×Addr:=(cdZ K f,tabOf K (cdZ K f))
end DL
set_option maxHeartbeats 2000000
namespace DL
open PySem PySem.Spec PyProof.Rows L2 RZ He
def ScrD (ns:List Int) (d:D):Prop:=d= .scr ns∨d= .lst (ns.map D.int)
theorem cutL_map {α β:Type} (f:α→β) (ns:List α) (lo hi:Option Int):cutL (ns.map f) lo hi=(cutL ns lo hi).map f:=by
 unfold cutL
 rw [List.length_map,List.map_take,List.map_drop]
def spLaw (ts:List (Addr×Addr)) (q:Str):SpD:=fun ds M Q _=>∃ns d,ds= [d]∧ScrD ns d∧(∀p∈ts,M p.2=some (.tab q))∧Q (.bl true) M
theorem dvs_ints {K:PySem.W.Frag} {H:Hp} {M:Mem}:∀ns:List Int,DVs K H M (ns.map D.int) (ns.map V.int)
 | []=>rfl
 | n :: ns=>⟨.int n,ns.map V.int,rfl,rfl,dvs_ints ns⟩
theorem hspZ {K:PySem.W.Frag} {H:Hp} {a:Addr} {ns:List Int} {ts:List (Addr×Addr)} {q:Str} (hT:∀p∈ts,H p.2=some (.tbl #[])) (hS:SqL K H a (ns.map V.int)):
  liftSp K (spLaw ts q) [.ref a] H (fun v _=>v= .bl true) (fun _ _ _=>False):=by
 have key:∀d:D,ScrD ns d→DV K H (uni (fun b=>if b∈ts.map (·.2) then some (MO.tab q) else none) fun _=>none) d (.ref a)→liftSp K (spLaw ts q) [.ref a] H (fun v _=>v= .bl true) (fun _ _ _=>False):=fun d hd dv=>by
  refine ⟨[d],fun b=>if b∈ts.map (·.2) then some (MO.tab q) else none,fun _=>none,fun d _=>d= .bl true,fun _ _=>False,⟨fun b o e=>?_,fun b o e=>nomatch e⟩,⟨.ref a, [],rfl,dv,rfl⟩,⟨ns,d,rfl,hd,fun p hp=>if_pos (List.mem_map.mpr ⟨p,hp,rfl⟩),rfl⟩,fun v H' d M' _ _ dv e=>?_,fun _ _ _ _ _ _ _ _ z=>z⟩
  ·have e':(if b∈ts.map (·.2) then some (MO.tab q) else none)=some o:=e
   by_cases hb:b∈ts.map (·.2)
   ·rw [if_pos hb] at e'
    cases e'
    obtain ⟨p,hp,rfl⟩:=List.mem_map.mp hb
    refine ⟨#[],hT p hp,by simp [TriplesOk],fun pos cv hc=>?_⟩
    have hc':codeAmong pos []=some cv:=hc
    simp [codeAmong] at hc'
   ·rw [if_neg hb] at e'
    cases e'
  ·subst e
   exact dv
 rcases hS with (h | h) | h
 ·refine key (.lst (ns.map D.int)) (.inr rfl) ⟨a,ns.map V.int,rfl,h,?_,dvs_ints ns⟩
  show (if a∈ts.map (·.2) then some (MO.tab q) else none)=none
  refine if_neg fun z=>?_
  obtain ⟨p,hp,e⟩:=List.mem_map.mp z
  have:=hT p hp
  rw [e,h] at this
  cases this
 ·exact key (.scr ns) (.inl rfl) ⟨a,rfl, .inl h⟩
 ·exact key (.scr ns) (.inl rfl) ⟨a,rfl, .inr h⟩
theorem fnOk_mkC {P:Program} {w:World} {K:PySem.W.Frag} {mg:Str→Option Value} {base:Heap} {k:Nat} {x qual:Str} {st:Stmt} {f:Addr} {N ps:List Str} {sp:SpD} {wb:WS} {oc:Value} {od an:Option Addr} {osl:Array (Option Value)} {kV doc pm cdv ct:Value}
  (lk:K.lookup f=some ⟨oc,od, .func (PySem.W.fnOf x qual (defArgs st) (defBody st) (defScope st) .none kV doc pm an cdv ct),osl⟩) (hcd:PySem.W.codeIn K cdv qual=true) (S:FnScope N ps (defScope st))
  (body:∀(A:Around) (outer:List Env) (s:Shared) (H:Hp) (E:XK),Room k (A.deeper (envOfC qual (defScope st) s.heap.objs.size f cdv))→
   Takes (cxOf (L2.CX P w) P w K mg base N qual (defScope st) f cdv A outer s H E) (WD E)→
   JSs (cxOf (L2.CX P w) P w K mg base N qual (defScope st) f cdv A outer s H E) (WD E) (defBody st) wb)
  (h:∀ds M Q Xc,sp ds M Q Xc→ds.length=ps.length∧wb {nx:=fun _ M=>Fin Q .non M,rt:=Fin Q,ex:=fun x _ M=>Xc x M} (startD N ds) M):
  FnOk P w K mg base (L2.CX P w) (k + 1) f (PySem.W.fnOf x qual (defArgs st) (defBody st) (defScope st) .none kV doc pm an cdv ct) ps (liftSp K sp):=by
 refine fn_of lk hcd S (fun vs H Q E hh=>?_) (fun A outer s H vs Q E hr hh=>?_)
 ·obtain ⟨ds,M,Fr,Qd,Xd,q1,q2,q3,_⟩:=hh
  rw [q2.len]
  exact (h _ _ _ _ q3).1
 ·obtain ⟨ds,M,Fr,Qd,Xd,q1,q2,q3,l1,l2⟩:=hh
  refine ⟨_,body A outer s H E hr (takes_of rfl rfl rfl rfl),?_⟩
  have fin:∀(v:V) (H':Hp) (d:D) (M':Mem),Ext H (uni M Fr) H' (uni M' Fr)→Rm K H' M' Fr→DV K H' (uni M' Fr) d v→Fin Qd d M'→Q v H':=fun v H' d M' e r dv ⟨d2,M2,fz,q⟩=>
   l1 v H' d2 M2 (e.down (sub_none fz.sub)) (r.sub fz.sub) (fz.dv K H' Fr v r dv) q
  exact ⟨startD N ds,M,Fr,_,⟨q1,Sl.start q2⟩,rfl,(h _ _ _ _ q3).2,⟨fun σ' H' ds' M' e r q=>fin .non H' .non M' e r.1 rfl q,fin,fun _ _ _ _ _ _ z=>z.elim,fun _ _ _ _ _ _ z=>z.elim,fun cls dc σ' H' x ds' M' e r dv q=>l2 cls dc H' x M' e r.1 dv q⟩⟩
theorem law_atZ {l:PySem.W.OpenLaw} {w:World} {mg:Str→Option Value} {h:Heap} {K:PySem.W.Frag} {fb:PySem.W.Frag→List Bool} {fn:List DfR} {tf:TbZ} {d:DfR} {N:List Str} {k:Nat} {wb:WS} {q:Str}
  (X:K.In h) (c:SaysZ fb fn tf h K) (e:fnZ K (d.at_ K)=d.val∧d.ok K=true) (hcl:d.cl= []) (S:FnScope N [("_law_script":Str)] (defScope d.st))
  (hb:∀(kV doc pm cdv ct:Value) (an:Option Addr) (s:Shared) (u:Value),BindsTo s (PySem.W.fnOf d.name d.qual (defArgs d.st) (defBody d.st) (defScope d.st) .none kV doc pm an cdv ct) ⟨[u], []⟩ [(("_law_script":Str),u)])
  (body:∀(base:Heap),(∀p∈tf K,LamX.TabB base mg p.1 p.2)→∀(cdv:Value),cdv= .ref (cdZ K (d.at_ K))→∀(A:Around) (outer:List Env) (s:Shared) (H:Hp) (E:XK),Room k (A.deeper (envOfC d.qual (defScope d.st) s.heap.objs.size (d.at_ K) cdv))→
   Takes (cxOf (L2.CX l.prog w) l.prog w K mg base N d.qual (defScope d.st) (d.at_ K) cdv A outer s H E) (WD E)→
   JSs (cxOf (L2.CX l.prog w) l.prog w K mg base N d.qual (defScope d.st) (d.at_ K) cdv A outer s H E) (WD E) (defBody d.st) wb)
  (hrd:∀ds M Q Xc,spLaw (tf K) q ds M Q Xc→ds.length= [("_law_script":Str)].length∧wb {nx:=fun _ M=>Fin Q .non M,rt:=Fin Q,ex:=fun x _ M=>Xc x M} (startD N ds) M):
  LamX.LawAtS l w K (L2.CX l.prog w) (k + 1) 63 "_law_script" mg (d.at_ K) h:=by
 obtain ⟨kp,oc,od,osl,kV,doc,pm,an,cdv,ct,cl,lk,hcm,hcd⟩:=DfR.ex e.1 e.2
 rw [hcl] at hcm
 have e0:cl= []:=List.map_eq_nil_iff.mp hcm
 subst e0
 have ec:cdv= .ref (cdZ K (d.at_ K)):=by
  obtain ⟨c0,rfl⟩:=codeIn_ref hcd
  unfold cdZ
  rw [lk]
 refine ⟨_,tf K,liftSp K (spLaw (tf K) q),c.empty,c.out,fun p hp=>PySem.W.codeHd_of_K X (c.hd p hp),fun s u=>hb kV doc pm cdv ct an s u,fun H a ns _ _ hT hS=>hspZ hT hS,fun base KB GB TB=>?_⟩
 exact fnOk_mkC (st:=d.st) lk hcd S (fun A outer s H E hr tk=>body base TB cdv ec A outer s H E hr tk) hrd
end DL
set_option maxHeartbeats 2000000
namespace DL
open PySem PySem.Spec PyProof.Rows L2 RZ
section
variable {X : Cx}
end
def fauK (C:Addr) (ns:List Str) (i:Nat) (E:ED) (ds:SD) (d z:D) (M3:Mem):Prop:=match d with
 | .ref a=>optK (moIns (M3 a)) fun p=>p.1=C∧p.2.1=ns∧E.nx ds (mput M3 a (.ins C ns (p.2.2.set i z)))
 | _=>False
def wFau (C:Addr) (ns:List Str) (i:Nat) (wo we:WE) (r:RD2):WS:=fun E ds M=>wo ds M (fun d M1=>insK C ns M1 d fun xs=>optK xs[i]? fun v=>we ds M1 (fun e M2=>r v e M2 fun z M3=>fauK C ns i E ds d z M3) (E.xc ds)) (E.xc ds)
section
variable {X : Cx} {W : WX} {o e : Expr} {wo we : WE} {f : Str} {pos tpos : Pos} {C : Addr} {ns : List Str} {op : Operator} {r : RD2}
end
theorem pFau {C:Addr} {ns:List Str} {i:Nat} {wo we:WE} {r:RD2} {E:ED} {ds:SD} {M:Mem}:wFau C ns i wo we r E ds M=(wo ds M (fun d M1=>insK C ns M1 d fun xs=>optK xs[i]? fun v=>we ds M1 (fun e M2=>r v e M2 fun z M3=>fauK C ns i E ds d z M3) (E.xc ds)) (E.xc ds)):=propext Iff.rfl
def fstK (C:Addr) (ns:List Str) (f:Str) (o:Option Nat) (E:ED) (ds:SD) (v d:D) (M2:Mem):Prop:=match d with
 | .ref a=>optK (moIns (M2 a)) fun p=>p.1=C∧p.2.1=ns∧E.nx ds (mput M2 a (.ins C (putD ns p.2.2 f v o).1 (putD ns p.2.2 f v o).2))
 | _=>False
theorem pFst {C:Addr} {ns:List Str} {f:Str} {o:Option Nat} {we wo:WE} {E:ED} {ds:SD} {M:Mem}:wFst C ns f o we wo E ds M=(we ds M (fun v M1=>wo ds M1 (fun d M2=>fstK C ns f o E ds v d M2) (E.xc ds)) (E.xc ds)):=propext Iff.rfl
theorem fstK_own {C:Addr} {ns:List Str} {f:Str} {o:Option Nat} {E:ED} {ds:SD} {v:D} {a:Addr} {M:Mem} {xs:List D} (h:M a=some (.ins C ns xs)):fstK C ns f o E ds v (.ref a) M=E.nx ds (mput M a (.ins C (putD ns xs f v o).1 (putD ns xs f v o).2)):=by
 have e:moIns (M a)=some (C,ns,xs):=by
  rw [h]
  rfl
 unfold fstK
 dsimp only
 rw [e]
 exact propext ⟨fun z=>z.2.2,fun z=>⟨rfl,rfl,z⟩⟩
theorem pRaise {C:Addr} {fs:List Str} {tag:Str} {wa:WA} {E:ED} {ds:SD} {M:Mem}:wRaise C fs tag wa E ds M=wa ds M (fun xs M1=>xs.length=fs.length∧E.ex (.own C ((("tag":Str)) :: fs.reverse) (.str tag :: xs.reverse)) ds M1) (E.xc ds):=propext Iff.rfl
def FinX (Xc:KX):KX:=fun x M=>∃M',(∀a o,M' a=some o→M a=some o)∧Xc x M'
theorem ExV.down {K:PySem.W.Frag} {H:Hp} {N N':Mem} {cls:Value} {dc:Option Addr} (e:∀a,N a=none→N' a=none):∀{x:Exn},ExV K H N cls dc x→ExV K H N' cls dc x
 | .own C ns ds,h=>by
  obtain ⟨h1,dd,fs,h2,h3,h4,h5,h6⟩:=h
  exact ⟨h1,dd,fs,h2,h3,e _ h4,h5,DVs.down e ds _ h6⟩
 | .bi n,h=>h
theorem FnOk.mkDX {P:Program} {w:World} {K:PySem.W.Frag} {mg:Str→Option Value} {base:Heap} {k:Nat} {x qual:Str} {st:Stmt} {f:Addr} {fd:FuncData} {N ps:List Str} {sp:SpD} {wb:WS}
  (F:Fun K x qual st f fd) (S:FnScope N ps (defScope st))
  (body:∀(cdv:Value) (A:Around) (outer:List Env) (s:Shared) (H:Hp) (E:XK),Room k (A.deeper (envOfC qual (defScope st) s.heap.objs.size f cdv))→
   Takes (cxOf (L2.CX P w) P w K mg base N qual (defScope st) f cdv A outer s H E) (WD E)→
   JSs (cxOf (L2.CX P w) P w K mg base N qual (defScope st) f cdv A outer s H E) (WD E) (defBody st) wb)
  (h:∀ds M Q Xc,sp ds M Q Xc→ds.length=ps.length∧wb {nx:=fun _ M=>Fin Q .non M,rt:=Fin Q,ex:=fun x _ M=>FinX Xc x M} (startD N ds) M):FnOk P w K mg base (L2.CX P w) (k + 1) f fd ps (liftSp K sp):=by
 refine F.okX S (fun vs H Q E hh=>?_) (fun cdv A outer s H vs Q E hr hh=>?_)
 ·obtain ⟨ds,M,Fr,Qd,Xd,q1,q2,q3,_⟩:=hh
  rw [q2.len]
  exact (h _ _ _ _ q3).1
 ·obtain ⟨ds,M,Fr,Qd,Xd,q1,q2,q3,l1,l2⟩:=hh
  refine ⟨_,body cdv A outer s H E hr (takes_of rfl rfl rfl rfl),?_⟩
  have fin:∀(v:V) (H':Hp) (d:D) (M':Mem),Ext H (uni M Fr) H' (uni M' Fr)→Rm K H' M' Fr→DV K H' (uni M' Fr) d v→Fin Qd d M'→Q v H':=fun v H' d M' e r dv ⟨d2,M2,fz,q⟩=>
   l1 v H' d2 M2 (e.down (sub_none fz.sub)) (r.sub fz.sub) (fz.dv K H' Fr v r dv) q
  exact ⟨startD N ds,M,Fr,_,⟨q1,Sl.start q2⟩,rfl,(h _ _ _ _ q3).2,⟨fun σ' H' ds' M' e r q=>fin .non H' .non M' e r.1 rfl q,fin,fun _ _ _ _ _ _ z=>z.elim,fun _ _ _ _ _ _ z=>z.elim,fun cls dc σ' H' x ds' M' e r dv ⟨M2,sub,q⟩=>l2 cls dc H' x M2 (e.down (sub_none sub)) (r.1.sub sub) (ExV.down (sub_none sub) dv) q⟩⟩
end DL
set_option maxHeartbeats 2000000
namespace DL
open PySem PySem.Spec PyProof.Rows L2 RZ
section
variable {X : Cx} {pins : List (Addr × Obj)} {σ : L2.St} {H : Hp} {s : Shared}
end
structure LamD (sc scope:Scope) (N:List Str) (y:Str):Prop where
 kind:scope.kind= .function
 co:scope.isCoroutine=false
 gen:scope.isGenerator=false
 own:∀z∈scope.names,z.2= .local→z.1=y
 nc:∀z∈scope.names,z.2≠ .cell
 ny:y∉N
 ly:scope.names.lookup y=some .local
 free:∀z∈scope.names,z.2= .free→sc.names.lookup z.1=some .cell∨sc.names.lookup z.1=some .free
theorem LamD.has {X:Cx} {scope:Scope} {N:List Str} {y:Str} (L:LamD X.env.scope scope N y) (ok:X.Ok):∀y∈scope.names,y.2= .free→∃c,X.env.cells.lookup y.1=some c:=fun y hy e=>by
 rcases L.free y hy e with k | k
 ·exact ok.has _ (.inl k)
 ·exact ok.has _ (.inr k)
section
open LamX
variable {X : Cx} {pins : List (Addr × Obj)} {σ : L2.St} {H HZ : Hp} {s s1 : Shared}
end
section
variable {X : Cx}
variable {W : WX} {x a y0 : Str} {g c P : Addr} {st : Stmt} {N : List Str} {cs : List Value} {XT : List XRow} {wb : WE} {params : Arguments} {body : Expr} {scope : Scope} {lpos pos p dp : Pos} {j k : Nat} {n : Int} {dk : Nat}
end
end DL
set_option maxHeartbeats 2000000
namespace DL
open PySem PySem.Spec PyProof.Rows L2 RZ He
structure SMet (K:PySem.W.Frag) (C:Addr) (m:Str) (p g:Addr):Prop where
 rd:PySem.W.readsIn K C (.type "type")=true
 ga:PySem.W.specialIn K (.ref C) "__getattribute__"=some (some (.builtin "type.__getattribute__"))
 at_:PySem.W.findCls K (.ref C) (.type "type") m=some (.get (.builtin "staticmethod.__get__") (.ref p) .none (.ref C))
 rc:∃rest,PySem.W.recIn K p "staticmethod"=some (.ref g :: rest)
 kp:PySem.W.keepIn K (.ref g)=true
def spT (sp:SpD):SpD:=fun ds M Q Xc=>∃es,ds= [.tup es]∧sp es M Q Xc
def StarB (fd:FuncData) (y:Str):Prop:=∀us:List Value,bindArgs fd ⟨us, []⟩=(newTuple us >>= fun t=>pure [(y,t)])
structure FnV (P:Program) (w:World) (K:PySem.W.Frag) (mg:Str→Option Value) (base:Heap) (k:Nat) (g:Addr) (sp:SpD):Prop where
 ex:∃(x qual:Str) (st:Stmt) (fd:FuncData) (N:List Str) (y:Str),Fun K x qual st g fd∧FnScope N [y] (defScope st)∧StarB fd y∧
  ∀(cdv:Value) (A:Around) (outer:List Env) (s:Shared) (H:Hp) (vs:List V) (Q:VK) (E:XK),Room k (A.deeper (envOfC qual (defScope st) s.heap.objs.size g cdv))→liftSp K (spT sp) vs H Q E→
   ∃t,PSs (cxOf (L2.CX P w) P w K mg base N qual (defScope st) g cdv A outer s H E) (defBody st) t∧t {nx:=fun _ H'=>Q .non H',rt:=Q} (L2.start N vs) H
structure DefV (K:PySem.W.Frag) (x qual:Str) (st:Stmt) (y:Str) (g:Addr):Prop where
 ex:∃fd,Fun K x qual st g fd∧StarB fd y
theorem FnV.mkAt {P:Program} {w:World} {K:PySem.W.Frag} {mg:Str→Option Value} {base:Heap} {k:Nat} {x qual:Str} {st:Stmt} {f:Addr} {N:List Str} {y:Str} {sp:SpD} {wb:WS}
  (F:DefV K x qual st y f) (S:FnScope N [y] (defScope st))
  (body:∀(cdv:Value) (A:Around) (outer:List Env) (s:Shared) (H:Hp) (E:XK),Room k (A.deeper (envOfC qual (defScope st) s.heap.objs.size f cdv))→
   Takes (cxOf (L2.CX P w) P w K mg base N qual (defScope st) f cdv A outer s H E) (WD E)→
   JSs (cxOf (L2.CX P w) P w K mg base N qual (defScope st) f cdv A outer s H E) (WD E) (defBody st) wb)
  (h:∀ds M Q Xc,sp ds M Q Xc→wb {nx:=fun _ M=>Fin Q .non M,rt:=Fin Q,ex:=fun x _ M=>FinX Xc x M} (startD N [.tup ds]) M):FnV P w K mg base k f sp:=by
 obtain ⟨fd,h1,h2⟩:=F.ex
 refine ⟨x,qual,st,fd,N,y,h1,S,h2,fun cdv A outer s H vs Q E hr hh=>?_⟩
 obtain ⟨ds,M,Fr,Qd,Xd,q1,q2,⟨es,rfl,q3⟩,l1,l2⟩:=hh
 refine ⟨_,body cdv A outer s H E hr (takes_of rfl rfl rfl rfl),?_⟩
 have fin:∀(v:V) (H':Hp) (d:D) (M':Mem),Ext H (uni M Fr) H' (uni M' Fr)→Rm K H' M' Fr→DV K H' (uni M' Fr) d v→Fin Qd d M'→Q v H':=fun v H' d M' e r dv ⟨d2,M2,fz,q⟩=>
  l1 v H' d2 M2 (e.down (sub_none fz.sub)) (r.sub fz.sub) (fz.dv K H' Fr v r dv) q
 exact ⟨startD N [.tup es],M,Fr,_,⟨q1,Sl.start q2⟩,rfl,h _ _ _ _ q3,⟨fun σ' H' ds' M' e r q=>fin .non H' .non M' e r.1 rfl q,fin,fun _ _ _ _ _ _ z=>z.elim,fun _ _ _ _ _ _ z=>z.elim,fun cls dc σ' H' x ds' M' e r dv ⟨M2,sub,q⟩=>l2 cls dc H' x M2 (e.down (sub_none sub)) (r.1.sub sub) (ExV.down (sub_none sub) dv) q⟩⟩
section
variable {X : Cx} {pins : List (Addr × Obj)} {σ : L2.St} {H : Hp} {s : Shared}
end
def wStat (sp:SpD) (wa:WA):WE:=fun ds M Q Xc=>wa ds M (fun xs M1=>xs.length≤sizeLine∧sp xs M1 Q Xc) Xc
theorem pStat {sp:SpD} {wa:WA} {ds:SD} {M:Mem} {Q:KN} {Xc:KX}:wStat sp wa ds M Q Xc=wa ds M (fun xs M1=>xs.length≤sizeLine∧sp xs M1 Q Xc) Xc:=propext Iff.rfl
section
variable {X : Cx} {W : WX} {x m : Str} {C p g : Addr} {k j : Nat} {sp : SpD} {wa : WA} {e : Expr} {es : List Expr} {pos apos q : Pos} {pl : Sem Bool}
end
end DL
set_option maxHeartbeats 2000000
namespace DL
open PySem PySem.Spec PyProof.Rows L2 RZ
def wTryF (P:Addr) (q:Str) (XT:List XRow) (wb:WE):WE:=fun ds M Q _=>M P=some (.tab q)∧wb ds M (Fin fun d M1=>Q (.tup [.str "value",d]) M1) (FinX fun x M1=>excR XT x M1 Q)
theorem pTryF {P:Addr} {q:Str} {XT:List XRow} {wb:WE} {ds:SD} {M:Mem} {Q:KN} {X:KX}:wTryF P q XT wb ds M Q X=(M P=some (.tab q)∧wb ds M (Fin fun d M1=>Q (.tup [.str "value",d]) M1) (FinX fun x M1=>excR XT x M1 Q)):=propext Iff.rfl
section
variable {X : Cx} {W : WX} {x a : Str} {g c P : Addr} {st : Stmt} {N : List Str} {cs : List Value} {XT : List XRow} {wb : WE} {params : Arguments} {body : Expr} {scope : Scope} {lpos pos p : Pos} {j k : Nat}
end
end DL
set_option maxHeartbeats 2000000
namespace DL
open PySem PySem.Spec PyProof.Rows L2 RZ
def rSortD:RDs:=fun ds M Q=>match ds with
 | [.lst ys]=>optK (intsD ys) fun ns=>∀zs:List Int,zs.Perm ns→zs.Pairwise (· ≤ ·)→Q (.lst (zs.map D.int)) M
 | _=>False
def rMaxD:RDs:=fun ds M Q=>match ds with
 | [.lst ys]=>optK (intsD ys) fun ns=>0 < ns.length∧∀m∈ns,(∀y∈ns,y≤m)→Q (.int m) M
 | _=>False
theorem rSort_p {ys:List D} {M:Mem} {Q:KN}:rSortD [.lst ys] M Q=(optK (intsD ys) fun ns=>∀zs:List Int,zs.Perm ns→zs.Pairwise (· ≤ ·)→Q (.lst (zs.map D.int)) M):=propext Iff.rfl
theorem rMax_p {ys:List D} {M:Mem} {Q:KN}:rMaxD [.lst ys] M Q=(optK (intsD ys) fun ns=>0 < ns.length∧∀m∈ns,(∀y∈ns,y≤m)→Q (.int m) M):=propext Iff.rfl
section
variable {X : Cx}
end
end DL
set_option maxHeartbeats 2000000
namespace DL
open PySem PySem.Spec PyProof.Rows L2 RZ
def rLcntB:D→List D→Mem→KN→Prop:=fun d ds M Q=>match d,ds with
 | .lst ys, [.bl k]=>optK (bools ys) fun bs=>Q (.int (bs.count k:Nat)) M
 | _,_=>False
theorem rLcnt_p {ys:List D} {k:Bool} {M:Mem} {Q:KN}:rLcntB (.lst ys) [.bl k] M Q=(optK (bools ys) fun bs=>Q (.int (bs.count k:Nat)) M):=propext Iff.rfl
section
variable {X : Cx}
end
end DL
set_option maxHeartbeats 2000000
namespace DL
open PySem PySem.Spec PyProof.Rows L2 RZ He
structure OwnEq (K:PySem.W.Frag) (C f:Addr):Prop where
 at_:PySem.W.findIn K (.ref C) "__eq__"=some (some (.ref f))
 fn:PySem.W.isFn K (.ref f)=true
 no:∀n∈(["NoneType","bool","int","str","tuple","list","dict"]:List String),PySem.W.notFirst K C (.type n)=true
def eqArg (C:Addr) (ns:List Str) (M:Mem) (e:D):Prop:=(∃n,tyN M e=some n)∨insK C ns M e fun _=>True
def rEqO (C:Addr) (ns:List Str) (sp:SpD):RD2:=fun d e M Q=>insK C ns M d fun _=>eqArg C ns M e∧sp [d,e] M (fun z M1=>∃b,z= .bl b∧Q z M1) XF
theorem rEqO_p {C:Addr} {ns:List Str} {sp:SpD} {d e:D} {M:Mem} {Q:KN}:rEqO C ns sp d e M Q=insK C ns M d fun _=>eqArg C ns M e∧sp [d,e] M (fun z M1=>∃b,z= .bl b∧Q z M1) XF:=propext Iff.rfl
section
variable {X : Cx} {C g : Addr} {ns : List Str} {k j : Nat} {sp : SpD}
end
end DL
set_option maxHeartbeats 2000000
namespace DL
open PySem PySem.Spec PyProof.Rows L2 RZ He
def rReprO (C:Addr) (ns:List Str) (sp:SpD):RDs:=fun ds M Q=>match ds with
 | [d]=>insK C ns M d fun _=>sp [d] M (fun z M1=>∃s,z= .str s∧Q z M1) XF
 | _=>False
theorem rReprO_p {C:Addr} {ns:List Str} {sp:SpD} {d:D} {M:Mem} {Q:KN}:rReprO C ns sp [d] M Q=insK C ns M d fun _=>sp [d] M (fun z M1=>∃s,z= .str s∧Q z M1) XF:=propext Iff.rfl
structure OwnRepr (K:PySem.W.Frag) (C f:Addr):Prop where
 at_:PySem.W.findIn K (.ref C) "__repr__"=some (some (.ref f))
 fn:PySem.W.isFn K (.ref f)=true
section
variable {X : Cx} {C g : Addr} {ns : List Str} {k j : Nat} {sp : SpD}
end
end DL
set_option maxHeartbeats 2000000
namespace DL
open PySem PySem.Spec PyProof.Rows L2 RZ
def rRevV (K:PySem.W.Frag):R2:=fun x y H Q=>y= .int (-1)∧∃(a:Addr) (xs:List V),x= .ref a∧SqL K H a xs∧∀p,H p=none→Q (.ref p) (upd H p (.lst xs.reverse))
def rRevD:RD2:=fun d z M Q=>match d,z with
 | .lst ys, .int i=>i= -1∧Q (.lst ys.reverse) M
 | _,_=>False
theorem rRevD_p {ys:List D} {i:Int} {M:Mem} {Q:KN}:rRevD (.lst ys) (.int i) M Q=(i= -1∧Q (.lst ys.reverse) M):=propext Iff.rfl
theorem Vals.rev:∀{xs:List V} {its:List Value},Vals xs its→Vals xs.reverse its.reverse
 | _,_, .nil=> .nil
 | _,_, .cons r t=>by
  rw [List.reverse_cons,List.reverse_cons]
  exact (Vals.rev t).append (.cons r .nil)
section
variable {X : Cx} {W : WX} {e st : Expr} {te ts : TE} {p2 pos : Pos} {we wst : WE}
theorem pe_revSl (he:PE X e te) (hst:PE X st ts) (hpt:(∀a p:Addr,∃ops,subscripted (.Slice none none (some st) p2) false (.ref a) (.ref p)=operate ops (getItem (.ref a) (.ref p))):=by intro _ _;exact ⟨_,rfl⟩):PE X (.Subscript e (.Slice none none (some st) p2) pos) (tOp (rRevV X.K) te ts):=by
 refine ⟨fun pins s σ H Q I h=>?_⟩
 refine Subscript_ (thn (he.run pins s σ H _ I h) fun v s1 ⟨x,H1,I1,r1,q1⟩=>?_)
 refine wpAny_Slice ?_
 rw [evalPart_none]
 refine wpAny_pure ?_
 refine wpAny_pure ?_
 rw [evalPart_some]
 refine thn (hst.run pins s1 σ H1 _ I1 q1) fun w s2 ⟨y,H2,I2,r2,q2⟩=>?_
 obtain ⟨rfl,a,xs,rfl,hx,q⟩:=q2
 cases r1
 obtain ⟨t,rfl⟩:=r2
 have I3:Inv X pins σ H2 {s2 with heap:=s2.heap.push {cls:= .type "slice",data:= .fields #[.none, .none, .int (-1) t]}}:=I2.kept (t':=s2.toks) fun b ob q=>Heap.get?_push_of_some _ q
 obtain ⟨its,r,ht,hz⟩:=I3.list hx
 have hlen:=r.length
 show wpAny (model X.prog X.w) X.A (subscriptTail e (.Slice none none (some st) p2) (.ref a) (.ref s2.heap.objs.size)) (EP X pins σ Q) X.xe _
 obtain ⟨ops,hops⟩:=hpt a s2.heap.objs.size
 refine tail_any (ops:=ops) (T:="list") ht.isList.typeIs slot_list_getitem.lookup ?_ hops
 refine wpAny_getItem_list_slice ht.isList (Heap.IsSliceOf.new ..) .none .none (.int (-1) t) (by decide) ?_ (by rw [List.size_toArray] <;> omega)
 rw [PySem.W.krv_pick]
 refine ⟨.ref _,_,I3.laid (t':=s2.toks) (o:= .lst xs.reverse) (fun b ob q=>Heap.get?_push_of_some _ q) (Nat.le_refl _) ?_,rfl,q _ (I3.hok.fresh (Nat.le_refl _))⟩
 exact ⟨by rw [List.length_reverse];exact hz,_,0,Vals.rev r,Heap.get?_push_size _ rfl⟩
theorem j_revSl (he:JE X W e we) (hst:JE X W st wst) (hpt:(∀a p:Addr,∃ops,subscripted (.Slice none none (some st) p2) false (.ref a) (.ref p)=operate ops (getItem (.ref a) (.ref p))):=by intro _ _;exact ⟨_,rfl⟩):JE X W (.Subscript e (.Slice none none (some st) p2) pos) (wOp rRevD we wst):=
 pe_mono (pe_revSl he hst hpt) fun σ H Q h=>bindE (wa:=we) (f:=fun x ds M Q Xc=>wst ds M (fun y M2=>rRevD x y M2 Q) Xc) h fun x d H1 h=>bindE (wa:=wst) (f:=fun y _ M Q _=>rRevD d y M Q) h fun y z H2 h=>by
  obtain ⟨d',z',M,F,Qd,R,h1,h2,h3,l⟩:=fin2 h
  unfold rRevD at h3
  split at h3
  ·rename_i ys i
   obtain ⟨a,xs,e1,e2,_,e3⟩:=h1
   subst e1
   cases (show y= .int i from h2)
   obtain ⟨ei,q⟩:=h3
   subst ei
   refine ⟨rfl,a,xs,rfl,SqL.of e2,fun p hp=>?_⟩
   have e':=new_ext R.rel (o:=HO.lst xs.reverse) hp
   exact l _ _ (.lst ys.reverse) M e' (R.new hp) ⟨p,_,rfl,upd_same,R.rel.free hp,DVs.rev (DVs.ext R.rel e' _ _ e3)⟩ q
  ·exact h3.elim
end
end DL
set_option maxHeartbeats 2000000
namespace DL
open PySem PySem.Spec PyProof.Rows L2 RZ
def wMakeK (C:Addr) (sp:SpD) (n m:Nat) (ord:List Nat) (wa wk:WA):WE:=fun ds M Q Xc=>wa ds M (fun xs M1=>wk ds M1 (fun ys M2=>∀a,M2 a=none→sp (gOrd n m ord (.ref a :: xs) ys) (mput M2 a (.ins C [] [])) (fun d M3=>d= .non∧Fin Q (.ref a) M3) Xc) Xc) Xc
theorem pMakeK {C:Addr} {sp:SpD} {n m:Nat} {ord:List Nat} {wa wk:WA} {ds:SD} {M:Mem} {Q:KN} {Xc:KX}:wMakeK C sp n m ord wa wk ds M Q Xc=wa ds M (fun xs M1=>wk ds M1 (fun ys M2=>∀a,M2 a=none→sp (gOrd n m ord (.ref a :: xs) ys) (mput M2 a (.ins C [] [])) (fun d M3=>d= .non∧Fin Q (.ref a) M3) Xc) Xc) Xc:=propext Iff.rfl
section
variable {X : Cx} {W : WX} {x : Str} {p pos : Pos} {e : Expr} {es : List Expr} {kws : List Keyword} {wa wk : WA} {k j n m : Nat} {ord : List Nat} {fI C : Addr} {sp : SpD} {ks : List Str}
end
end DL
set_option maxHeartbeats 2000000
namespace DL
open PySem PySem.Spec PyProof.Rows L2 RZ He
structure OwnIs (K:PySem.W.Frag) (C:Addr):Prop where
 cl:Cls K C
 ha:PySem.W.findIn K (.ref C) "__class__"=some (some (.builtin "object.__class__"))
 hn:PySem.W.specialIn K (.builtin "object.__class__") "__get__"=some (some (.builtin "getset_descriptor.__get__"))
 htk:PySem.W.takesIn K (.builtin "object.__class__")=some true
 hm:PySem.W.mroIn K C (.type "object")=some true
 no:∀n∈ ["NoneType","bool","int","str","tuple","list","dict"],PySem.W.kitOne K (.type n) (.ref C)=some false
def isOK (C:Addr) (ns:List Str) (M:Mem) (d:D) (Q:KN):Option String→Prop
 | some _=>Q (.bl false) M
 | none=>insK C ns M d fun _=>Q (.bl true) M
def rIsO (C:Addr) (ns:List Str):RDs:=fun ds M Q=>match ds with
 | [d, .ref c]=>c=C∧isOK C ns M d Q (tyN M d)
 | _=>False
theorem rIsO_p {C c:Addr} {ns:List Str} {d:D} {M:Mem} {Q:KN}:rIsO C ns [d, .ref c] M Q=(c=C∧isOK C ns M d Q (tyN M d)):=propext Iff.rfl
theorem isOK_s {C:Addr} {ns:List Str} {d:D} {M:Mem} {Q:KN} {n:String}:isOK C ns M d Q (some n)=Q (.bl false) M:=propext Iff.rfl
theorem isOK_n {C:Addr} {ns:List Str} {d:D} {M:Mem} {Q:KN}:isOK C ns M d Q none=insK C ns M d fun _=>Q (.bl true) M:=propext Iff.rfl
section
variable {X : Cx} {C : Addr} {ns : List Str}
end
end DL
set_option maxHeartbeats 2000000
namespace DL
open PySem PySem.Spec PyProof.Rows L2 RZ He
section
variable {K : PySem.W.Frag} {H H' : Hp} {M M' F N N' : Mem} {σ : L2.St} {ds : SD}
theorem Rm.back {a:Addr} {o:MO} (R:Rm K H M (mput F a o)) (hF:F a=none):Rm K H (mput M a o) F∧uni (mput M a o) F=uni M (mput F a o):=by
 have e:uni (mput M a o) F=uni M (mput F a o):=by rw [uni_put hF,uni_frame]
 refine ⟨⟨by rw [e];exact R.rel,fun b u h=>?_⟩,e⟩
 have z:b≠a:=fun z=>by subst z;rw [hF] at h;cases h
 rw [mput_ne z]
 exact R.dj b u (by rw [mput_ne z];exact h)
def wLcU (we:WE) (g:GD) (tt:WT) (te:WE) (vs:List Nat):WE:=fun ds M Q Xc=>we ds M (fun d M1=>∃a items,d= .ref a∧M1 a=some (.lst items)∧lcR g tt te (wipeD ds vs) items [] (mdel M1 a) fun ys M2=>Q (.lst ys) (mput M2 a (.lst items))) Xc
theorem pLcU {we:WE} {g:GD} {tt:WT} {te:WE} {vs:List Nat} {ds:SD} {M:Mem} {Q:KN} {Xc:KX}:wLcU we g tt te vs ds M Q Xc=we ds M (fun d M1=>∃a items,d= .ref a∧M1 a=some (.lst items)∧lcR g tt te (wipeD ds vs) items [] (mdel M1 a) fun ys M2=>Q (.lst ys) (mput M2 a (.lst items))) Xc:=propext Iff.rfl
end
section
variable {X : Cx} {W : WX} {elt tg iter c : Expr} {ifs : List Expr} {scope : Scope} {own : List (Str × Nat)} {pos : Pos} {we : WE} {g : GD} {tt : WT} {te : WE} {is : List Nat}
end
def wEi (w1 w2:WE):WE:=fun ds M Q Xc=>w1 ds M Q Xc∨w2 ds M Q Xc
theorem pEi {w1 w2:WE} {ds:SD} {M:Mem} {Q:KN} {Xc:KX}:wEi w1 w2 ds M Q Xc=(w1 ds M Q Xc∨w2 ds M Q Xc):=propext Iff.rfl
end DL
set_option maxHeartbeats 2000000
namespace DL
open PySem PySem.Spec PyProof.Rows L2 RZ He
def rNeF:RD2:=fun d e M Q=>∃d' M',Fz d M d' M'∧Dat d' 60∧Dat e 60∧Q (.bl (!deq d' e)) M
theorem rNeF_p {d e:D} {M:Mem} {Q:KN}:rNeF d e M Q=∃d' M',Fz d M d' M'∧Dat d' 60∧Dat e 60∧Q (.bl (!deq d' e)) M:=propext Iff.rfl
end DL
set_option maxHeartbeats 2000000
namespace DL
open PySem PySem.Spec PyProof.Rows L2 RZ He
structure FarA (X:Cx) (pins:List (Addr×Obj)) (a:Addr):Prop where
 new:X.s_0.heap.objs.size≤a
 loc:a≠X.env.locals
 cell:∀x c,X.env.cells.lookup x=some c→c≠a
 pin:∀p∈X.pn ++ pins,p.1≠a
 fs:a∉X.fs
section
variable {X : Cx} {pins : List (Addr × Obj)} {σ : L2.St} {H : Hp} {s : Shared} {a c : Addr} {h' : Heap} {t' : Nat} {ys : List V}
end
section
variable {X : Cx} {pins : List (Addr × Obj)} {σ : L2.St} {H : Hp} {s : Shared} {J : Hp → Prop} {q a kS : Addr} {its : List Value} {β : Type} {R : Value → β → Prop} {bs : List β} {A : Around} {E : Value → Shared → Prop} {e1 : Nat}
end
end DL
set_option maxHeartbeats 2000000
namespace DL
open PySem PySem.Spec PyProof.Rows L2 RZ He
open LamX
structure LamP (sc scope:Scope) (N N':List Str) (y:Str):Prop where
 kind:scope.kind= .function
 co:scope.isCoroutine=false
 gen:scope.isGenerator=false
 own:∀z∈scope.names,z.2= .local→z.1=y
 nc:∀z∈scope.names,z.2≠ .cell
 ly:scope.names.lookup y=some .local
 free:∀z∈scope.names,z.2= .free→sc.names.lookup z.1=some .cell∨sc.names.lookup z.1=some .free
 len:N'.length=N.length
 hid:∀(i:Nat) (z:Str),N'[i]?=some z→Vis scope z→N[i]?=some z∧z≠y
theorem LamP.has {X:Cx} {scope:Scope} {N N':List Str} {y:Str} (L:LamP X.env.scope scope N N' y) (ok:X.Ok):∀y∈scope.names,y.2= .free→∃c,X.env.cells.lookup y.1=some c:=fun y hy e=>by
 rcases L.free y hy e with k | k
 ·exact ok.has _ (.inl k)
 ·exact ok.has _ (.inr k)
section
variable {X : Cx} {pins : List (Addr × Obj)} {σ : L2.St} {H HZ : Hp} {s s1 : Shared}
end
end DL
set_option maxHeartbeats 2000000
namespace DL
open PySem PySem.Spec PyProof.Rows L2 RZ He
open LamX
def srtK (P:Addr) (q:Str) (wb:WE) (ds:SD) (items:List D) (M1:Mem) (Q:KN):Prop:=
 M1 P=some (.tab q)∧items.length≤sizeLine∧∃κ:D→Int,(∀d∈items,∀R:KN,R (.int (κ d)) M1→wb (ds ++ [some d]) M1 R XF)∧Q (.lst (items.mergeSort fun x y=>decide (κ x≤κ y))) M1
def lstOf (M:Mem):D→Option (List D)
 | .lst xs=>some xs
 | .ref a=>moSeq (M a)
 | _=>none
def wSortR (P:Addr) (q:Str) (we wb:WE):WE:=fun ds M Q Xc=>we ds M (fun d M1=>∃n:Int,d= .int n∧(0≤n∧n≤16777216)∧srtK P q wb ds (rngD 0 n.toNat) M1 Q) Xc
def wSortL (P:Addr) (q:Str) (we wb:WE):WE:=fun ds M Q Xc=>we ds M (fun d M1=>optK (lstOf M1 d) fun items=>srtK P q wb ds items M1 Q) Xc
theorem pSortR {P:Addr} {q:Str} {we wb:WE} {ds:SD} {M:Mem} {Q:KN} {Xc:KX}:wSortR P q we wb ds M Q Xc=we ds M (fun d M1=>∃n:Int,d= .int n∧(0≤n∧n≤16777216)∧srtK P q wb ds (rngD 0 n.toNat) M1 Q) Xc:=propext Iff.rfl
theorem pSortL {P:Addr} {q:Str} {we wb:WE} {ds:SD} {M:Mem} {Q:KN} {Xc:KX}:wSortL P q we wb ds M Q Xc=we ds M (fun d M1=>optK (lstOf M1 d) fun items=>srtK P q wb ds items M1 Q) Xc:=propext Iff.rfl
section
variable {X : Cx} {W : WX} {pins pinsS : List (Addr × Obj)} {σ : L2.St} {H : Hp} {s : Shared} {c P : Addr} {params : Arguments} {body : Expr} {scope : Scope} {lpos kpos pos p rp rpos : Pos} {y : Str} {N' : List Str} {k : Nat} {wb : WE} {ds : SD} {M F : Mem} {Qd : KN} {Q : VK} {items : List D} {xv : Value}
def wLsR (we:WE):WE:=fun ds M Q Xc=>we ds M (fun d M1=>∃n:Int,d= .int n∧(0≤n∧n≤16777216)∧Q (.lst (rngD 0 n.toNat)) M1) Xc
theorem pLsR {we:WE} {ds:SD} {M:Mem} {Q:KN} {Xc:KX}:wLsR we ds M Q Xc=we ds M (fun d M1=>∃n:Int,d= .int n∧(0≤n∧n≤16777216)∧Q (.lst (rngD 0 n.toNat)) M1) Xc:=propext Iff.rfl
end
end DL
set_option maxHeartbeats 1000000
namespace DL
open PySem PySem.Spec PyProof.Rows
abbrev badK:Resume→Sem PySem.Fin:=fun _=> .unsupported "asleep"
def badG:GenState→GenState
 | .suspended _ l c p fs cl=> .suspended badK l c p fs cl
 | x=>x
def isSusp:GenState→Bool
 | .suspended ..=>true
 | _=>false
theorem bad_seen (x:GenState):(badG x).seen=x.seen:=by cases x <;> rfl
theorem bad_bare (x:GenState):(badG x).bare=x.bare:=by cases x <;> rfl
abbrev Slp:=Nat→Option GenState
def upG (B:Slp) (G:Array GenState):Array GenState:=G.mapIdx fun i x=>(B i).getD x
def upS (B:Slp) (s:Shared):Shared:={s with gens:=upG B s.gens}
theorem upG_size (B:Slp) (G:Array GenState):(upG B G).size=G.size:=by unfold upG;simp
theorem upG_get (B:Slp) (G:Array GenState) (i:Nat):(upG B G)[i]?=G[i]?.map fun x=>(B i).getD x:=by unfold upG;simp
structure Asl (B:Slp) (G:Array GenState):Prop where
 slp:∀i gs,B i=some gs→isSusp gs=true∧G[i]?=some (badG gs)
 clean:∀i k l c p fs cl,B i=none→G[i]?=some (.suspended k l c p fs cl)→splitAtGen fs=none
theorem no_runs {M:Model} {Γ:PySem.Ctx} {p:Pos} {w:String} {t:Sem PySem.Fin} {fs:List Frame} {s s':Shared} {e:End} (h:Runs M Γ p t fs s e s'):t= .unsupported w→False:=by
 induction h with
 | segRet h1 h2 ih1 ih2=>exact ih1
 | segGen h1 h2 ih1 ih2=>exact ih1
 | segSuspOut h0 h1 ih=>exact ih
 | segSuspGen h0 h1 hq h2 ih1 ih2=>exact ih1
 | _=>intro e;cases e
theorem split_ret {k:Result→Sem PySem.Fin} {h:Option Value} {g:Bool} {l:List Value} {c:Code} {p:Pos} {kp:List Value} {fs:List Frame} (e:splitAtGen (.ret k h g l c p kp :: fs)=none):splitAtGen fs=none:=by
 have e:(splitAtGen fs).map _=none:=e
 cases q:splitAtGen fs with
 | none=>rfl
 | some x=>rw [q] at e;cases e
theorem split_app:∀{as bs:List Frame},splitAtGen as=none→splitAtGen bs=none→splitAtGen (as ++ bs)=none
 | [],_,_,h=>h
 | .gen .. :: _,_,h,_=>by cases h
 | .ret k h g l c p kp :: as,bs,h1,h2=>by
  have ih:=split_app (split_ret h1) h2
  show (splitAtGen (as ++ bs)).map _=none
  rw [ih]
  rfl
section
variable {M : Model} {B : Slp}
theorem up_push {G:Array GenState} {x:GenState} (h:Asl B G):upG B (G.push x)=(upG B G).push x:=by
 have hb:B G.size=none:=by
  cases e:B G.size with
  | none=>rfl
  | some gs=>
   have:=(h.slp _ _ e).2
   rw [Array.getElem?_eq_none (Nat.le_refl _)] at this
   cases this
 refine Array.ext_getElem? fun i=>?_
 rw [upG_get,Array.getElem?_push,Array.getElem?_push,upG_size]
 by_cases hi:i=G.size
 ·subst hi
  rw [if_pos rfl,if_pos rfl,Option.map_some,hb]
  rfl
 ·rw [if_neg hi,if_neg hi,upG_get]
theorem up_set {G:Array GenState} {g:Nat} {x:GenState} (hb:B g=none):upG B (G.setIfInBounds g x)=(upG B G).setIfInBounds g x:=by
 refine Array.ext_getElem? fun i=>?_
 rw [upG_get,Array.getElem?_setIfInBounds,Array.getElem?_setIfInBounds,upG_size]
 by_cases hi:g=i
 ·subst hi
  rw [if_pos rfl,if_pos rfl]
  by_cases hl:g < G.size
  ·simp only [if_pos hl,Option.map_some,hb]
   rfl
  ·simp only [if_neg hl]
   rfl
 ·rw [if_neg hi,if_neg hi,upG_get]
theorem upS_set {s:Shared} {g:Nat} {x:GenState} (hb:B g=none):upS B (s.setGen g x)=(upS B s).setGen g x:=by
 unfold upS Shared.setGen
 rw [up_set hb]
theorem asl_push {G:Array GenState} {c:Code} (h:Asl B G):Asl B (G.push (.fresh c)):=by
 refine ⟨fun i gs e=>⟨(h.slp i gs e).1,?_⟩,fun i k l c' p fs cl e q=>?_⟩
 ·have q:=(h.slp i gs e).2
  have hi:i < G.size:=(Array.getElem?_eq_some_iff.mp q).1
  rw [Array.getElem?_push,if_neg (by omega)]
  exact q
 ·rw [Array.getElem?_push] at q
  by_cases hi:i=G.size
  ·rw [if_pos hi] at q
   cases q
  ·rw [if_neg hi] at q
   exact h.clean i k l c' p fs cl e q
theorem asl_set {G:Array GenState} {g:Nat} {x:GenState} (h:Asl B G) (hb:B g=none) (hx:∀k l c p fs cl,x= .suspended k l c p fs cl→splitAtGen fs=none):Asl B (G.setIfInBounds g x):=by
 refine ⟨fun i gs e=>⟨(h.slp i gs e).1,?_⟩,fun i k l c' p fs cl e q=>?_⟩
 ·have hne:g≠i:=fun z=>by subst z;rw [hb] at e;cases e
  rw [Array.getElem?_setIfInBounds,if_neg hne]
  exact (h.slp i gs e).2
 ·rw [Array.getElem?_setIfInBounds] at q
  by_cases hi:g=i
  ·rw [if_pos hi] at q
   by_cases hl:g < G.size
   ·rw [if_pos hl] at q
    cases q
    exact hx _ _ _ _ _ _ rfl
   ·rw [if_neg hl] at q
    cases q
  ·rw [if_neg hi] at q
   exact h.clean i k l c' p fs cl e q
def EndOk:End→Prop
 | .ret _=>True
 | .susp _ _ _ _ _ _ fs=>splitAtGen fs=none
theorem end_clean {e:End} (h:EndOk e):∀k l c p fs cl,e.genState= .suspended k l c p fs cl→splitAtGen fs=none:=fun k l c p fs cl q=>by
 cases e with
 | ret r=>cases q
 | susp v g l' k' c' p' fs'=>
  have q:GenState.suspended k' l' c' p' fs' (g || fs'.any Frame.guarded)= .suspended k l c p fs cl:=q
  cases q
  exact h
theorem get_bad {G:Array GenState} (h:Asl B G) {g:Nat} {st:GenState} (e:G[g]?=some st) (hs:isSusp st=false):B g=none:=by
 cases q:B g with
 | none=>rfl
 | some gs=>
  obtain ⟨h1,h2⟩:=h.slp g gs q
  rw [e] at h2
  exfalso
  cases gs <;> first | cases h1 | skip
  have h2:=Option.some.inj h2
  subst h2
  cases hs
theorem up_at {s:Shared} {g:Nat} {st:GenState} (e:s.gens[g]?=some st) (hb:B g=none):(upS B s).gens[g]?=some st:=by
 show (upG B s.gens)[g]?=_
 rw [upG_get,e,Option.map_some,hb]
 rfl
theorem up_seen {s:Shared} {g:Nat} {st:GenState} (a:Asl B s.gens) (hg:s.gens[g]?=some st):∃st',(upS B s).gens[g]?=some st'∧st'.seen=st.seen:=by
 cases q:B g with
 | none=>exact ⟨st,up_at hg q,rfl⟩
 | some gs=>
  obtain ⟨h1,h2⟩:=a.slp g gs q
  rw [hg] at h2
  have h2:=Option.some.inj h2
  refine ⟨gs,?_,by rw [h2,bad_seen]⟩
  show (upG B _)[g]?=_
  rw [upG_get,hg,Option.map_some,q]
  rfl
theorem upS_push {s:Shared} {c:Code} (a:Asl B s.gens):upS B {s with gens:=s.gens.push (.fresh c)}={upS B s with gens:=(upS B s).gens.push (.fresh c)}:=by
 unfold upS
 rw [up_push a]
theorem runs_sleep {Γ:PySem.Ctx} {p:Pos} {t:Sem PySem.Fin} {fs:List Frame} {s s':Shared} {e:End} (h:Runs M Γ p t fs s e s'):splitAtGen fs=none→Asl B s.gens→Runs M Γ p t fs (upS B s) e (upS B s')∧Asl B s'.gens∧EndOk e:=by
 induction h with
 | done=>exact fun _ a=>⟨.done,a,trivial⟩
 | raise=>exact fun _ a=>⟨.raise,a,trivial⟩
 | again hq h ih=>exact fun _ a=>let ⟨r,x,y⟩:=ih rfl a;⟨.again hq r,x,y⟩
 | rule h ih=>exact fun _ a=>let ⟨r,x,y⟩:=ih rfl a;⟨.rule r,x,y⟩
 | «at» h ih=>exact fun _ a=>let ⟨r,x,y⟩:=ih rfl a;⟨.at r,x,y⟩
 | load ho h ih=>exact fun _ a=>let ⟨r,x,y⟩:=ih rfl a;⟨.load ho r,x,y⟩
 | update ho h ih=>exact fun _ a=>let ⟨r,x,y⟩:=ih rfl a;⟨.update ho r,x,y⟩
 | loadIfAlive h ih=>exact fun _ a=>let ⟨r,x,y⟩:=ih rfl a;⟨.loadIfAlive r,x,y⟩
 | point h ih=>exact fun _ a=>let ⟨r,x,y⟩:=ih rfl a;⟨.point r,x,y⟩
 | alloc h ih=>exact fun _ a=>let ⟨r,x,y⟩:=ih rfl a;⟨.alloc r,x,y⟩
 | fresh h ih=>exact fun _ a=>let ⟨r,x,y⟩:=ih rfl a;⟨.fresh r,x,y⟩
 | ask h ih=>exact fun _ a=>let ⟨r,x,y⟩:=ih rfl a;⟨.ask r,x,y⟩
 | choose hn h ih=>exact fun _ a=>let ⟨r,x,y⟩:=ih rfl a;⟨.choose hn r,x,y⟩
 | os h ih=>exact fun _ a=>let ⟨r,x,y⟩:=ih rfl a;⟨.os r,x,y⟩
 | handled h ih=>exact fun _ a=>let ⟨r,x,y⟩:=ih rfl a;⟨.handled r,x,y⟩
 | stack h ih=>exact fun _ a=>let ⟨r,x,y⟩:=ih rfl a;⟨.stack r,x,y⟩
 | thread h ih=>exact fun _ a=>let ⟨r,x,y⟩:=ih rfl a;⟨.thread r,x,y⟩
 | genState hg h ih=>
  intro _ a
  obtain ⟨r,x,y⟩:=ih rfl a
  obtain ⟨st',h1,h2⟩:=up_seen a hg
  exact ⟨.genState h1 (by rw [h2];exact r),x,y⟩
 | newGen h ih=>
  intro _ a
  obtain ⟨r,x,y⟩:=ih rfl (asl_push a)
  refine ⟨.newGen ?_,x,y⟩
  rw [upS_push a] at r
  rw [show (upS B _).gens.size=_ from upG_size B _]
  exact r
 | call h1 h2 ih1 ih2=>
  intro _ a
  obtain ⟨r1,x1,_⟩:=ih1 rfl a
  obtain ⟨r2,x2,y2⟩:=ih2 rfl x1
  exact ⟨.call r1 r2,x2,y2⟩
 | callSusp h ih=>
  intro _ a
  obtain ⟨r,x,y⟩:=ih rfl a
  exact ⟨.callSusp r,x,split_app y rfl⟩
 | yield=>exact fun _ a=>⟨.yield,a,rfl⟩
 | resumeFresh hg h1 hq h2 ih1 ih2=>
  intro _ a
  have hb:=get_bad a hg rfl
  obtain ⟨r1,x1,y1⟩:=ih1 rfl (asl_set a hb fun _ _ _ _ _ _ z=>by cases z)
  obtain ⟨r2,x2,y2⟩:=ih2 rfl (asl_set x1 hb (end_clean y1))
  rw [upS_set hb] at r1 r2
  exact ⟨.resumeFresh (up_at hg hb) r1 hq r2,x2,y2⟩
 | @resumeSuspended Γ p g r l k s k₀ l₀ c₀ p₀ fs cl e₁ s₁ e s' hg h1 hq h2 ih1 ih2=>
  intro _ a
  cases q:B g with
  | some gs=>
   exfalso
   obtain ⟨q1,q2⟩:=a.slp g gs q
   rw [hg] at q2
   cases gs <;> first | cases q1 | skip
   have q2:=Option.some.inj q2
   have q3:k₀=badK:=by
    have:=q2
    unfold badG at this
    injection this
   exact no_runs h1 (w:="asleep") (by rw [q3])
  | none=>
   have cl0:=a.clean g _ _ _ _ _ _ q hg
   obtain ⟨r1,x1,y1⟩:=ih1 cl0 (asl_set a q fun _ _ _ _ _ _ z=>by cases z)
   obtain ⟨r2,x2,y2⟩:=ih2 rfl (asl_set x1 q (end_clean y1))
   rw [upS_set q] at r1 r2
   exact ⟨.resumeSuspended (up_at hg q) r1 hq r2,x2,y2⟩
 | resumeJustStarted hg hv h ih=>
  intro _ a
  obtain ⟨r,x,y⟩:=ih rfl a
  exact ⟨.resumeJustStarted (up_at hg (get_bad a hg rfl)) hv r,x,y⟩
 | resumeThrowFresh hg h ih=>
  intro _ a
  have hb:=get_bad a hg rfl
  obtain ⟨r,x,y⟩:=ih rfl (asl_set a hb fun _ _ _ _ _ _ z=>by cases z)
  rw [upS_set hb] at r
  exact ⟨.resumeThrowFresh (up_at hg hb) r,x,y⟩
 | resumeRunning hg h ih=>
  intro _ a
  obtain ⟨r,x,y⟩:=ih rfl a
  exact ⟨.resumeRunning (up_at hg (get_bad a hg rfl)) r,x,y⟩
 | resumeFinished hg h ih=>
  intro _ a
  obtain ⟨r,x,y⟩:=ih rfl a
  exact ⟨.resumeFinished (up_at hg (get_bad a hg rfl)) r,x,y⟩
 | segRet h1 h2 ih1 ih2=>
  intro hs a
  obtain ⟨r1,x1,_⟩:=ih1 rfl a
  obtain ⟨r2,x2,y2⟩:=ih2 (split_ret hs) x1
  exact ⟨.segRet r1 r2,x2,y2⟩
 | segGen h1 h2 ih1 ih2=>exact fun hs _=>by cases hs
 | segSuspOut h0 h1 ih=>
  intro hs a
  obtain ⟨r,x,y⟩:=ih rfl a
  exact ⟨.segSuspOut h0 r,x,split_app y hs⟩
 | segSuspGen h0 h1 hq h2 ih1 ih2=>exact fun hs _=>by rw [hs] at h0;cases h0
end
end DL
set_option maxHeartbeats 1000000
namespace DL
open PySem PySem.Spec PyProof.Rows L2
open Sem (wp)
section
variable {M : Model} {B : Slp}
theorem wakes_sleep {Γ:PySem.Ctx} {p:Pos} {g:Nat} {r:Resume} {s s':Shared} {res:GenResult} (h:Wakes M Γ p g r s res s') (a:Asl B s.gens):Wakes M Γ p g r (upS B s) res (upS B s')∧Asl B s'.gens:=by
 unfold Wakes at h
 cases hg:s.gens[g]? with
 | none=>rw [hg] at h;exact h.elim
 | some st=>
  rw [hg] at h
  cases st with
  | fresh c=>
   have hb:=get_bad a hg rfl
   cases r with
   | send v=>
    by_cases hv:v= .none
    ·subst hv
     obtain ⟨e₁,s₁,h1,hq,rfl,rfl⟩:=h
     obtain ⟨r1,x1,y1⟩:=runs_sleep h1 rfl (asl_set a hb fun _ _ _ _ _ _ z=>by cases z)
     rw [upS_set hb] at r1
     refine ⟨?_,asl_set x1 hb (end_clean y1)⟩
     unfold Wakes
     rw [up_at hg hb]
     exact ⟨e₁,_,r1,hq,rfl,upS_set hb⟩
    ·have h2:res= .justStarted∧s'=s:=by cases v <;> first | exact absurd rfl hv | exact h
     obtain ⟨rfl,rfl⟩:=h2
     exact ⟨Sem.wakes_justStarted M Γ (up_at hg hb) hv,a⟩
   | throw x=>
    obtain ⟨rfl,rfl⟩:=h
    refine ⟨?_,asl_set a hb fun _ _ _ _ _ _ z=>by cases z⟩
    unfold Wakes
    rw [up_at hg hb]
    exact ⟨rfl,upS_set hb⟩
  | suspended k₀ l₀ c₀ p₀ fs cl=>
   obtain ⟨e₁,s₁,h1,hq,rfl,rfl⟩:=h
   cases q:B g with
   | some gs=>
    exfalso
    obtain ⟨q1,q2⟩:=a.slp g gs q
    rw [hg] at q2
    cases gs <;> first | cases q1 | skip
    have q2:=Option.some.inj q2
    have q3:k₀=badK:=by
     have:=q2
     unfold badG at this
     injection this
    exact no_runs h1 (w:="asleep") (by rw [q3])
   | none=>
    obtain ⟨r1,x1,y1⟩:=runs_sleep h1 (a.clean g _ _ _ _ _ _ q hg) (asl_set a q fun _ _ _ _ _ _ z=>by cases z)
    rw [upS_set q] at r1
    refine ⟨?_,asl_set x1 q (end_clean y1)⟩
    unfold Wakes
    rw [up_at hg q]
    exact ⟨e₁,_,r1,hq,rfl,upS_set q⟩
  | running=>
   obtain ⟨rfl,rfl⟩:=h
   refine ⟨?_,a⟩
   unfold Wakes
   rw [up_at hg (get_bad a hg rfl)]
   exact ⟨rfl,rfl⟩
  | finished=>
   obtain ⟨rfl,rfl⟩:=h
   refine ⟨?_,a⟩
   unfold Wakes
   rw [up_at hg (get_bad a hg rfl)]
   exact ⟨rfl,rfl⟩
def UpQ {α:Type} (B:Slp) (Q:α→Pos→Shared→Prop):α→Pos→Shared→Prop:=fun a p s'=>∃s0,Asl B s0.gens∧s'=upS B s0∧Q a p s0
theorem wp_sleep {α:Type} {Γ:PySem.Ctx} (t:Sem α):∀(Q:α→Pos→Shared→Prop) (E:Value→Pos→Shared→Prop) (p:Pos) (s:Shared),Asl B s.gens→wp M Γ t Q E p s→wp M Γ t (UpQ B Q) (UpQ B E) p (upS B s):=by
 induction t with
 | pure a=>intro Q E p s a h;exact ⟨s,a,rfl,h⟩
 | raise e=>intro Q E p s a h;exact ⟨s,a,rfl,h⟩
 | unsupported _=>intro Q E p s _ h;exact h
 | finish _=>intro Q E p s _ h;exact h
 | rule _ k ih=>intro Q E p s a h;exact ih () Q E p s a h
 | «at» p' k ih=>intro Q E p s a h;exact ih () Q E p' s a h
 | load x _ k ih=>intro Q E p s a h;obtain ⟨o,ho,h⟩:=h;exact ⟨o,ho,ih o Q E p s a h⟩
 | update x _ f k ih=>intro Q E p s a h;exact ⟨h.1,ih () Q E p {s with heap:=s.heap.update x f} a h.2⟩
 | loadIfAlive x k ih=>intro Q E p s a h;exact ih _ Q E p s a h
 | point _ k ih=>intro Q E p s a h;exact ih () Q E p s a h
 | register _ _=>intro Q E p s _ h;exact h
 | alloc o k ih=>intro Q E p s a h;exact ih _ Q E p {s with heap:=s.heap.push o} a h
 | fresh k ih=>intro Q E p s a h;exact ih _ Q E p {s with toks:=s.toks + 1} a h
 | ask k ih=>intro Q E p s a h;exact ih _ Q E p s a h
 | choose src m k ih=>intro Q E p s a h;exact ⟨h.1,ih _ Q E p {s with drawn:=s.drawn.bump src} a h.2⟩
 | os q _ k ih=>intro Q E p s a h;exact ih _ Q E p {s with os:=(Os.step s.os q).1} a h
 | call c hd _ _ k ih=>
  intro Q E p s a h
  obtain ⟨r,s',hr,h⟩:=h
  obtain ⟨r1,x1,_⟩:=runs_sleep hr rfl a
  exact ⟨r,_,r1,ih r Q E p s' x1 h⟩
 | handled own k ih=>intro Q E p s a h;exact ih _ Q E p s a h
 | genState g k ih=>
  intro Q E p s a h
  obtain ⟨st,hs,h⟩:=h
  obtain ⟨st',h1,h2⟩:=up_seen a hs
  exact ⟨st',h1,by rw [h2];exact ih _ Q E p s a h⟩
 | newGen c k ih=>
  intro Q E p s a h
  have r:=ih _ Q E p {s with gens:=s.gens.push (.fresh c)} (asl_push a) h
  rw [upS_push a] at r
  show wp M Γ (k (upS B s).gens.size) _ _ _ _
  rw [show (upS B s).gens.size=s.gens.size from upG_size B _]
  exact r
 | resume g r _ k ih=>
  intro Q E p s a h
  obtain ⟨res,s',hw,h⟩:=h
  obtain ⟨w1,x1⟩:=wakes_sleep hw a
  exact ⟨res,_,w1,ih res Q E p s' x1 h⟩
 | yield _ _ _ _=>intro Q E p s _ h;exact h
 | stack k ih=>intro Q E p s a h;exact ih _ Q E p s a h
 | fork _ _=>intro Q E p s _ h;exact h
 | thread k ih=>intro Q E p s a h;exact ih _ Q E p s a h
 | await _ _ _ _ _=>intro Q E p s _ h;exact h
end
def dnS (s:Shared):Shared:={s with gens:=s.gens.map badG}
def slpOf (s:Shared):Slp:=fun i=>match s.gens[i]? with
 | some gs=>if isSusp gs=true then some gs else none
 | none=>none
theorem slpOf_some {s:Shared} {i:Nat} {gs:GenState} (h:slpOf s i=some gs):s.gens[i]?=some gs∧isSusp gs=true:=by
 unfold slpOf at h
 split at h
 ·rename_i gs' e
  by_cases hs:isSusp gs'=true
  ·rw [if_pos hs] at h
   cases h
   exact ⟨e,hs⟩
  ·rw [if_neg hs] at h
   cases h
 ·cases h
theorem asl_dn (s:Shared):Asl (slpOf s) (dnS s).gens:=by
 refine ⟨fun i gs e=>?_,fun i k l c p fs cl e q=>?_⟩
 ·obtain ⟨h1,h2⟩:=slpOf_some e
  refine ⟨h2,?_⟩
  show (s.gens.map badG)[i]?=_
  rw [Array.getElem?_map,h1]
  rfl
 ·exfalso
  have q:(s.gens.map badG)[i]?=_:=q
  rw [Array.getElem?_map] at q
  cases hi:s.gens[i]? with
  | none=>rw [hi] at q;cases q
  | some gs=>
   rw [hi] at q
   cases gs with
   | suspended k' l' c' p' fs' cl'=>
    unfold slpOf at e
    rw [hi] at e
    cases e
   | _=>cases q
theorem up_dn (s:Shared):upS (slpOf s) (dnS s)=s:=by
 have e:upG (slpOf s) (s.gens.map badG)=s.gens:=by
  refine Array.ext_getElem? fun i=>?_
  rw [upG_get,Array.getElem?_map]
  cases hi:s.gens[i]? with
  | none=>rfl
  | some gs=>
   show some (((slpOf s) i).getD (badG gs))=some gs
   unfold slpOf
   rw [hi]
   cases gs <;> rfl
 show ({s with gens:=upG (slpOf s) (s.gens.map badG)}:Shared)=s
 rw [e]
structure KeptG (s s0 s':Shared):Prop where
 eq:∃G,s'={s0 with gens:=G}
 slp:∀(i:Nat) (gs:GenState),s.gens[i]?=some gs→isSusp gs=true→s'.gens[i]?=some gs
 bare:AllBare s0.gens→AllBare s.gens→AllBare s'.gens
 up:∃B,Asl B s0.gens∧s'=upS B s0∧∀i gs,B i=some gs→s.gens[i]?=some gs
theorem keptG_of {s s0:Shared} (a:Asl (slpOf s) s0.gens):KeptG s s0 (upS (slpOf s) s0) where
 eq:=⟨_,rfl⟩
 slp:=fun i gs h1 h2=>by
  have e:slpOf s i=some gs:=by
   unfold slpOf
   rw [h1]
   show (if isSusp gs=true then some gs else none)=some gs
   rw [if_pos h2]
  show (upG _ _)[i]?=_
  rw [upG_get,(a.slp i gs e).2,Option.map_some,e]
  rfl
 bare:=fun b0 b1 y hy=>by
  obtain ⟨i,hi,e⟩:=Array.mem_iff_getElem.mp hy
  have q:(upS (slpOf s) s0).gens[i]?=some y:=by rw [Array.getElem?_eq_getElem hi,e]
  have q:(upG (slpOf s) s0.gens)[i]?=some y:=q
  rw [upG_get] at q
  cases h0:s0.gens[i]? with
  | none=>rw [h0] at q;cases q
  | some z=>
   rw [h0,Option.map_some] at q
   have hz:z∈s0.gens:=Array.mem_iff_getElem?.mpr ⟨i,h0⟩
   cases hb:slpOf s i with
   | none=>
    rw [hb] at q
    cases q
    exact b0 _ hz
   | some gs=>
    rw [hb] at q
    cases q
    obtain ⟨h1,_⟩:=slpOf_some hb
    exact b1 _ (Array.mem_iff_getElem?.mpr ⟨i,h1⟩)
 up:=⟨_,a,rfl,fun i gs e=>(slpOf_some e).1⟩
theorem dn_bare {s:Shared} (h:AllBare s.gens):AllBare (dnS s).gens:=fun y hy=>by
 obtain ⟨x,hx,rfl⟩:=Array.mem_map.mp hy
 rw [bad_bare]
 exact h x hx
theorem wpAny_sleep {α:Type} {M:Model} {A:Around} {t:Sem α} {Q:α→Shared→Prop} {E:Value→Shared→Prop} {s:Shared} (h:wpAny M A t Q E (dnS s)):
  wpAny M A t (fun a s'=>∃s0,KeptG s s0 s'∧Q a s0) (fun e s'=>∃s0,KeptG s s0 s'∧E e s0) s:=by
 intro Γ p hΓ
 have r:=wp_sleep (B:=slpOf s) t _ _ p (dnS s) (asl_dn s) (h Γ p hΓ)
 rw [up_dn] at r
 exact Sem.wp_mono M Γ t (fun a p' s' ⟨s0,a0,e,q⟩=>⟨s0,by rw [e];exact keptG_of a0,q⟩) (fun a p' s' ⟨s0,a0,e,q⟩=>⟨s0,by rw [e];exact keptG_of a0,q⟩) p s r
section
variable {X : Cx} {pins : List (Addr × Obj)} {σ : L2.St} {H : Hp} {s s0 s' : Shared}
theorem Inv.gens {G:Array GenState} (I:Inv X pins σ H s) (h:AllBare G):Inv X pins σ H {s with gens:=G}:=⟨I.ok,I.os,h,I.base,I.loc,I.cell,I.free,I.freeC,I.pin,I.hok,I.len⟩
theorem Inv.dn (I:Inv X pins σ H s):Inv X pins σ H (dnS s):=Inv.gens I (dn_bare I.bare)
theorem Inv.up (I:Inv X pins σ H s0) (k:KeptG s s0 s') (hb:AllBare s.gens):Inv X pins σ H s':=by
 obtain ⟨⟨G,rfl⟩,_,h,_⟩:=k
 exact Inv.gens I (h I.bare hb)
end
end DL
set_option maxHeartbeats 1000000
namespace DL
open PySem PySem.Spec PyProof.Rows L2 GenW
section
variable {M : Model} {A : Around} {R : GenEnd} {Y : Protocol} {n : Nat} {s₀ : Shared} {c : Code} {fs : List Frame} {s : Shared} {env : Env} {K : Flow → Sem PySem.Fin} {J : Value → Sem PySem.Fin} {gd : Bool → Bool} {lv : List Value → List Value}
end
section
variable {prog : Program} {w : World} {A : Around} {R : GenEnd} {Y : Protocol} {n : Nat} {s₀ : Shared} {fs : List Frame} {s : Shared} {env : Env}
end
end DL
set_option maxHeartbeats 4000000
namespace DL
open PySem PySem.Spec PyProof.Rows L2 GenW
section
variable {M : Model}
theorem runs_det {Γ:PySem.Ctx} {p:Pos} {t:Sem PySem.Fin} {fs:List Frame} {s s':Shared} {e:End} (h:Runs M Γ p t fs s e s'):∀(e2:End) (s2:Shared),Runs M Γ p t fs s e2 s2→e2=e∧s2=s':=by
 induction h with
 | done=>intro e2 s2 h2;cases h2;exact ⟨rfl,rfl⟩
 | raise=>intro e2 s2 h2;cases h2;exact ⟨rfl,rfl⟩
 | again hq h ih=>intro e2 s2 h2;cases h2 with | again _ h=>exact ih _ _ h
 | rule h ih=>intro e2 s2 h2;cases h2 with | rule h=>exact ih _ _ h
 | «at» h ih=>intro e2 s2 h2;cases h2 with | «at» h=>exact ih _ _ h
 | load ho h ih=>
  intro e2 s2 h2
  cases h2 with
  | load ho2 h=>
   rw [ho] at ho2
   cases ho2
   exact ih _ _ h
 | update ho h ih=>intro e2 s2 h2;cases h2 with | update _ h=>exact ih _ _ h
 | loadIfAlive h ih=>intro e2 s2 h2;cases h2 with | loadIfAlive h=>exact ih _ _ h
 | point h ih=>intro e2 s2 h2;cases h2 with | point h=>exact ih _ _ h
 | alloc h ih=>intro e2 s2 h2;cases h2 with | alloc h=>exact ih _ _ h
 | fresh h ih=>intro e2 s2 h2;cases h2 with | fresh h=>exact ih _ _ h
 | ask h ih=>intro e2 s2 h2;cases h2 with | ask h=>exact ih _ _ h
 | choose hn h ih=>intro e2 s2 h2;cases h2 with | choose _ h=>exact ih _ _ h
 | os h ih=>intro e2 s2 h2;cases h2 with | os h=>exact ih _ _ h
 | handled h ih=>intro e2 s2 h2;cases h2 with | handled h=>exact ih _ _ h
 | stack h ih=>intro e2 s2 h2;cases h2 with | stack h=>exact ih _ _ h
 | thread h ih=>intro e2 s2 h2;cases h2 with | thread h=>exact ih _ _ h
 | genState hg h ih=>
  intro e2 s2 h2
  cases h2 with
  | genState hg2 h=>
   rw [hg] at hg2
   cases hg2
   exact ih _ _ h
 | newGen h ih=>intro e2 s2 h2;cases h2 with | newGen h=>exact ih _ _ h
 | call h1 h2 ih1 ih2=>
  intro e2 s2 h3
  cases h3 with
  | call g1 g2=>
   obtain ⟨q1,q2⟩:=ih1 _ _ g1
   cases q1
   subst q2
   exact ih2 _ _ g2
  | callSusp g1=>
   obtain ⟨q1,_⟩:=ih1 _ _ g1
   cases q1
 | callSusp h ih=>
  intro e2 s2 h3
  cases h3 with
  | call g1 g2=>
   obtain ⟨q1,_⟩:=ih _ _ g1
   cases q1
  | callSusp g1=>
   obtain ⟨q1,q2⟩:=ih _ _ g1
   cases q1
   subst q2
   exact ⟨rfl,rfl⟩
 | yield=>intro e2 s2 h2;cases h2;exact ⟨rfl,rfl⟩
 | resumeFresh hg h1 hq h2 ih1 ih2=>
  intro e2 s2 h3
  cases h3 with
  | resumeFresh hg2 g1 _ g2=>
   rw [hg] at hg2
   cases hg2
   obtain ⟨q1,q2⟩:=ih1 _ _ g1
   subst q1
   subst q2
   exact ih2 _ _ g2
  | resumeSuspended hg2 _ _ _=>rw [hg] at hg2;cases hg2
  | resumeJustStarted _ hv _=>exact absurd rfl hv
  | resumeRunning hg2 _=>rw [hg] at hg2;cases hg2
  | resumeFinished hg2 _=>rw [hg] at hg2;cases hg2
 | resumeSuspended hg h1 hq h2 ih1 ih2=>
  intro e2 s2 h3
  cases h3 with
  | resumeFresh hg2 _ _ _=>rw [hg] at hg2;cases hg2
  | resumeSuspended hg2 g1 _ g2=>
   rw [hg] at hg2
   cases hg2
   obtain ⟨q1,q2⟩:=ih1 _ _ g1
   subst q1
   subst q2
   exact ih2 _ _ g2
  | resumeJustStarted hg2 _ _=>rw [hg] at hg2;cases hg2
  | resumeThrowFresh hg2 _=>rw [hg] at hg2;cases hg2
  | resumeRunning hg2 _=>rw [hg] at hg2;cases hg2
  | resumeFinished hg2 _=>rw [hg] at hg2;cases hg2
 | resumeJustStarted hg hv h ih=>
  intro e2 s2 h3
  cases h3 with
  | resumeFresh hg2 _ _ _=>exact absurd rfl hv
  | resumeSuspended hg2 _ _ _=>rw [hg] at hg2;cases hg2
  | resumeJustStarted _ _ g=>exact ih _ _ g
  | resumeRunning hg2 _=>rw [hg] at hg2;cases hg2
  | resumeFinished hg2 _=>rw [hg] at hg2;cases hg2
 | resumeThrowFresh hg h ih=>
  intro e2 s2 h3
  cases h3 with
  | resumeSuspended hg2 _ _ _=>rw [hg] at hg2;cases hg2
  | resumeThrowFresh _ g=>exact ih _ _ g
  | resumeRunning hg2 _=>rw [hg] at hg2;cases hg2
  | resumeFinished hg2 _=>rw [hg] at hg2;cases hg2
 | resumeRunning hg h ih=>
  intro e2 s2 h3
  cases h3 with
  | resumeFresh hg2 _ _ _=>rw [hg] at hg2;cases hg2
  | resumeSuspended hg2 _ _ _=>rw [hg] at hg2;cases hg2
  | resumeJustStarted hg2 _ _=>rw [hg] at hg2;cases hg2
  | resumeThrowFresh hg2 _=>rw [hg] at hg2;cases hg2
  | resumeRunning _ g=>exact ih _ _ g
  | resumeFinished hg2 _=>rw [hg] at hg2;cases hg2
 | resumeFinished hg h ih=>
  intro e2 s2 h3
  cases h3 with
  | resumeFresh hg2 _ _ _=>rw [hg] at hg2;cases hg2
  | resumeSuspended hg2 _ _ _=>rw [hg] at hg2;cases hg2
  | resumeJustStarted hg2 _ _=>rw [hg] at hg2;cases hg2
  | resumeThrowFresh hg2 _=>rw [hg] at hg2;cases hg2
  | resumeRunning hg2 _=>rw [hg] at hg2;cases hg2
  | resumeFinished _ g=>exact ih _ _ g
 | segRet h1 h2 ih1 ih2=>
  intro e2 s2 h3
  cases h3 with
  | segRet g1 g2=>
   obtain ⟨q1,q2⟩:=ih1 _ _ g1
   cases q1
   subst q2
   exact ih2 _ _ g2
  | segSuspOut _ g1=>obtain ⟨q1,_⟩:=ih1 _ _ g1;cases q1
  | segSuspGen _ g1 _ _=>obtain ⟨q1,_⟩:=ih1 _ _ g1;cases q1
 | segGen h1 h2 ih1 ih2=>
  intro e2 s2 h3
  cases h3 with
  | segGen g1 g2=>
   obtain ⟨q1,q2⟩:=ih1 _ _ g1
   cases q1
   subst q2
   exact ih2 _ _ g2
  | segSuspOut _ g1=>obtain ⟨q1,_⟩:=ih1 _ _ g1;cases q1
  | segSuspGen _ g1 _ _=>obtain ⟨q1,_⟩:=ih1 _ _ g1;cases q1
 | segSuspOut h0 h1 ih=>
  intro e2 s2 h3
  cases h3 with
  | segRet g1 _=>obtain ⟨q1,_⟩:=ih _ _ g1;cases q1
  | segGen g1 _=>obtain ⟨q1,_⟩:=ih _ _ g1;cases q1
  | segSuspOut _ g1=>
   obtain ⟨q1,q2⟩:=ih _ _ g1
   cases q1
   subst q2
   exact ⟨rfl,rfl⟩
  | segSuspGen g0 _ _ _=>rw [h0] at g0;cases g0
 | segSuspGen h0 h1 hq h2 ih1 ih2=>
  intro e2 s2 h3
  cases h3 with
  | segRet g1 _=>obtain ⟨q1,_⟩:=ih1 _ _ g1;cases q1
  | segGen g1 _=>obtain ⟨q1,_⟩:=ih1 _ _ g1;cases q1
  | segSuspOut g0 _=>rw [h0] at g0;cases g0
  | segSuspGen g0 g1 _ g2=>
   rw [h0] at g0
   cases g0
   obtain ⟨q1,q2⟩:=ih1 _ _ g1
   cases q1
   subst q2
   exact ih2 _ _ g2
def mixR {ι:Type} (n:Nat) (Ri:ι→GenEnd) (R:GenEnd) (i:ι):GenEnd:=fun m s₀ r s=>if m=n then Ri i m s₀ r s else R m s₀ r s
def mixY {ι:Type} (n:Nat) (Yi:ι→Protocol) (Y:Protocol) (i:ι):Protocol:=fun m s₀ v s kap=>if m + 1=n then Yi i m s₀ v s kap else Y m s₀ v s kap
theorem seg_below {A:Around} {R R':GenEnd} {Y Y':Protocol}:∀(n:Nat) {s₀:Shared} {c:Code} {t:Sem PySem.Fin} {fs:List Frame} {s:Shared},(∀m,m≤n→∀s₀ r s,R m s₀ r s=R' m s₀ r s)→(∀m,m < n→∀s₀ v s kap,Y m s₀ v s kap=Y' m s₀ v s kap)→(Y 0=Y' 0)→
  Seg M A R Y n s₀ c t fs s=Seg M A R' Y' n s₀ c t fs s:=by
 intro n
 induction n with
 | zero=>
  intro s₀ c t fs s hR _ h0
  show (∀Γ p,_)=(∀Γ p,_)
  refine forall_congr fun Γ=>forall_congr fun p=>forall_congr fun _=>forall_congr fun _=>congrArg Exists (funext fun e=>congrArg Exists (funext fun s'=>congrArg (And _) ?_))
  cases e with
  | ret r=>exact hR 0 (Nat.le_refl _) _ _ _
  | susp v g l k c p fs=>
   show (_∧Y 0 _ _ _ _)=(_∧Y' 0 _ _ _ _)
   rw [h0]
 | succ n ih=>
  intro s₀ c t fs s hR hY h0
  show (∀Γ p,_)=(∀Γ p,_)
  refine forall_congr fun Γ=>forall_congr fun p=>forall_congr fun _=>forall_congr fun _=>congrArg Exists (funext fun e=>congrArg Exists (funext fun s'=>congrArg (And _) ?_))
  cases e with
  | ret r=>exact hR (n + 1) (Nat.le_refl _) _ _ _
  | susp v g l k c p fs=>
   show (_∧Y n _ _ _ _)=(_∧Y' n _ _ _ _)
   rw [hY n (Nat.lt_succ_self n)]
   congr 1
   congr 1
   funext r s''
   exact ih (fun m hm=>hR m (Nat.le_succ_of_le hm)) (fun m hm=>hY m (Nat.lt_succ_of_lt hm)) h0
theorem seg_all {A:Around} {ι:Type} {n:Nat} {Ri:ι→GenEnd} {Yi:ι→Protocol} {R:GenEnd} {Y:Protocol} {s₀:Shared} {c:Code} {t:Sem PySem.Fin} {fs:List Frame} {s:Shared} (i0:ι) (h:∀i,Seg M A (mixR (n + 2) Ri R i) (mixY (n + 2) Yi Y i) (n + 2) s₀ c t fs s)
  (hR:∀r s',(∀i,Ri i (n + 2) s₀ r s')→R (n + 2) s₀ r s') (hY:∀v s' c' (k:Resume→Sem PySem.Fin) fs',(∀i,Yi i (n + 1) s₀ v s' fun r s''=>Seg M A R Y (n + 1) s'' c' (k r) fs' s'')→Y (n + 1) s₀ v s' fun r s''=>Seg M A R Y (n + 1) s'' c' (k r) fs' s''):
  Seg M A R Y (n + 2) s₀ c t fs s:=by
 intro Γ p hc hΓ
 obtain ⟨e,s',hr,_⟩:=h i0 Γ p hc hΓ
 refine ⟨e,s',hr,?_⟩
 have all:∀i,SegEnd (mixR (n + 2) Ri R i) (mixY (n + 2) Yi Y i) (n + 2) (fun c' t' fs' s''=>Seg M A (mixR (n + 2) Ri R i) (mixY (n + 2) Yi Y i) (n + 1) s'' c' t' fs' s'') s₀ e s':=fun i=>by
  obtain ⟨e2,s2,hr2,q⟩:=h i Γ p hc hΓ
  obtain ⟨x1,x2⟩:=runs_det hr _ _ hr2
  subst x1
  subst x2
  exact q
 cases e with
 | ret r=>
  refine hR r s' fun i=>?_
  have q:mixR (n + 2) Ri R i (n + 2) s₀ r s':=all i
  unfold mixR at q
  rw [if_pos rfl] at q
  exact q
 | susp v g l k c' p' fs'=>
  refine ⟨(all i0).1,?_⟩
  show Y (n + 1) s₀ v s' _
  refine hY v s' c' k fs' fun i=>?_
  obtain ⟨_,q⟩:=all i
  have q:mixY (n + 2) Yi Y i (n + 1) s₀ v s' fun r s''=>Seg M A (mixR (n + 2) Ri R i) (mixY (n + 2) Yi Y i) (n + 1) s'' c' (k r) fs' s'':=q
  have e:(fun (r:Resume) s''=>Seg M A (mixR (n + 2) Ri R i) (mixY (n + 2) Yi Y i) (n + 1) s'' c' (k r) fs' s'')=fun r s''=>Seg M A R Y (n + 1) s'' c' (k r) fs' s'':=by
   funext r s''
   refine seg_below (n + 1) (fun m hm s₀ r s=>?_) (fun m hm s₀ v s kap=>?_) ?_
   ·show (if m=n + 2 then _ else _)=_
    rw [if_neg (by omega)]
   ·show (if m + 1=n + 2 then _ else _)=_
    rw [if_neg (by omega)]
   ·funext a b c d
    show (if 0 + 1=n + 2 then _ else _)=_
    rw [if_neg (by omega)]
  rw [e] at q
  unfold mixY at q
  rw [if_pos rfl] at q
  exact q
section
variable {ι : Type} (L : Nat) (Vw : Nat → Shared → ι → Prop) (T : Nat → Shared → ι → Result → Shared → Prop) (Z : Nat → Shared → ι → Value → Shared → (Shared → Prop) → Prop)
def RVw:GenEnd:=fun n s₀ r s1=>∀i w,i + n=L→Vw i s₀ w→T i s₀ w r s1
def YVw:Protocol:=fun m s₀ v s1 kap=>∀i w,i + (m + 1)=L→Vw i s₀ w→Z i s₀ w v s1 fun s''=>kap (.send .none) s''
end
theorem seg_views {A:Around} {ι:Type} {tot:Nat} {Vw:Nat→Shared→ι→Prop} {T:Nat→Shared→ι→Result→Shared→Prop} {Z:Nat→Shared→ι→Value→Shared→(Shared→Prop)→Prop} {Cs:Nat→Code→Sem PySem.Fin→List Frame→Prop}
  (step:∀(i n:Nat) (c:Code) (t:Sem PySem.Fin) (fs:List Frame) (s:Shared) (w:ι) (R:GenEnd) (Y:Protocol),i + n=tot→Cs i c t fs→Vw i s w→(∀r s1,T i s w r s1→R (n + 2) s r s1)→
   (∀v s1 (kap:Resume→Shared→Prop),Z i s w v s1 (fun s''=>kap (.send .none) s'')→Y (n + 1) s v s1 kap)→
   (i < tot→∀c' t' fs' s'' w'',Cs (i + 1) c' t' fs'→Vw (i + 1) s'' w''→Seg M A R Y (n + 1) s'' c' t' fs' s'')→Seg M A R Y (n + 2) s c t fs s):
  ∀(n i:Nat) (c:Code) (t:Sem PySem.Fin) (fs:List Frame) (s:Shared) (w:ι),i + n=tot→Cs i c t fs→Vw i s w→Seg M A (RVw (tot + 2) Vw T) (YVw (tot + 2) Vw Z) (n + 2) s c t fs s:=by
 intro n
 induction n with
 | zero=>
  intro i c t fs s w hi hc hv
  refine seg_all (ι:={w:ι // Vw i s w}) (Ri:=fun w m s₀ r s1=>s₀=s→T i s w.1 r s1) (Yi:=fun w m s₀ v s1 kap=>s₀=s→Z i s w.1 v s1 fun s''=>kap (.send .none) s'') ⟨w,hv⟩ (fun w=>?_) (fun r s' h=>?_) (fun v s' c' k fs' h=>?_)
  ·refine step i 0 c t fs s w.1 _ _ hi hc w.2 (fun r s1 h=>?_) (fun v s1 kap h=>?_) (fun hlt=>by omega)
   ·unfold mixR
    rw [if_pos rfl]
    exact fun _=>h
   ·show (if 0 + 1 + 1=0 + 2 then _ else _)
    rw [if_pos rfl]
    exact fun _=>h
  ·intro i' w' hi' hv'
   obtain rfl:i'=i:=by omega
   exact h ⟨w',hv'⟩ rfl
  ·intro i' w' hi' hv'
   obtain rfl:i'=i:=by omega
   exact h ⟨w',hv'⟩ rfl
 | succ n ih=>
  intro i c t fs s w hi hc hv
  refine seg_all (ι:={w:ι // Vw i s w}) (Ri:=fun w m s₀ r s1=>s₀=s→T i s w.1 r s1) (Yi:=fun w m s₀ v s1 kap=>s₀=s→Z i s w.1 v s1 fun s''=>kap (.send .none) s'') ⟨w,hv⟩ (fun w=>?_) (fun r s' h=>?_) (fun v s' c' k fs' h=>?_)
  ·refine step i (n + 1) c t fs s w.1 _ _ hi hc w.2 (fun r s1 h=>?_) (fun v s1 kap h=>?_) (fun hlt c' t' fs' s'' w'' hc' hv'=>?_)
   ·unfold mixR
    rw [if_pos rfl]
    exact fun _=>h
   ·show (if n + 1 + 1 + 1=n + 1 + 2 then _ else _)
    rw [if_pos rfl]
    exact fun _=>h
   ·have q:=ih (i + 1) c' t' fs' s'' w'' (by omega) hc' hv'
    refine Eq.mp (Eq.symm (seg_below (n + 1 + 1) (fun m hm s₀ r s=>?_) (fun m hm s₀ v s kap=>?_) ?_)) q
    ·show (if m=n + 1 + 2 then _ else _)=_
     rw [if_neg (by omega)]
    ·show (if m + 1=n + 1 + 2 then _ else _)=_
     rw [if_neg (by omega)]
    ·funext a b c d
     show (if 0 + 1=n + 1 + 2 then _ else _)=_
     rw [if_neg (by omega)]
  ·intro i' w' hi' hv'
   obtain rfl:i'=i:=by omega
   exact h ⟨w',hv'⟩ rfl
  ·intro i' w' hi' hv'
   obtain rfl:i'=i:=by omega
   exact h ⟨w',hv'⟩ rfl
end
end DL
set_option maxHeartbeats 2000000
namespace DL
open PySem PySem.Spec PyProof.Rows L2 GenW RZ
theorem execs_app_wrap {env:Env} {K:Flow→Sem PySem.Fin} {J:Value→Sem PySem.Fin} {gd:Bool→Bool} {lv:List Value→List Value} {rest:List Stmt}:∀(pre:List Stmt),
  (execs (pre ++ rest) env).wrap K J gd lv=(execs pre env).wrap (fun f=>match f with | .next=>(execs rest env).wrap K J gd lv | f=>K f) J gd lv
 | []=>rfl
 | st :: pre=>by
  show (execs (st :: (pre ++ rest)) env).wrap K J gd lv=_
  rw [execs_cons_wrap,execs_cons_wrap]
  exact Sem.wrap_congr _ _ _ (fun f=>by
   cases f with
   | next=>exact execs_app_wrap pre
   | _=>rfl) (fun _=>rfl)
def gtx (P:Program) (w:World) (K:PySem.W.Frag) (mg:Str→Option Value) (base:Heap) (Ns:List Str) (qual:Str) (scope:Scope) (f:Addr) (cd:Value) (A:Around) (outer:List Env) (L:Addr) (s:Shared) (H:Hp) (E:XK) (pn:List (Addr×Obj)):Cx where
 prog:=P
 w:=w
 K:=K
 mg:=mg
 base:=base
 A:=A.deeper (envOfC qual scope L f cd)
 N:=Ns
 s_0:=s
 H_0:=H
 env:=envOfC qual scope L f cd
 outer:=outer
 stack:=envOfC qual scope L f cd :: outer
 ex:= []
 calm:=true
 fn:=fun _=>true
 pn:=pn
 xe:=fun e s'=>wpAny (model P w) (A.deeper (envOfC qual scope L f cd)) (leaving (envOfC qual scope L f cd) e)
   (fun _ s''=>L2.CX P w outer H s E e s''∧∀p∈pn,s''.heap.get? p.1=some p.2) (fun _ _=>False) s'
section
variable {P : Program} {w : World} {K : PySem.W.Frag} {mg : Str → Option Value} {base : Heap} {Ns : List Str} {qual : Str} {scope : Scope} {f : Addr} {cd : Value} {A : Around} {outer : List Env} {L : Addr} {s0 : Shared} {H0 : Hp} {E : XK} {pn : List (Addr × Obj)}
theorem takes_gtx:L2.Takes (gtx P w K mg base Ns qual scope f cd A outer L s0 H0 E pn) (WD E):=fun u s' x=>L2.XE.leaveG (X:=(gtx P w K mg base Ns qual scope f cd A outer L s0 H0 E pn)) (W:=WD E) (E:=E) rfl rfl rfl (fun _ _ _ _ h=>h) x
abbrev gK:Flow→Sem PySem.Fin:=fun f=> .pure (.done (.ret (match f with | .ret v=>v | _=> .none)))
abbrev gJ (env:Env):Value→Sem PySem.Fin:=fun e=>(leaving env e).wrap (fun _=> .raise e) .raise id id
variable {R : GenEnd} {Y : Protocol} {n : Nat} {s₀ s : Shared} {tg iter : Expr} {lbody : List Stmt} {fpos : Pos} {e : Addr} {p : Pos} {lv0 : List Value}
theorem seg_gone {x:Value} {body:List Stmt} (hR:∀s1,L2.CX P w outer H0 s0 E x s1→(∀p∈pn,s1.heap.get? p.1=some p.2)→R n s₀ (.error x) s1) (h:(gtx P w K mg base Ns qual scope f cd A outer L s0 H0 E pn).xe x s):
  Seg (model P w) A R Y n s₀ (.func body (envOfC qual scope L f cd)) (gJ (envOfC qual scope L f cd) x) [] s:=by
 refine seg_wrap ?_
 rw [over_func]
 exact wpAny_mono (show wpAny (model P w) (A.deeper (envOfC qual scope L f cd)) (leaving (envOfC qual scope L f cd) x) (fun _ s''=>L2.CX P w outer H0 s0 E x s''∧∀p∈pn,s''.heap.get? p.1=some p.2) (fun _ _=>False) s from h) (fun _ s'' q=>seg_end (.error x) (hR _ q.1 q.2)) fun _ s'' q=>q.elim
end
end DL
set_option maxHeartbeats 2000000
namespace DL
open PySem PySem.Spec PyProof.Rows L2 GenW RZ
section
variable {P : Program} {w : World} {K : PySem.W.Frag} {mg : Str → Option Value} {base : Heap} {Ns : List Str} {qual : Str} {scope : Scope} {f : Addr} {cd : Value} {A : Around} {outer : List Env} {L : Addr} {s0 : Shared} {H0 : Hp} {E : XK} {pn : List (Addr × Obj)}
variable {R : GenEnd} {Y : Protocol} {n : Nat} {s₀ s : Shared} {tg iter : Expr} {lbody : List Stmt} {fpos : Pos} {e : Addr} {p : Pos} {lv0 : List Value}
end
def cutH (h:Heap) (n:Nat):Heap:={h with objs:=h.objs.extract 0 n}
theorem cutH_size {h:Heap} {n:Nat} (hn:n≤h.objs.size):(cutH h n).objs.size=n:=by
 unfold cutH
 rw [Array.size_extract]
 omega
theorem cutH_lt {h:Heap} {n b:Nat} (hb:b < n):(cutH h n).get? b=h.get? b:=by
 unfold cutH Heap.get?
 have e:(h.objs.extract 0 n)[b]?=h.objs[b]?:=by
  rw [Array.getElem?_extract]
  by_cases hs:b < h.objs.size
  ·rw [if_pos (by omega),Nat.zero_add]
  ·rw [if_neg (by omega),Array.getElem?_eq_none (by omega)]
 rw [e]
theorem cutH_some {h:Heap} {n b:Nat} {o:Obj} (e:(cutH h n).get? b=some o):b < n∧h.get? b=some o:=by
 have l:b < (h.objs.extract 0 n).size:=Heap.lt_size e
 have hb:b < n:=by
  rw [Array.size_extract] at l
  omega
 rw [cutH_lt hb] at e
 exact ⟨hb,e⟩
theorem funs_cut {h base:Heap} {n:Nat}:∀{l:List Env},h.FunFrames base l→(∀b∈frs l,b < n)→(cutH h n).FunFrames base l
 | [],_,_=>trivial
 | env :: l,x,hb=>by
  obtain ⟨hk,⟨a,o,hf,hn,ho,hd⟩,hr⟩:=x
  have e:frs (env :: l)=a :: frs l:=by
   unfold frs
   rw [List.filterMap_cons,hf]
  rw [e] at hb
  refine ⟨hk,⟨a,o,hf,hn,?_,hd⟩,funs_cut hr fun b z=>hb b (List.mem_cons_of_mem _ z)⟩
  rw [cutH_lt (hb a List.mem_cons_self)]
  exact ho
structure Gnd (P:Program) (w:World) (K:PySem.W.Frag) (mg:Str→Option Value) (base:Heap) (outer:List Env) (L:Nat) (s:Shared) (H:Hp) (N:Mem):Prop where
 mod:Mod K mg base
 bs:∀b o,base.get? b=some o→s.heap.get? b=some o∧H b=none
 bsz:base.objs.size≤L
 funs:s.heap.FunFrames base outer
 frf:∀b∈frs outer,H b=none
 frl:∀b∈frs outer,b < L
 hok:HOk P w H s.heap
 bare:AllBare s.gens
 rel:RelM K H N
 lt:L < s.heap.objs.size
structure Fr (P:Program) (w:World) (K:PySem.W.Frag) (Ns:List Str) (env:Env) (a:Addr) (go:Obj) (sl:SD) (s:Shared) (H:Hp) (N:Mem) (σ:L2.St):Prop where
 loc:∃m,s.heap.Ns env.locals m∧∀(i:Nat) (x:Str) (v:V),Ns[i]?=some x→σ[i]?=some (some v)→Vis env.scope x→∃u,RelV v u∧Look env s.heap m x u
 free:H env.locals=none
 len:σ.length=Ns.length
 sl:Sl K H N σ sl
 gen:s.heap.get? a=some go∧H a=none∧a≠env.locals
section
variable {P : Program} {w : World} {K : PySem.W.Frag} {mg : Str → Option Value} {base : Heap} {Ns ps : List Str} {qual : Str} {scope : Scope} {f : Addr} {cd : Value} {A : Around} {outer : List Env} {L : Addr} {s : Shared} {H : Hp} {N : Mem} {E : XK} {pn : List (Addr × Obj)} {a : Addr} {go : Obj} {sl : SD} {σ : L2.St}
theorem inv_woken (S:GScope Ns ps scope) (hc:∀n,cellsFrom n scope.names []= []) (hd:A.handled=none) (hfr:A.frames=some outer) (g:Gnd P w K mg base outer L s H N) (x:Fr P w K Ns (envOfC qual scope L f cd) a go sl s H N σ) (ha:L≤a) (haf:a∉frs outer) (hgo:∀v,go.data≠ .cell v):
  Inv (gtx P w K mg base Ns qual scope f cd A outer L {s with heap:=cutH s.heap L} H E [(a,go)]) [] σ H s:=by
 have nc:∀y c,(envOfC qual scope L f cd).cells.lookup y=some c→False:=fun y c e=>by
  have e:(cellsFrom (L + 1) scope.names []).lookup y=some c:=e
  rw [hc] at e
  cases e
 have sz:=cutH_size (Nat.le_of_lt g.lt)
 have noE:∀b:Addr,b∉([]:List Addr):=fun b z=>by cases z
 refine ⟨⟨g.mod,S.kind,rfl,rfl,Nat.le_of_eq sz,fun y z c h1 _=>(nc y c h1).elim,fun y hy=>?_,fun y c _ h=>(nc y c h).elim,fun _=>hd,Around.frames_deeper hfr, .inr ⟨rfl,rfl⟩,fun b z=>(noE b z).elim,fun b o e=>?_,?_,fun b _ _=>noE b,fun b z=>(noE b z).elim,funs_cut g.funs g.frl,g.frf⟩,
  rfl,g.bare,Un.kept fun b o e=>(cutH_some e).2,x.loc,fun y c h=>(nc y c h).elim,x.free,fun y c h=>(nc y c h).elim,fun p hp=>?_,g.hok,x.len⟩
 ·have hy:scope.names.lookup y=some .cell∨scope.names.lookup y=some .free:=hy
  rcases hy with hy | hy
  ·exact cell_has hy
  ·exact absurd rfl (S.nofree _ (PySem.mem_of_lookup hy))
 ·obtain ⟨h1,h2⟩:=g.bs b o e
  refine ⟨?_,h2⟩
  show (cutH s.heap L).get? b=some o
  rw [cutH_lt (Nat.lt_of_lt_of_le (Heap.lt_size e) g.bsz)]
  exact h1
 ·show base.objs.size≤(cutH s.heap L).objs.size
  rw [sz]
  exact g.bsz
 ·have hp:p∈ [(a,go)] ++ []:=hp
  rw [List.append_nil] at hp
  rw [List.mem_singleton.mp hp]
  exact ⟨x.gen.1,x.gen.2.1,x.gen.2.2,haf,hgo⟩
end
end DL
set_option maxHeartbeats 2000000
namespace DL
open PySem PySem.Spec PyProof.Rows L2 GenW RZ
abbrev m0:Mem:=fun _=>none
theorem uni_m0 (N:Mem):uni m0 N=N:=by
 funext a
 unfold uni
 cases N a <;> rfl
structure After (P:Program) (w:World) (K:PySem.W.Frag) (outer:List Env) (L:Nat) (s:Shared) (H:Hp) (N:Mem) (s1:Shared) (H':Hp):Prop where
 os:s1.os=s.os
 bare:AllBare s1.gens
 un:Un (frs outer) [] H H' (cutH s.heap L) s1.heap
 hok:HOk P w H' s1.heap
 ext:Ext H N H' N
 rel:RelM K H' N
section
variable (P : Program) (w : World) (K : PySem.W.Frag) (mg : Str → Option Value) (base : Heap) (outer : List Env) (L : Nat) (a : Addr) (go : Obj) (ys : List D) (fin : Option Exn) (Gv : Nat → List Addr → Shared → Hp → Mem → Prop)
def VwG (i:Nat) (s:Shared) (q:Hp×Mem):Prop:=Gnd P w K mg base outer L s q.1 q.2∧∃pv,Gv i pv s q.1 q.2
def EndG (i:Nat) (s:Shared) (q:Hp×Mem) (r:Result) (s1:Shared):Prop:=
 (r= .ok (.ret .none)∧fin=none∧i=ys.length∧∃H',After P w K outer L s q.1 q.2 s1 H')∨
 ∃e x,r= .error e∧fin=some x∧i=ys.length∧s1.heap.get? a=some go∧L2.CX P w outer q.1 {s with heap:=cutH s.heap L} (fun cls dc H'=>Ext q.1 q.2 H' q.2∧RelM K H' q.2∧ExV K H' q.2 cls dc x) e s1
def ItemG (i:Nat) (s:Shared) (q:Hp×Mem) (v:Value) (s1:Shared) (nxt:Shared→Prop):Prop:=
 ∃H' x d pv,After P w K outer L s q.1 q.2 s1 H'∧ys[i]?=some d∧RelV x v∧DV K H' q.2 d x∧Gv (i + 1) pv s1 H' q.2∧∀s'' q'',VwG P w K mg base outer L Gv (i + 1) s'' q''→nxt s''
end
section
variable {P : Program} {w : World} {K : PySem.W.Frag} {mg : Str → Option Value} {base : Heap} {Ns ps : List Str} {qual : Str} {scope : Scope} {f : Addr} {cd : Value} {A : Around} {outer : List Env} {L : Addr} {a : Addr} {go : Obj} {z : Nat}
variable {tg iter : Expr} {lbody pre : List Stmt} {fpos yp ypos : Pos} {ye : Expr} {its ys : List D} {fin : Option Exn} {sl : Nat → SD} {g : GD} {is : List Nat} {wpre : WS} {wye : WE}
end
end DL
set_option maxHeartbeats 2000000
namespace DL
open PySem PySem.Spec PyProof.Rows L2 GenW RZ
def Goes1 (M:Model) (A:Around) (R:GenEnd) (Y:Protocol) (n:Nat) (gs:GenState) (r:Resume) (s:Shared):Prop:=match n with
 | 0=>False
 | m + 1=>gs.Goes M A R Y m r s
section
variable {P : Program} {w : World} {A : Around} {s : Shared}
theorem stop_flies {α β:Type} {k:β→Sem α} {Q:α→Shared→Prop} {E:Value→Shared→Prop} (hh:A.handled=none) (h:∀(h':Heap) (x:Addr),(∀b o,s.heap.get? b=some o→h'.get? b=some o)→(∃o,h'.get? x=some o∧o.cls= .type "StopIteration")→E (.ref x) {s with heap:=h'}):
  wpAny (model P w) A (newExc (.type "StopIteration") [] >>= fun x=>raiseNew x >>= k) Q E s:=by
 refine wpAny_bind ?_
 simp only [newExc,newTuple]
 refine wpAny_bind (wpAny_newObj_type ?_ (by size_fits))
 refine wpAny_bind (m:=firstArgMember _ _) (wpAny_of_eq (a:=Value.none) (by first | rfl | (simp only [firstArgMember];rfl)) ?_)
 refine wpAny_newObj_type ?_ (by size_fits)
 simp only [raiseNew]
 refine wpAny_bind (wpAny_bind (wpAny_bind (wpAny_handled ?_)))
 rw [hh]
 refine wpAny_pure (wpAny_throw ?_)
 refine h _ _ ?_ ?_
 ·exact fun b o e=>Heap.get?_push_of_some _ (Heap.get?_push_of_some _ e)
 ·exact ⟨_,Heap.get?_push_size _ rfl,rfl⟩
theorem gen_left {α:Type} {a:Addr} {g:Nat} {e:Value} {Q:PySem.Fin→Shared→Prop} {E:Value→Shared→Prop} (hg:s.heap.IsGen a g) (hn:NotStop (model P w) e s.heap) (h:E e s):
  wpAny (model P w) A (Builtin.Generator.genLeft (.ref a) e) Q E s:=by
 obtain ⟨o,nm,qn,ho,_⟩:=hg
 unfold Builtin.Generator.genLeft Builtin.Generator.madeByALambda
 refine wpAny_bind (wpAny_bind (wpAny_load ho (wpAny_pure (wpAny_bind (hn _ _ _ _ rfl ?_)))))
 rw [Bool.and_false,if_neg Bool.false_ne_true]
 unfold Builtin.Generator.genEscaped
 first
  | refine wpAny_bind (hn _ _ _ _ rfl ?_)
  | refine wpAny_bind (wpAny_pure (wpAny_bind (hn _ _ _ _ rfl ?_)))
 rw [if_pos (show (!false)=true from rfl)]
 first
  | exact wpAny_throw h
  | exact wpAny_bind (wpAny_throw h)
end
end DL
set_option maxHeartbeats 2000000
namespace DL
open PySem PySem.Spec PyProof.Rows L2 GenW RZ
structure Low (X:Cx) (pins:List (Addr×Obj)) (L:Nat):Prop where
 loc:X.env.locals < L
 cell:∀x c,X.env.cells.lookup x=some c→c < L
 pin:∀p∈X.pn ++ pins,p.1 < L
 frl:∀b∈frs X.stack,b < L
 sz:X.s_0.heap.objs.size≤L
 bsz:X.base.objs.size≤L
def XeUp (X:Cx):Prop:=∀e s0 B,X.xe e s0→Asl B s0.gens→(∀i gs,B i=some gs→gs.bare=true)→X.xe e (upS B s0)
theorem bare_up {B:Slp} {G:Array GenState} (h:AllBare G) (hb:∀i gs,B i=some gs→gs.bare=true):AllBare (upG B G):=fun y hy=>by
 obtain ⟨i,hi,e⟩:=Array.mem_iff_getElem.mp hy
 have q:(upG B G)[i]?=some y:=by rw [Array.getElem?_eq_getElem hi,e]
 rw [upG_get] at q
 cases h0:G[i]? with
 | none=>rw [h0] at q;cases q
 | some z=>
  rw [h0,Option.map_some] at q
  have q:=Option.some.inj q
  cases hB:B i with
  | none=>
   rw [hB] at q
   subst q
   exact h _ (Array.mem_iff_getElem?.mpr ⟨i,h0⟩)
  | some gs=>
   rw [hB] at q
   subst q
   exact hb i _ hB
theorem xeUp_cxOf {P:Program} {w:World} {K:PySem.W.Frag} {mg:Str→Option Value} {base:Heap} {N:List Str} {qual:Str} {scope:Scope} {f:Addr} {cd:Value} {A:Around} {outer:List Env} {s:Shared} {H:Hp} {E:XK}:
  XeUp (cxOf (L2.CX P w) P w K mg base N qual scope f cd A outer s H E):=fun e s0 B h a bB=>by
 have key:∀(e':Value) (s'':Shared),L2.CX P w outer H s E e' s''→L2.CX P w outer H s E e' (upS B s''):=fun e' s'' ⟨a,B',H',cls,d,e1,fl,ok,ub,na,os,ag,q⟩=>⟨a,B',H',cls,d,e1,fl,ok,ub,na,os,bare_up ag bB,q⟩
 intro Γ p hΓ
 have h:=wp_sleep (B:=B) _ _ _ p s0 a (h Γ p hΓ)
 refine Sem.wp_mono _ Γ _ (fun _ p' s' q=>?_) (fun e' p' s' q=>?_) p _ h
 ·obtain ⟨s00,a0,e0,q⟩:=q
  subst e0
  exact key _ _ q
 ·obtain ⟨s00,a0,e0,q⟩:=q
  subst e0
  exact key _ _ q
section
variable {X : Cx} {pins : List (Addr × Obj)} {σ : L2.St} {H H' : Hp} {N : Mem} {s s1 : Shared} {L : Nat} {W : WX}
theorem low_of (I:Inv X pins σ H s) (h:s.heap.objs.size≤L):Low X pins L where
 loc:=Nat.lt_of_lt_of_le I.lt h
 cell:=fun x c e=>by
  obtain ⟨v,q⟩:=I.cell x c e
  exact Nat.lt_of_lt_of_le q.lt h
 pin:=fun p hp=>Nat.lt_of_lt_of_le (Heap.lt_size (I.pin p hp).1) h
 frl:=fun b hb=>by
  obtain ⟨_,o,e,_⟩:=I.env0.funs.mem hb
  exact Nat.lt_of_lt_of_le (Heap.lt_size e) h
 sz:=Nat.le_trans I.sz h
 bsz:=Nat.le_trans I.env0.bsz h
theorem gnd_of (I:Inv X pins σ H s) (lo:Low X pins L) (hl:L < s.heap.objs.size) (R:RelM X.K H N):Gnd X.prog X.w X.K X.mg X.base X.stack L s H N:=
 ⟨I.env0.mod,I.env0.bs,lo.bsz,I.env0.funs,I.env0.frf,lo.frl,I.hok,I.bare,R,hl⟩
def upFrom (L:Nat) (h:Heap):List Addr:=(List.range h.objs.size).filter fun b=>decide (L≤b)
theorem mem_upFrom {h:Heap} {b:Addr}:b∈upFrom L h↔b < h.objs.size∧L≤b:=by
 unfold upFrom
 rw [List.mem_filter,List.mem_range,decide_eq_true_eq]
theorem low_ch (lo:Low X pins L):∀b∈upFrom L s.heap,(b∈X.ex∨X.s_0.heap.objs.size≤b)∧b≠X.env.locals∧(∀x c,X.env.cells.lookup x=some c→c≠b)∧∀p∈X.pn ++ pins,p.1≠b:=fun b hb=>by
 have hb:=(mem_upFrom.mp hb).2
 exact ⟨.inr (Nat.le_trans lo.sz hb),fun z=>absurd (z ▸ lo.loc) (Nat.not_lt.mpr hb),fun x c e z=>absurd (z ▸ lo.cell x c e) (Nat.not_lt.mpr hb),fun p hp z=>absurd (z ▸ lo.pin p hp) (Nat.not_lt.mpr hb)⟩
theorem not_up {b:Addr} {o:Obj} (e:s.heap.get? b=some o) (hn:b∉upFrom L s.heap):b < L:=by
 rcases Nat.lt_or_ge b L with h | h
 ·exact h
 ·exact absurd (mem_upFrom.mpr ⟨Heap.lt_size e,h⟩) hn
theorem inv_back {s2:Shared} (I:Inv X pins σ H s) (lo:Low X pins L) (af:After X.prog X.w X.K X.stack L s H N s1 H') (hk:∀b o,s1.heap.get? b=some o→s2.heap.get? b=some o) (hos:s2.os=s1.os) (hb:AllBare s2.gens):Inv X pins σ H' s2:=by
 have cut:∀{b o},s.heap.get? b=some o→b∉upFrom L s.heap→(cutH s.heap L).get? b=some o:=fun e hn=>by
  rw [cutH_lt (not_up e hn)]
  exact e
 have no:∀b:Addr,b∉([]:List Addr):=fun b z=>by cases z
 refine I.call' (ch:=upFrom L s.heap) (hos.trans af.os) ⟨fun b o e n hf hc=>hk b o (af.un.keep b o (cut e hc) n hf (no b)),fun b o e n hf hc=>?_,fun b o e n hc=>af.un.free b o (cut e hc) n (no b),fun b o e hc=>?_,af.un.tups,af.un.frzs,af.un.tbls⟩ (af.hok.kept hk) hb (low_ch lo)
 ·obtain ⟨sl,q⟩:=af.un.slot b o (cut e hc) n hf (no b)
  exact ⟨sl,hk _ _ q⟩
 ·obtain ⟨o',q⟩:=af.un.there b o (cut e hc) (no b)
  exact ⟨o',hk _ _ q⟩
theorem xe_back {E:XK} {u:Value} {G:Array GenState} (tk:L2.Takes X W) (I:Inv X pins σ H s) (lo:Low X pins L) (hW:∀cls d H',E cls d H'→W cls d σ H') (hG:AllBare G) (c:L2.CX X.prog X.w X.stack H {s with heap:=cutH s.heap L} E u s1):X.xe u {s1 with gens:=G}:=by
 obtain ⟨a,B,H',cls,d,rfl,fl,hok,ub,na,os,ag,hE⟩:=c
 have cut:∀{b o},s.heap.get? b=some o→b∉upFrom L s.heap→({s with heap:=cutH s.heap L}:Shared).heap.get? b=some o:=fun e hn=>by
  show (cutH s.heap L).get? _=_
  rw [cutH_lt (not_up e hn)]
  exact e
 obtain ⟨D,d1,d2⟩:=L2.restrict s1.heap fun b=>(B.get? b).isSome || decide (b∈frs X.stack)
 have inB:∀b o,B.get? b=some o→D.get? b=some o:=fun b o e=>by
  rw [d1 b (by rw [e];rfl)]
  exact fl.1 b o e
 have inF:∀b,b∈frs X.stack→D.get? b=s1.heap.get? b:=fun b hb=>d1 b (by rw [decide_eq_true hb,Bool.or_true])
 have back:∀b o,D.get? b=some o→s1.heap.get? b=some o∧(b∉frs X.stack→B.get? b=some o):=fun b o e=>by
  cases q:((B.get? b).isSome || decide (b∈frs X.stack)) with
  | false=>rw [d2 b q] at e;cases e
  | true=>
   rw [d1 b q] at e
   refine ⟨e,fun hb=>?_⟩
   rw [decide_eq_false hb,Bool.or_false] at q
   obtain ⟨o',z⟩:=Option.isSome_iff_exists.mp q
   have z2:=fl.1 b o' z
   rw [e] at z2
   cases z2
   exact z
 refine tk _ _ ⟨a,B,{s with heap:=D,gens:=G,drawn:=s1.drawn,toks:=s1.toks},pins,σ,H',cls,d,rfl,?_,fun b o e hb=>(back b o e).2 hb,Heap.UpToSlots.of_keeps fun b o e=>(back b o e).1, .inr (.inl fl),na,os,hG,hW _ _ _ hE⟩
 refine I.call (ch:=upFrom L s.heap) ⟨fun b o e n hb hc=>inB b o (ub.keep b o (cut e hc) n hb),fun b o e n hb hc=>?_,fun b o e n hc=>ub.free b o (cut e hc) n,fun b o e hc=>?_,ub.tups,ub.frzs,ub.tbls⟩ (hok.kept inB) hG (low_ch lo)
 ·obtain ⟨sl,q⟩:=ub.slot b o (cut e hc) hb
  exact ⟨sl,by rw [inF b hb];exact q⟩
 ·by_cases hb:b∈frs X.stack
  ·obtain ⟨sl,q⟩:=ub.slot b o (cut e hc) hb
   exact ⟨_,by rw [inF b hb];exact q⟩
  ·obtain ⟨o',q⟩:=ub.there b o (cut e hc) hb
   exact ⟨o',inB b o' q⟩
theorem kin_back {E:XK} {u:Value} (I:Inv X pins σ H s) (lo:Low X pins L) (c:L2.CX X.prog X.w X.stack H {s with heap:=cutH s.heap L} E u s1):X.K.In s1.heap:=by
 obtain ⟨a,B,H',cls,d,_,fl,_,ub,_⟩:=c
 refine I.ok.mod.kin.keeps fun b o e=>fl.1 b o (ub.keep b o ?_ (I.bs b o e).2 fun hm=>?_)
 ·show (cutH s.heap L).get? b=some o
  rw [cutH_lt (Nat.lt_of_lt_of_le (Heap.lt_size e) lo.bsz)]
  exact (I.bs b o e).1
 ·obtain ⟨h1,_⟩:=I.env0.funs.mem hm
  rw [e] at h1
  cases h1
end
end DL
set_option maxHeartbeats 4000000
namespace DL
open PySem PySem.Spec PyProof.Rows L2 GenW RZ
structure GProm (P:Program) (w:World) (K:PySem.W.Frag) (mg:Str→Option Value) (base:Heap) (k:Nat) (outer:List Env) (L a:Nat) (go:Obj) (c:Code) (ys:List D) (fin:Option Exn) (Gv:Nat→List Addr→Shared→Hp→Mem→Prop):Prop where
 keep:∀i pv s1 H1 N1 s2 H2 N2,Gv (i + 1) pv s1 H1 N1→(∀b∈pv,∀o,s1.heap.get? b=some o→s2.heap.get? b=some o)→(∀b∈pv,H2 b=none)→RelM K H1 N1→Ext H1 N1 H2 N2→Gv (i + 1) pv s2 H2 N2
 obj:∀i pv s H N,Gv i pv s H N→∀b∈pv,L≤b∧(∃o,s.heap.get? b=some o∧∀v,o.data≠ .cell v)∧H b=none∧b∉frs outer
 gen:∀i pv s H N,Gv i pv s H N→s.heap.get? a=some go
 lt:∀i pv s H N,Gv i pv s H N→L < s.heap.objs.size
 same:∀i pv s H N s2,Gv i pv s H N→s2.heap=s.heap→Gv i pv s2 H N
 wake:∀A:Around,Room k A→A.frames=some outer→∀s q,VwG P w K mg base outer L Gv 0 s q→Seg (model P w) A (RVw (ys.length + 2) (VwG P w K mg base outer L Gv) (EndG P w K outer L a go ys fin)) (YVw (ys.length + 2) (VwG P w K mg base outer L Gv) (ItemG P w K mg base outer L ys Gv)) (ys.length + 2) s c ((model P w).den c) [] s
structure GnAt (P:Program) (w:World) (K:PySem.W.Frag) (mg:Str→Option Value) (base:Heap) (k:Nat) (outer:List Env) (ys:List D) (fin:Option Exn) (s:Shared) (H:Hp) (N:Mem) (s':Shared) (L a g:Nat) (go:Obj) (c:Code) (Gv:Nat→List Addr→Shared→Hp→Mem→Prop):Prop where
 keep:∀b o,s.heap.get? b=some o→s'.heap.get? b=some o
 os:s'.os=s.os
 bare:AllBare s'.gens
 low:s.heap.objs.size≤L
 at_:s'.heap.get? a=some go
 gen:∀h:Heap,h.get? a=some go→h.IsGen a g
 fresh:s'.gens[g]?=some (.fresh c)
 first:∃pv,Gv 0 pv s' H N
 prom:GProm P w K mg base k outer L a go c ys fin Gv
def GnMade (P:Program) (w:World) (K:PySem.W.Frag) (mg:Str→Option Value) (base:Heap) (k:Nat) (outer:List Env) (ys:List D) (fin:Option Exn) (s:Shared) (H:Hp) (N:Mem) (u:Value) (s':Shared):Prop:=
 ∃L a g go c Gv,u= .ref a∧GnAt P w K mg base k outer ys fin s H N s' L a g go c Gv
abbrev SpGD:=List D→List D→Option Exn→Prop
structure GnJ (P:Program) (w:World) (K:PySem.W.Frag) (mg:Str→Option Value) (base:Heap) (k:Nat) (f:Addr) (gsp:SpGD):Prop where
 ex:∃fd ps,Binds K fd ps []∧(∀ds ys fin,gsp ds ys fin→ds.length=ps.length)∧∀(A:Around) (outer:List Env) (s:Shared) (H:Hp) (args:Args) (us:List Value) (vs:List V) (ds ys:List D) (fin:Option Exn) (N:Mem),Room k A→Env0 P w K mg base A outer s H→BindsTo s fd args (ps.zip us)→Vals vs us→RelM K H N→DVs K H N ds vs→gsp ds ys fin→
  codeAny (model P w) A (.call (.ref f) args) (fun r s'=>∃u,r= .ok (.ret u)∧GnMade P w K mg base k outer ys fin s H N u s') s
 kp:PySem.W.keepIn K (.ref f)=true
 ns:∀ds ys x,gsp ds ys (some x)→∃C ns es,x= .own C ns es∧PySem.W.subIn K (.ref C) (.type "StopIteration")=some false
def forG (g:GD) (wb:WS) (fin:Option Exn) (E:ED):List D→SD→Mem→Prop
 | [],ds,M=>match fin with
  | none=>E.nx ds M
  | some x=>E.ex x ds M
 | d :: ys,ds,M=>g d ds fun ds2=>wb {E with nx:=fun ds3 M3=>forG g wb fin E ys ds3 M3,ct:=fun ds3 M3=>forG g wb fin E ys ds3 M3,bk:=E.nx} ds2 M
theorem Gnd.waken {P:Program} {w:World} {K:PySem.W.Frag} {mg:Str→Option Value} {base:Heap} {outer:List Env} {L g:Nat} {s:Shared} {H:Hp} {N:Mem} (x:Gnd P w K mg base outer L s H N):Gnd P w K mg base outer L (s.setGen g .running) H N:=
 ⟨x.mod,x.bs,x.bsz,x.funs,x.frf,x.frl,x.hok,allBare_setGen x.bare rfl,x.rel,x.lt⟩
section
variable {X : Cx} {W : WX} {x : Str} {p pos cpos : Pos} {e : Expr} {es : List Expr} {wa : WA} {k j : Nat} {f : Addr} {gsp : SpGD} {tg : Expr} {body : List Stmt} {g : GD} {wb : WS} {is : List Nat}
theorem xe_up {s s0 s':Shared} {e:Value} (hu:XeUp X) (k:KeptG s s0 s') (hb:AllBare s.gens) (h:X.xe e s0):X.xe e s':=by
 obtain ⟨B,a,e1,e2⟩:=k.up
 rw [e1]
 exact hu e s0 B h a fun i gs q=>hb gs (Array.mem_iff_getElem?.mpr ⟨i,e2 i gs q⟩)
end
end DL
set_option maxHeartbeats 4000000
namespace DL
open PySem PySem.Spec PyProof.Rows L2 GenW RZ
section
variable {X : Cx} {x : Str} {ix : Nat} {p1 p2 p3 tpos : Pos} {elts : List Expr} {kk : Nat} {s : Shared} {σ : L2.St} {H : Hp} {N : Mem} {ds : SD} {xs : List D}
end
section
variable {P : Program} {w : World} {K : PySem.W.Frag} {Ns : List Str} {qual : Str} {scope : Scope} {f : Addr} {cd : Value} {outer : List Env} {L a : Addr} {go : Obj} {sl : SD} {slf : Nat → SD} {s s2 : Shared} {H H2 : Hp} {N N2 : Mem} {σ : L2.St} {tg : Expr} {its : List D} {z : Nat}
theorem Fr.moved (hc:∀n,cellsFrom n scope.names []= []) (x:Fr P w K Ns (envOfC qual scope L f cd) a go sl s H N σ) (hL:∀o,s.heap.get? L=some o→s2.heap.get? L=some o) (ha:∀o,s.heap.get? a=some o→s2.heap.get? a=some o) (h1:H2 L=none) (h2:H2 a=none) (R:RelM K H N) (e:Ext H N H2 N2):
  Fr P w K Ns (envOfC qual scope L f cd) a go sl s2 H2 N2 σ:=by
 refine ⟨?_,h1,x.len,⟨x.sl.1,fun i d hd=>?_⟩,ha _ x.gen.1,h2,x.gen.2.2⟩
 ·obtain ⟨m,⟨o,es,ep,ho,r⟩,hl⟩:=x.loc
  refine ⟨m,⟨o,es,ep,hL o ho,r⟩,fun i y v e1 e2 e3=>?_⟩
  obtain ⟨u,r1,l⟩:=hl i y v e1 e2 e3
  refine ⟨u,r1,?_⟩
  rcases l with l | ⟨_,c,ec,_⟩
  ·exact .inl l
  ·have ec:(cellsFrom (L + 1) scope.names []).lookup y=some c:=ec
   rw [hc] at ec
   cases ec
 ·obtain ⟨v,e1,dv⟩:=x.sl.2 i d hd
  exact ⟨v,e1,DV.ext R e d v dv⟩
end
section
variable {P : Program} {w : World} {K : PySem.W.Frag} {mg : Str → Option Value} {base : Heap} {k : Nat} {x qual xn : Str} {st : Stmt} {f : Addr} {fd : FuncData} {Ns ps : List Str} {gsp : SpGD} {elts : List Expr} {kk ix : Nat} {tpos p1 p2 p3 fpos yp ypos : Pos} {lbody pre : List Stmt} {ye : Expr} {g : GD} {is : List Nat} {wpre : WS} {wye : WE}
end
end DL
set_option maxHeartbeats 4000000
namespace DL
open PySem PySem.Spec PyProof.Rows L2 RZ
structure SupC (P:Program) (K:PySem.W.Frag) (qual:Str) (ist:Stmt) (D fI f2:Addr):Prop where
 sup:PySem.W.ks_superIn K D D "__init__"=some (some (.ref f2))
 ty2:PySem.W.typeIn K (.ref f2)=some (.type "function")
 fn2:PySem.W.fnIn K f2=true
 mro:PySem.W.mroIn K D (.ref D)=some true
 op:PySem.W.nsIn K PySem.cStatics "thirdparty.any"=some none
 kp:PySem.W.keepIn K (.ref fI)=true
 fn:∃(cc cda:Addr) (oc:Value) (od:Option Addr) (kV doc pm ct:Value) (an:Option Addr) (osl:Array (Option Value)) (ccl:Value) (cdd:Option Addr) (vs:Array Value) (ccs:Array (Option Value)) (file:Str) (tf:Tok) (cl:Value) (cld:Option Addr) (csl:Array (Option Value)),
  K.lookup fI=some ⟨oc,od, .func (PySem.W.fnX "__init__" qual (defArgs ist) (defBody ist) (defScope ist) [("__class__",cc)] .none kV doc pm an (.ref cda) ct),osl⟩∧PySem.W.codeIn K (.ref cda) qual=true∧
  K.lookup cda=some ⟨ccl,cdd, .fields vs,ccs⟩∧vs[2]?=some (.str file tf)∧((P.main.file:Str) == file)=true∧K.lookup cc=some ⟨cl,cld, .cell (some (.ref D)),csl⟩
 top:(P.main.scope.names.lookup ("super":Str)).isSome=false
section
variable {CX : CXT} {P : Program} {w : World} {K : PySem.W.Frag} {mg : Str → Option Value} {base : Heap} {k : Nat} {qual : Str} {ist : Stmt} {D fI f2 : Addr} {N ps : List Str} {sp sp2 : Sp}
end
def wSup (sp2:SpD) (wa:WA) (wr:WS):WS:=fun E ds M=>wa ds M (fun xs M1=>wGet ds[0]? fun d0=>sp2 (d0 :: xs) M1 (fun _ M2=>wr E ds M2) (E.xc ds)) (E.xc ds)
theorem pSup {sp2:SpD} {wa:WA} {wr:WS} {E:ED} {ds:SD} {M:Mem}:(wSup sp2 wa wr E ds M)=(wa ds M (fun xs M1=>wGet ds[0]? fun d0=>sp2 (d0 :: xs) M1 (fun _ M2=>wr E ds M2) (E.xc ds)) (E.xc ds)):=propext Iff.rfl
def startFD (N:List Str) (ds:List D) (D0:Addr):SD:=ds.map some ++ (some (.ref D0) :: List.replicate (N.length - ds.length - 1) none)
theorem Sl.startF {K:PySem.W.Frag} {H:Hp} {N:Mem} {Ns:List Str} {ds:List D} {vs:List V} {D0:Addr} (h:DVs K H N ds vs):Sl K H N (NdefX.startF Ns vs [some (.ref D0)]) (startFD Ns ds D0):=by
 have e1:(ds.map some).length=vs.length:=by rw [List.length_map,h.len]
 refine ⟨?_,fun i d e=>?_⟩
 ·unfold startFD NdefX.startF
  simp only [List.length_append,List.length_map,List.length_cons,List.length_replicate,List.length_nil]
  rw [h.len]
  omega
 ·unfold startFD at e
  unfold NdefX.startF
  by_cases hi:i < ds.length
  ·rw [List.getElem?_append_left (by rw [List.length_map];exact hi),List.getElem?_map] at e
   cases q:ds[i]? with
   | none=>rw [q] at e;cases e
   | some d'=>
    rw [q] at e
    cases e
    obtain ⟨x,h1,h2⟩:=h.get q
    exact ⟨x,by rw [List.getElem?_append_left (by rw [List.length_map,h.len];exact hi),List.getElem?_map,h1];rfl,h2⟩
  ·rw [List.getElem?_append_right (by rw [List.length_map];omega),List.length_map] at e
   rw [List.getElem?_append_right (by rw [List.length_map,h.len];omega),List.length_map,h.len]
   cases hk:i - ds.length with
   | zero=>
    rw [hk] at e
    cases e
    exact ⟨.ref D0,rfl,rfl⟩
   | succ m=>
    rw [hk] at e
    have e:(List.replicate (Ns.length - ds.length - 1) (none:Option D))[m]?=some (some d):=e
    rw [List.getElem?_replicate] at e
    split at e <;> cases e
end DL
set_option maxHeartbeats 4000000
namespace DL
open PySem PySem.Spec PyProof.Rows L2 RZ
def dcR (g:GD) (tt:WT) (tk tv:WE) (ds:SD):List D→List Key→List D→Mem→(List Key→List D→Mem→Prop)→Prop
 | [],ks,xs,M,k=>k ks xs M
 | d :: items,ks,xs,M,k=>g d ds fun ds2=>tt ds2 M (fun b M1=>if b=true then tk ds2 M1 (fun y M2=>tv ds2 M2 (fun z M3=>optK (keyD y) fun j=>xs.length < sizeLine∧dcR g tt tk tv ds items (putDk ks xs j z).1 (putDk ks xs j z).2 M3 k) XF) XF else dcR g tt tk tv ds items ks xs M1 k) XF
def wDc (wi:WI) (g:GD) (tt:WT) (tk tv:WE) (vs:List Nat):WE:=fun ds M Q Xc=>wi ds M (fun items M1=>dcR g tt tk tv (wipeD ds vs) items [] [] M1 fun ks xs M2=>Q (.dct ks xs) M2) Xc
theorem pDc {wi:WI} {g:GD} {tt:WT} {tk tv:WE} {vs:List Nat} {ds:SD} {M:Mem} {Q:KN} {X:KX}:(wDc wi g tt tk tv vs ds M Q X)=(wi ds M (fun items M1=>dcR g tt tk tv (wipeD ds vs) items [] [] M1 fun ks xs M2=>Q (.dct ks xs) M2) X):=propext Iff.rfl
section
variable {K : PySem.W.Frag} {H : Hp} {σ : L2.St}
end
section
variable {X : Cx} {W : WX} {kx vx tg iter c : Expr} {ifs : List Expr} {scope : Scope} {own : List (Str × Nat)} {pos : Pos} {wi : WI} {g : GD} {tt : WT} {tk tv : WE} {is : List Nat}
end
def rIntSD:RDs:=fun ds M Q=>match ds with
 | [.str x]=>optK (PySem.intText? x) fun n=>x.length≤640∧Q (.int n) M
 | _=>rIntCD ds M Q
theorem rIntS_str {x:Str} {M:Mem} {Q:KN}:(rIntSD [.str x] M Q)=(optK (PySem.intText? x) fun n=>x.length≤640∧Q (.int n) M):=propext Iff.rfl
end DL
set_option maxHeartbeats 4000000
namespace DL
open PySem PySem.Spec PyProof.Rows L2 RZ
def fstM (C:Addr) (ns:List Str) (f:Str) (o:Option Nat) (v d:D) (M:Mem) (k:Mem→Prop):Prop:=match d with
 | .ref a=>optK (moIns (M a)) fun p=>p.1=C∧p.2.1=ns∧k (mput M a (.ins C (putD ns p.2.2 f v o).1 (putD ns p.2.2 f v o).2))
 | _=>False
theorem fstM_ref {C:Addr} {ns:List Str} {f:Str} {o:Option Nat} {v:D} {a:Addr} {M:Mem} {k:Mem→Prop}:(fstM C ns f o v (.ref a) M k)=(optK (moIns (M a)) fun p=>p.1=C∧p.2.1=ns∧k (mput M a (.ins C (putD ns p.2.2 f v o).1 (putD ns p.2.2 f v o).2))):=propext Iff.rfl
def f2K (C:Addr) (ns1:List Str) (f1:Str) (o1:Option Nat) (ns2:List Str) (f2:Str) (o2:Option Nat) (wo:WE) (E:ED) (ds:SD) (d:D) (M:Mem):Prop:=match d with
 | .tup [v1,v2]=>wo ds M (fun s1 M2=>fstM C ns1 f1 o1 v1 s1 M2 fun M3=>wo ds M3 (fun s2 M4=>fstM C ns2 f2 o2 v2 s2 M4 fun M5=>E.nx ds M5) (E.xc ds)) (E.xc ds)
 | _=>False
theorem f2K_tup {C:Addr} {ns1:List Str} {f1:Str} {o1:Option Nat} {ns2:List Str} {f2:Str} {o2:Option Nat} {wo:WE} {E:ED} {ds:SD} {v1 v2:D} {M:Mem}:
  (f2K C ns1 f1 o1 ns2 f2 o2 wo E ds (.tup [v1,v2]) M)=(wo ds M (fun s1 M2=>fstM C ns1 f1 o1 v1 s1 M2 fun M3=>wo ds M3 (fun s2 M4=>fstM C ns2 f2 o2 v2 s2 M4 fun M5=>E.nx ds M5) (E.xc ds)) (E.xc ds)):=propext Iff.rfl
def wAsgF2 (C:Addr) (ns1:List Str) (f1:Str) (o1:Option Nat) (ns2:List Str) (f2:Str) (o2:Option Nat) (we wo:WE):WS:=fun E ds M=>we ds M (f2K C ns1 f1 o1 ns2 f2 o2 wo E ds) (E.xc ds)
theorem pAsgF2 {C:Addr} {ns1:List Str} {f1:Str} {o1:Option Nat} {ns2:List Str} {f2:Str} {o2:Option Nat} {we wo:WE} {E:ED} {ds:SD} {M:Mem}:(wAsgF2 C ns1 f1 o1 ns2 f2 o2 we wo E ds M)=(we ds M (f2K C ns1 f1 o1 ns2 f2 o2 wo E ds) (E.xc ds)):=propext Iff.rfl
section
variable {X : Cx} {W : WX} {o e : Expr} {wo we : WE} {C : Addr} {ns1 ns2 : List Str} {f1 f2 : Str} {o1 o2 : Option Nat} {q1 q2 q3 pos : Pos} {kk : Nat}
end
def wCM (C:Addr) (sp:SpD) (wo:WE) (wa:WA):WE:=fun ds M Q Xc=>wo ds M (fun d M1=>d= .ref C∧wa ds M1 (fun xs M2=>sp (.ref C :: xs) M2 Q Xc) Xc) Xc
theorem pCM {C:Addr} {sp:SpD} {wo:WE} {wa:WA} {ds:SD} {M:Mem} {Q:KN} {Xc:KX}:(wCM C sp wo wa ds M Q Xc)=(wo ds M (fun d M1=>d= .ref C∧wa ds M1 (fun xs M2=>sp (.ref C :: xs) M2 Q Xc) Xc) Xc):=propext Iff.rfl
def wMakeV (C:Addr) (sp:SpD) (i:Nat) (wa:WA):WE:=fun ds M Q Xc=>wGet ds[i]? fun d=>d= .ref C∧wMake C sp wa ds M Q Xc
theorem pMakeV {C:Addr} {sp:SpD} {i:Nat} {wa:WA} {ds:SD} {M:Mem} {Q:KN} {Xc:KX}:(wMakeV C sp i wa ds M Q Xc)=(wGet ds[i]? fun d=>d= .ref C∧wMake C sp wa ds M Q Xc):=propext Iff.rfl
section
variable {X : Cx} {W : WX} {o e : Expr} {es : List Expr} {wo : WE} {wa : WA} {k j i : Nat} {C p g fI : Addr} {mc : Value} {sp : SpD} {m x : Str} {pp pos apos : Pos} {pl : Sem Bool}
end
end DL
set_option maxHeartbeats 2000000
namespace DL
open PySem PySem.Spec PyProof.Rows L2 RZ He
structure CMt (K:PySem.W.Frag) (C:Addr) (m:Str) (p g:Addr):Prop where
 rd:ClX.CRead K C (.type "type")
 cm:ClX.CMet K C (.type "type") m p g
def bNst (K:PySem.W.Frag) (C:Addr):Bool:=decide (PySem.W.subIn K (.ref C) (.type "StopIteration")=some false)
theorem bNst_ok {K:PySem.W.Frag} {C:Addr} (h:bNst K C=true):PySem.W.subIn K (.ref C) (.type "StopIteration")=some false:=of_decide_eq_true h
section
variable {X : Cx} {W : WX} {o e : Expr} {es : List Expr} {wo : WE} {wa : WA} {k j i : Nat} {C p g : Addr} {sp : SpD} {m : Str} {pos apos : Pos} {pl : Sem Bool}
end
end DL
set_option maxHeartbeats 2000000
namespace DL
open PySem PySem.Spec PyProof.Rows L2 RZ
def rLcntS:D→List D→Mem→KN→Prop:=fun d ds M Q=>match d,ds with
 | .lst ys, [.str k]=>optK (strsD ys) fun bs=>Q (.int (bs.count k:Nat)) M
 | _,_=>False
theorem rLcntS_p {ys:List D} {k:Str} {M:Mem} {Q:KN}:rLcntS (.lst ys) [.str k] M Q=(optK (strsD ys) fun bs=>Q (.int (bs.count k:Nat)) M):=propext Iff.rfl
section
variable {X : Cx}
end
end DL
set_option maxHeartbeats 4000000
namespace DL
open PySem PySem.Spec PyProof.Rows L2 RZ
section
variable {X : Cx} {W : WX} {kx vx tg iter : Expr} {ifs : List Expr} {scope : Scope} {own : List (Str × Nat)} {pos spos py : Pos} {wi : WI} {g : GD} {tt : WT} {tk tv : WE} {is : List Nat}
end
end DL
set_option maxHeartbeats 2000000
namespace DL
open PySem PySem.Spec PyProof.Rows L2 RZ
section
variable {X : Cx} {W : WX} {x a y0 : Str} {g c P : Addr} {st : Stmt} {N : List Str} {cs : List Value} {XT : List XRow} {wb : WE} {params : Arguments} {body : Expr} {scope : Scope} {lpos pos p dp : Pos} {j k : Nat} {n : Int} {dk : Nat}
end
end DL
namespace DL
open PySem PySem.Spec PyProof.Rows L2 RZ
end DL
namespace DL
open PySem PySem.Spec PyProof.Rows L2 RZ
def zD:=
 And.intro (And.intro (And.intro (And.intro (And.intro (And.intro (And.intro (@rIsO_p) (@pEi)) (And.intro (@pLcU) (And.intro (@rNeF_p) (@pMakeK))))
 (And.intro (And.intro (@pSortR) (And.intro (@pSortL) (@pLsR))) (And.intro (@pDc) (And.intro (@rLcntS_p) (@rIntS_str))))) (And.intro (And.intro
 (And.intro (@pAsgF2) (@f2K_tup)) (And.intro (@fstM_ref) (And.intro (@pCM) (@pMakeV)))) (And.intro (And.intro (@pSup) (And.intro (@pStat) (@pTryF)))
 (And.intro (@rSort_p) (And.intro (@rMax_p) (@rLcnt_p)))))) (And.intro (And.intro (And.intro (And.intro (@rEqO_p) (@rReprO_p)) (And.intro (@rRevD_p)
 (And.intro (@pFau) (@pFst)))) (And.intro (And.intro (@pRaise) (And.intro (@pPar3) (@pParK3))) (And.intro (@rMulS_p) (And.intro (@pFmt) (@pFmtS)))))
 (And.intro (And.intro (And.intro (@pFmtI) (@pJs0)) (And.intro (@pJs1) (And.intro (@pStrKD) (@pVar)))) (And.intro (And.intro (@pGet) (And.intro (@pC)
 (@pOp))) (And.intro (@pUn) (And.intro (@pCB) (@pNil))))))) (And.intro (And.intro (And.intro (And.intro (And.intro (@pCons) (@pTest)) (And.intro (@pBl)
 (And.intro (@pAndT) (@pOrT)))) (And.intro (And.intro (@pNotT) (And.intro (@pAndV) (@pOrV))) (And.intro (@pNotV) (And.intro (@pIfE) (@pTup)))))
 (And.intro (And.intro (And.intro (@pLst) (@pLstO)) (And.intro (@pCall) (And.intro (@pMeth) (@pFld)))) (And.intro (And.intro (@pProp) (And.intro
 (@pMake) (@pCv))) (And.intro (@pSl) (And.intro (@pNo) (@pSome)))))) (And.intro (And.intro (And.intro (And.intro (@pIntK) (@pN)) (And.intro (@pT)
 (And.intro (@pGC) (@pGN)))) (And.intro (And.intro (@pIf) (And.intro (@pRet) (@pRetN))) (And.intro (@pDrop) (And.intro (@pAsg) (@pNx))))) (And.intro
 (And.intro (And.intro (@pBrk) (@pCnt)) (And.intro (@pNever) (And.intro (@pSub) (@pAug)))) (And.intro (And.intro (@pPar) (And.intro (@pParK) (@pBM)))
 (And.intro (@pFor) (And.intro (@pLc) (@pLcO)))))))) (And.intro (And.intro (And.intro (And.intro (And.intro (And.intro (@pYes) (@piSeq)) (And.intro
 (@piStr) (And.intro (@pStrK) (@piRng1)))) (And.intro (And.intro (@pRng1K) (And.intro (@piRng2) (@pRng2K))) (And.intro (@piEnum) (And.intro (@pEnumK)
 (@piZip))))) (And.intro (And.intro (And.intro (@pZipL) (@pZipT)) (And.intro (@pFz) (And.intro (@pLenSet) (@pIsT)))) (And.intro (And.intro (@rIx_lst)
 (And.intro (@rIx_tup) (@rIx_ref))) (And.intro (@rIx_str) (And.intro (@rLen_str) (@rLen_lst)))))) (And.intro (And.intro (And.intro (And.intro
 (@rLen_tup) (@rLen_ref)) (And.intro (@rIs_p) (And.intro (@rInt_int) (@rInt_bl)))) (And.intro (And.intro (@rStr_int) (And.intro (@rList_p) (@rListO_p)))
 (And.intro (@rTup_p) (And.intro (@rAdd_int) (@rAdd_str))))) (And.intro (And.intro (And.intro (@rAdd_tup) (@rAdd_lst)) (And.intro (@rIntD_p) (And.intro
 (@rInt0_p) (@rEq_int)))) (And.intro (And.intro (@rEq_str) (And.intro (@rEq_bl) (@rEq_lst))) (And.intro (@rEq_tup) (And.intro (@rIsN_non)
 (@rIsN_bl))))))) (And.intro (And.intro (And.intro (And.intro (And.intro (@rIsN_int) (@rIsN_str)) (And.intro (@rIsN_tup) (And.intro (@rIsN_lst)
 (@rNeg_p)))) (And.intro (And.intro (@rSl_str) (And.intro (@rSl_tup) (@rSl_lst))) (And.intro (@rSl_scr) (And.intro (@rRep_p) (@pOptK))))) (And.intro
 (And.intro (And.intro (@pChain) (@piEnumA)) (And.intro (@pEnumA_tup) (And.intro (@pEnumA_lst) (@rInV_tup)))) (And.intro (And.intro (@rInV_lst)
 (And.intro (@rSlN_p) (@pSlN))) (And.intro (@pTn) (And.intro (@pTnK) (@pTM)))))) (And.intro (And.intro (And.intro (And.intro (@rTidx_p) (@rLidx_p))
 (And.intro (@rGtL_p) (And.intro (@pStar) (@pIfT)))) (And.intro (And.intro (@pCallK) (And.intro (@pDzip) (@pDzipK))) (And.intro (@pDzipO) (And.intro
 (@pDzipKO) (@rIsB_bl))))) (And.intro (And.intro (And.intro (@rDix_str) (@rDix_int)) (And.intro (@rIn_tup) (And.intro (@rIn_lst) (@rEq_ns)))) (And.intro
 (And.intro (@rEq_sn) (And.intro (@rRepT_p) (@rAll_f))) (And.intro (@rAll_t) (And.intro (@wSeq_p) (@seqE_nx))))))))
def zU:=
 And.intro (And.intro (And.intro (And.intro (And.intro (And.intro (And.intro (@isOK_s) (@isOK_n)) (And.intro (@at_0) (@at_1))) (And.intro (And.intro
 (@at_2) (@at_3)) (And.intro (@cut_1) (@cut_2)))) (And.intro (And.intro (And.intro (@dl_0_0) (@dl_0_1)) (And.intro (@dl_0_2) (@dl_0_3))) (And.intro
 (And.intro (@dl_0_4) (@dl_0_5)) (And.intro (@dl_1_0) (And.intro (@dl_1_1) (@dl_1_2)))))) (And.intro (And.intro (And.intro (And.intro (@dl_1_3)
 (@dl_1_4)) (And.intro (@dl_1_5) (@dl_2_0))) (And.intro (And.intro (@dl_2_1) (@dl_2_2)) (And.intro (@dl_2_3) (@dl_2_4)))) (And.intro (And.intro
 (And.intro (@dl_2_5) (@dl_3_0)) (And.intro (@dl_3_1) (@dl_3_2))) (And.intro (And.intro (@dl_3_3) (@dl_3_4)) (And.intro (@dl_3_5) (And.intro (@dl_4_0)
 (@dl_4_1))))))) (And.intro (And.intro (And.intro (And.intro (And.intro (@dl_4_2) (@dl_4_3)) (And.intro (@dl_4_4) (@dl_4_5))) (And.intro (And.intro
 (@dn_1_0) (@dn_2_0)) (And.intro (@dn_2_1) (@dn_3_0)))) (And.intro (And.intro (And.intro (@dn_3_1) (@dn_3_2)) (And.intro (@dn_4_0) (@dn_4_1)))
 (And.intro (And.intro (@dn_4_2) (@dn_4_3)) (And.intro (@seqE_rt) (And.intro (@seqE_bk) (@seqE_ct)))))) (And.intro (And.intro (And.intro (And.intro
 (@seqE_ex) (@frz_lst)) (And.intro (@frz_tup) (@at1_0))) (And.intro (And.intro (@at2_0) (@at2_1)) (And.intro (@at3_0) (@at3_1)))) (And.intro (And.intro
 (And.intro (@at3_2) (@at4_0)) (And.intro (@at4_1) (@at4_2))) (And.intro (And.intro (@at4_3) (@at5_0)) (And.intro (@at5_1) (And.intro (@at5_2)
 (@at5_3)))))))) (And.intro (And.intro (And.intro (And.intro (And.intro (And.intro (@at5_4) (@seqOf_put)) (And.intro (@seqOf_lst) (@seqOf_tup)))
 (And.intro (And.intro (@insK_same) (@tyN_non)) (And.intro (@tyN_bl) (@tyN_int)))) (And.intro (And.intro (And.intro (@tyN_str) (@tyN_tup)) (And.intro
 (@tyN_lst) (@tyN_dct))) (And.intro (And.intro (@isB_NoneType_bool) (@isB_NoneType_int)) (And.intro (@isB_NoneType_str) (And.intro (@isB_NoneType_tuple)
 (@isB_NoneType_list)))))) (And.intro (And.intro (And.intro (And.intro (@isB_NoneType_dict) (@isB_bool_bool)) (And.intro (@isB_bool_int)
 (@isB_bool_str))) (And.intro (And.intro (@isB_bool_tuple) (@isB_bool_list)) (And.intro (@isB_bool_dict) (@isB_int_bool)))) (And.intro (And.intro
 (And.intro (@isB_int_int) (@isB_int_str)) (And.intro (@isB_int_tuple) (@isB_int_list))) (And.intro (And.intro (@isB_int_dict) (@isB_str_bool))
 (And.intro (@isB_str_int) (And.intro (@isB_str_str) (@isB_str_tuple))))))) (And.intro (And.intro (And.intro (And.intro (And.intro (@isB_str_list)
 (@isB_str_dict)) (And.intro (@isB_tuple_bool) (@isB_tuple_int))) (And.intro (And.intro (@isB_tuple_str) (@isB_tuple_tuple)) (And.intro
 (@isB_tuple_list) (@isB_tuple_dict)))) (And.intro (And.intro (And.intro (@isB_list_bool) (@isB_list_int)) (And.intro (@isB_list_str)
 (@isB_list_tuple))) (And.intro (And.intro (@isB_list_list) (@isB_list_dict)) (And.intro (@isB_dict_bool) (And.intro (@isB_dict_int)
 (@isB_dict_str)))))) (And.intro (And.intro (And.intro (And.intro (@isB_dict_tuple) (@isB_dict_list)) (And.intro (@isB_dict_dict) (@isC_bool)))
 (And.intro (And.intro (@isC_int) (@isC_str)) (And.intro (@isC_tuple) (@isC_list)))) (And.intro (And.intro (And.intro (@isC_dict) (@isA_list_tuple))
 (And.intro (@isQ_NoneType) (@isQ_bool))) (And.intro (And.intro (@isQ_int) (@isQ_str)) (And.intro (@isQ_tuple) (And.intro (@isQ_list) (@isQ_dict))))))))
end DL
set_option maxHeartbeats 2000000
namespace DL
open PySem PySem.Spec PyProof.Rows L2 RZ
open LamX
section
variable {X : Cx} {pins : List (Addr × Obj)} {σ gs : L2.St} {H : Hp} {s : Shared} {G : List Str}
end
section
variable {X : Cx} {W : WX} {gs : L2.St} {G : List Str} {st : Stmt} {rest : List Stmt} {w u : WS} {pos : Pos} {e : Expr} {we : WE}
end
end DL
set_option maxHeartbeats 2000000
namespace DL
open PySem PySem.Spec PyProof.Rows L2 RZ
open LamX
structure LamN (sc scope:Scope) (N N':List Str) (y1 y2:Str):Prop where
 kind:scope.kind= .function
 co:scope.isCoroutine=false
 gen:scope.isGenerator=false
 own:∀z∈scope.names,z.2= .local→z.1=y1∨z.1=y2
 nc:∀z∈scope.names,z.2≠ .cell
 l1:scope.names.lookup y1=some .local
 l2:scope.names.lookup y2=some .local
 ne:y1≠y2
 free:∀z∈scope.names,z.2= .free→sc.names.lookup z.1=some .cell∨sc.names.lookup z.1=some .free
 len:N'.length=N.length
 hid:∀(i:Nat) (z:Str),N'[i]?=some z→Vis scope z→N[i]?=some z∧z≠y1∧z≠y2
theorem LamN.has {X:Cx} {scope:Scope} {N N':List Str} {y1 y2:Str} (L:LamN X.env.scope scope N N' y1 y2) (ok:X.Ok):∀y∈scope.names,y.2= .free→∃c,X.env.cells.lookup y.1=some c:=fun y hy e=>by
 rcases L.free y hy e with k | k
 ·exact ok.has _ (.inl k)
 ·exact ok.has _ (.inr k)
section
variable {X : Cx} {pins : List (Addr × Obj)} {σ : L2.St} {H HZ : Hp} {s s1 : Shared}
end
end DL
set_option maxHeartbeats 2000000
namespace DL
open PySem PySem.Spec PyProof.Rows L2 RZ
open LamX
def wCallL (i:Nat) (f:Addr) (n:Nat) (P:Addr) (q:Str) (wL:WE) (wa:WA):WE:=fun ds M Q Xc=>ds[i]?=some (some (.ref f))∧wa ds M (fun xs M1=>∃x1 x2,xs= [x1,x2]∧M1 P=some (.tab q)∧wL (ds.drop n ++ [some x1,some x2]) M1 Q Xc) Xc
section
variable {X : Cx} {pins : List (Addr × Obj)} {σ : L2.St} {H : Hp} {s : Shared}
end
end DL
set_option maxHeartbeats 2000000
namespace DL
open PySem PySem.Spec PyProof.Rows L2 RZ
open LamX
def wBr (P:Addr) (q:Str) (w1 w2 w3:WE) (wB:Addr→WS):WE:=fun ds M Q Xc=>w1 ds M (fun x1 M1=>w2 ds M1 (fun x2 M2=>w3 ds M2 (fun x3 M3=>M3 P=some (.tab q)∧
 ∀f,wB f {nx:=fun _ M=>Fin Q .non M,rt:=Fin Q,ex:=fun x _ M=>Xc x M} (some x1 :: some x2 :: some x3 :: some (.ref f) :: ds) M3) Xc) Xc) Xc
theorem pBr {P:Addr} {q:Str} {w1 w2 w3:WE} {wB:Addr→WS} {ds:SD} {M:Mem} {Q:KN} {Xc:KX}:wBr P q w1 w2 w3 wB ds M Q Xc=(w1 ds M (fun x1 M1=>w2 ds M1 (fun x2 M2=>w3 ds M2 (fun x3 M3=>M3 P=some (.tab q)∧
 ∀f,wB f {nx:=fun _ M=>Fin Q .non M,rt:=Fin Q,ex:=fun x _ M=>Xc x M} (some x1 :: some x2 :: some x3 :: some (.ref f) :: ds) M3) Xc) Xc) Xc):=propext Iff.rfl
theorem pCallL {i:Nat} {f:Addr} {n:Nat} {P:Addr} {q:Str} {wL:WE} {wa:WA} {ds:SD} {M:Mem} {Q:KN} {Xc:KX}:wCallL i f n P q wL wa ds M Q Xc=(ds[i]?=some (some (.ref f))∧wa ds M (fun xs M1=>∃x1 x2,xs= [x1,x2]∧M1 P=some (.tab q)∧wL (ds.drop n ++ [some x1,some x2]) M1 Q Xc) Xc):=propext Iff.rfl
section
variable {X : Cx} {W : WX}
end
end DL
set_option maxHeartbeats 2000000
namespace DL
open PySem PySem.Spec PyProof.Rows L2 RZ He
end DL
set_option maxHeartbeats 2000000
namespace DL
open PySem PySem.Spec PyProof.Rows L2 RZ
def lcR2 (g:GD) (tt:WT) (wi1:WI) (g1:GD) (tt1:WT) (te:WE) (vs1:List Nat) (ds:SD):List D→List D→Mem→(List D→Mem→Prop)→Prop
 | [],acc,M,k=>k acc M
 | d :: items,acc,M,k=>g d ds fun ds2=>tt ds2 M (fun b M1=>if b=true then wi1 ds2 M1 (fun its M2=>lcR g1 tt1 te (wipeD ds2 vs1) its acc M2 fun acc' M3=>lcR2 g tt wi1 g1 tt1 te vs1 ds items acc' M3 k) XF else lcR2 g tt wi1 g1 tt1 te vs1 ds items acc M1 k) XF
def wLc2 (wi:WI) (g:GD) (tt:WT) (wi1:WI) (g1:GD) (tt1:WT) (te:WE) (vs vs1:List Nat):WE:=fun ds M Q Xc=>wi ds M (fun items M1=>lcR2 g tt wi1 g1 tt1 te vs1 (wipeD ds vs) items [] M1 fun ys M2=>Q (.lst ys) M2) Xc
def wLc2O (wi:WI) (g:GD) (tt:WT) (wi1:WI) (g1:GD) (tt1:WT) (te:WE) (vs vs1:List Nat):WE:=fun ds M Q Xc=>wi ds M (fun items M1=>lcR2 g tt wi1 g1 tt1 te vs1 (wipeD ds vs) items [] M1 fun ys M2=>∀a,M2 a=none→Q (.ref a) (mput M2 a (.lst ys))) Xc
theorem pLc2 {wi:WI} {g:GD} {tt:WT} {wi1:WI} {g1:GD} {tt1:WT} {te:WE} {vs vs1:List Nat} {ds:SD} {M:Mem} {Q:KN} {Xc:KX}:wLc2 wi g tt wi1 g1 tt1 te vs vs1 ds M Q Xc=(wi ds M (fun items M1=>lcR2 g tt wi1 g1 tt1 te vs1 (wipeD ds vs) items [] M1 fun ys M2=>Q (.lst ys) M2) Xc):=propext Iff.rfl
theorem pLc2O {wi:WI} {g:GD} {tt:WT} {wi1:WI} {g1:GD} {tt1:WT} {te:WE} {vs vs1:List Nat} {ds:SD} {M:Mem} {Q:KN} {Xc:KX}:wLc2O wi g tt wi1 g1 tt1 te vs vs1 ds M Q Xc=(wi ds M (fun items M1=>lcR2 g tt wi1 g1 tt1 te vs1 (wipeD ds vs) items [] M1 fun ys M2=>∀a,M2 a=none→Q (.ref a) (mput M2 a (.lst ys))) Xc):=propext Iff.rfl
section
variable {K : PySem.W.Frag} {F : Mem} {D0 : Addr}
end
section
variable {K : PySem.W.Frag} {σ : L2.St} {H : Hp}
end
section
variable {X : Cx} {W : WX} {elt tg iter tg1 iter1 : Expr} {ifs ifs1 : List Expr} {scope : Scope} {own : List (Str × Nat)} {pos : Pos} {wi wi1 : WI} {g g1 : GD} {tt tt1 : WT} {te : WE} {is is1 vs1 : List Nat}
end
end DL
set_option maxHeartbeats 2000000
namespace DL
open PySem PySem.Spec PyProof.Rows L2 RZ He
def kvOf (e:DictEntry):Option (Str×Int):=match e.key,e.val with
 | .str k _, .int i _=>some (k,i)
 | _,_=>none
structure KDI (K:PySem.W.Frag) (w:World) (mg:Str→Option Value) (x:Str) (kvs:List (Str×Int)):Prop where
 ex:∃(a:Addr) (es:Array DictEntry) (n:Nat),mg x=some (.ref a)∧KDict K w a es n∧es.toList.map kvOf=kvs.map some
def wKget (kvs:List (Str×Int)) (j:Int) (we:WE):WE:=fun ds M Q Xc=>we ds M (fun d M1=>match d with
 | .str z=>Q (.int ((kvs.lookup z).getD j)) M1
 | _=>False) Xc
def kgetK (kvs:List (Str×Int)) (j:Int) (Q:KN) (d:D) (M:Mem):Prop:=match d with
 | .str z=>Q (.int ((kvs.lookup z).getD j)) M
 | _=>False
theorem pKget {kvs:List (Str×Int)} {j:Int} {we:WE} {ds:SD} {M:Mem} {Q:KN} {Xc:KX}:wKget kvs j we ds M Q Xc=we ds M (kgetK kvs j Q) Xc:=rfl
theorem kget_str {kvs:List (Str×Int)} {j:Int} {z:Str} {M:Mem} {Q:KN}:kgetK kvs j Q (.str z) M=Q (.int ((kvs.lookup z).getD j)) M:=rfl
section
variable {X : Cx} {W : WX} {we : WE} {e : Expr} {x : Str} {p apos cpos cp : Pos} {jj : Nat}
end
def rInKD (neg:Bool):RD2:=fun d e M Q=>optK (dctOf M e) fun p=>optK (keyD d) fun k=>Q (.bl (xor neg (valD p.1 p.2 k).isSome)) M
theorem rInK_dct {neg:Bool} {ks:List Key} {xs:List D} {z:Str} {M:Mem} {Q:KN}:rInKD neg (.str z) (.dct ks xs) M Q=Q (.bl (xor neg (valD ks xs (.inr z)).isSome)) M:=rfl
def rMin2D:RDs:=fun ds M Q=>match ds with
 | [.int i, .int j]=>Q (.int (if j < i then j else i)) M
 | _=>False
theorem rMin2_p {i j:Int} {M:Mem} {Q:KN}:rMin2D [.int i, .int j] M Q=Q (.int (if j < i then j else i)) M:=rfl
end DL
set_option maxHeartbeats 2000000
namespace DL
open PySem PySem.Spec PyProof.Rows L2 RZ He
end DL
set_option maxHeartbeats 2000000
namespace DL
open PySem PySem.Spec PyProof.Rows L2 RZ
section
variable {X : Cx} {W : WX} {elt tg iter tg1 iter1 : Expr} {ifs ifs1 : List Expr} {scope : Scope} {own : List (Str × Nat)} {pos spos py : Pos} {wi wi1 : WI} {g g1 : GD} {tt tt1 : WT} {te : WE} {is is1 vs1 : List Nat}
end
end DL
namespace DL
open PySem PySem.Spec PyProof.Rows L2 RZ
section
variable {X : Cx}
end
end DL
namespace DL
open PySem PySem.Spec PyProof.Rows L2 RZ
section
variable {X : Cx}
end
end DL
namespace DL
open PySem PySem.Spec PyProof.Rows L2 RZ
section
variable {prog : Program} {w : World} {A : Around} {E : Value → Shared → Prop} {s : Shared} {Q : Bool → Shared → Prop}
def TupsN (h:Heap) (vs:List Value):Prop:=∀v,v∈vs→∃ns,TS.TupInts h v ns∧ns≠ []
theorem TupsN.keeps {h h':Heap} {vs:List Value} (x:TupsN h vs) (k:∀b o,h.get? b=some o→o.cls= .type "tuple"→h'.get? b=some o):TupsN h' vs:=fun v hv=>
 let ⟨ns,t,r⟩:=x v hv;⟨ns,t.keeps k,r⟩
end
theorem DVs.mem {K:PySem.W.Frag} {H:Hp} {M:Mem} {α:Type} {f:α→D}:∀{l:List α} {xs:List V},DVs K H M (l.map f) xs→∀x∈xs,∃a∈l,DV K H M (f a) x
 | [],_,h,x,hx=>by
  cases (show _= [] from h)
  cases hx
 | a :: l,_,h,x,hx=>by
  obtain ⟨y,ys,e,h1,h2⟩:=h
  subst e
  rcases List.mem_cons.mp hx with rfl | hx
  ·exact ⟨a,List.mem_cons_self,h1⟩
  ·obtain ⟨b,hb,h3⟩:=DVs.mem h2 x hx
   exact ⟨b,List.mem_cons_of_mem _ hb,h3⟩
theorem DVs.of_map {K:PySem.W.Frag} {H:Hp} {M:Mem} {α:Type} {f:α→D} {g:α→V}:∀{l:List α},(∀a∈l,DV K H M (f a) (g a))→DVs K H M (l.map f) (l.map g)
 | [],_=>rfl
 | a :: l,h=>⟨g a,l.map g,rfl,h a List.mem_cons_self,DVs.of_map fun b hb=>h b (List.mem_cons_of_mem _ hb)⟩
section
variable {X : Cx}
end
end DL
namespace DL
open PySem PySem.Spec PyProof.Rows L2 RZ
def wMethK (C:Addr) (ns:List Str) (sp:SpD) (mm:Nat) (ord:List Nat) (we:WE) (wk:WA):WE:=fun ds M Q Xc=>we ds M (fun d M1=>insK C ns M1 d fun _=>wk ds M1 (fun ys M2=>sp (gOrd 1 mm ord [d] ys) M2 Q Xc) Xc) Xc
theorem pMethK {C:Addr} {ns:List Str} {sp:SpD} {mm:Nat} {ord:List Nat} {we:WE} {wk:WA} {ds:SD} {M:Mem} {Q:KN} {X:KX}:(wMethK C ns sp mm ord we wk ds M Q X)=(we ds M (fun d M1=>insK C ns M1 d fun _=>wk ds M1 (fun ys M2=>sp (gOrd 1 mm ord [d] ys) M2 Q X) X) X):=propext Iff.rfl
section
variable {X : Cx} {W : WX} {m : Str} {pos apos : Pos} {o : Expr} {kws : List Keyword} {we : WE} {wk : WA} {k j mm : Nat} {ord : List Nat} {g C : Addr} {sp : SpD} {ks ns : List Str}
end
end DL
namespace DL
open PySem PySem.Spec PyProof.Rows L2 RZ
def wDctO:WE:=fun _ M Q _=>∀a,M a=none→Q (.ref a) (mput M a (.dct [] []))
theorem pDctO {ds:SD} {M:Mem} {Q:KN} {X:KX}:(wDctO ds M Q X)=(∀a,M a=none→Q (.ref a) (mput M a (.dct [] []))):=propext Iff.rfl
section
variable {X : Cx} {W : WX} {pos : Pos}
end
end DL
namespace DL
open PySem PySem.Spec PyProof.Rows L2 RZ
def XIt (h:Heap):Bool→Addr→Addr→Nat→Prop
 | true,it,a,i=>h.IsListIter it a i
 | false,it,a,i=>h.IsTupleIter it a i
def itObj (f:Bool) (a:Addr):Obj:={cls:= .type (if f=true then "list_iterator" else "tuple_iterator"),data:= .fields #[.ref a, .int 0 0]}
section
variable {X : Cx} {pins : List (Addr × Obj)} {σ : L2.St} {H : Hp} {s : Shared} {h h' : Heap} {it a : Addr} {i : Nat}
theorem XIt.at':∀{f:Bool},XIt h f it a i→(∀o,h.get? it=some o→h'.get? it=some o)→XIt h' f it a i
 | true,x,k=>x.at k
 | false,x,k=>x.at k
theorem XIt.obj:∀{f:Bool},XIt h f it a i→∃o,h.get? it=some o∧∀v,o.data≠ .cell v
 | true,⟨o,e,_,d⟩=>⟨o,e,fun v q=>by rw [d] at q;cases q⟩
 | false,⟨o,e,_,d⟩=>⟨o,e,fun v q=>by rw [d] at q;cases q⟩
theorem XIt.new:∀{f:Bool},h.get? it=some (itObj f a)→XIt h f it a 0
 | true,e=>⟨_,e,rfl,rfl⟩
 | false,e=>⟨_,e,rfl,rfl⟩
end
end DL
namespace DL
open PySem PySem.Spec PyProof.Rows L2 RZ
def zip3D (xs ys zs:List D):List D:=List.zipWith (fun x (p:D×D)=>D.tup [x,p.1,p.2]) xs (ys.zip zs)
section
variable {K : PySem.W.Frag} {H0 : Hp} {N0 : Mem}
end
def zip3K (Q:List D→Mem→Prop) (es:List D) (M:Mem):Prop:=match es with
 | [x,y,z]=>optK (frzSeq x) fun xs=>optK (frzSeq y) fun ys=>optK (frzSeq z) fun zs=>Q (zip3D xs ys zs) M
 | _=>False
def wiZip3 (wa:WA):WI:=fun ds M Q Xc=>wa ds M (zip3K Q) Xc
theorem piZip3 {wa:WA} {ds:SD} {M:Mem} {Q:List D→Mem→Prop} {X:KX}:(wiZip3 wa ds M Q X)=(wa ds M (zip3K Q) X):=propext Iff.rfl
theorem pZip3K {Q:List D→Mem→Prop} {x y z:D} {M:Mem}:(zip3K Q [x,y,z] M)=(optK (frzSeq x) fun xs=>optK (frzSeq y) fun ys=>optK (frzSeq z) fun zs=>Q (zip3D xs ys zs) M):=propext Iff.rfl
section
variable {X : Cx} {W : WX} {a b c : Expr} {wa : WA} {p pos tpos : Pos} {elts : List Expr} {kk : Nat}
end
end DL
namespace DL
open PySem PySem.Spec PyProof.Rows L2 RZ
section
variable {X : Cx}
end
end DL
set_option maxHeartbeats 2000000
namespace DL
open PySem PySem.Spec PyProof.Rows L2 RZ
structure XBase where
 cls:String
 new:String
 ini:String
 tail:List Value
structure XBase.Ok (b:XBase):Prop where
 made:ExcBaseFacts b.cls b.new b.ini b.tail
 kept:StoreFacts b.cls b.tail "object.__setattr__" "object"
 sup:PySem.W.KxsFacts b.cls b.ini
def strip:List Value→List Value
 | .ref _ :: r=>strip r
 | l=>l
section
open Builtin Builtin.ObjectAttr PySem.HandSPX
variable {prog : Program} {w : World} {A : Around} {E : Value → Shared → Prop} {R : Result → Shared → Prop} {hp : Heap} {g : Array GenState} {d : Drawn} {t : Nat} {os : OsState}
variable {K : PySem.W.Frag} {b : XBase} {name : Str} {tk : Tok} {v : Value} {x C : Addr} {fv : Array Value} {cd : ClassData}
end
structure OexB (b:XBase) (K:PySem.W.Frag) (C:Addr):Prop where
 ok:b.Ok
 cls:∃nm q N bs bm sn sub ab col dd k0 k1 k2 k3 k5,K.lookup C=some (excClassObj nm q C N bs bm true sn sub ab col dd k0 k1 k2 k3 k5 b.new)∧strip bm=b.tail
 sa:PySem.W.findIn K (.ref C) "__setattr__"=some (some (.builtin "object.__setattr__"))
 exC:PySem.W.subIn K (.ref C) (.type "BaseException")=some true
 tyC:PySem.W.typeIn K (.ref C)=some (.type "type")
 kC:PySem.W.keepIn K (.ref C)=true
theorem OexB.cd {b:XBase} {K:PySem.W.Frag} {C:Addr} (T:OexB b K C):∃cd,PySem.W.clsIn K C=some cd∧strip cd.mro=b.tail∧cd.mro≠ []∧cd.hasDict=true:=by
 obtain ⟨nm,q,N,bs,bm,sn,sub,ab,col,dd,k0,k1,k2,k3,k5,hC,hb⟩:=T.cls
 refine ⟨{name:=nm,bases:=bs,mro:= .ref C :: bm,ns:=N,qualname:=q,hasDict:=true,slotNames:=sn,subclasses:=sub,abstract:=ab,collection:=col,hasDel:=false},?_,hb,(fun e=>nomatch e),rfl⟩
 unfold PySem.W.clsIn
 rw [hC] <;> rfl
section
variable {b : XBase} {X : Cx} {pins : List (Addr × Obj)} {σ : L2.St} {H : Hp} {s : Shared} {a C dx : Addr} {f : Str} {y : V} {u : Value} {fs : List (Str × V)} {Q : Unit → Shared → Prop} {E : Value → Shared → Prop} {A : Around}
end
end DL
set_option maxHeartbeats 2000000
namespace DL
open PySem PySem.Spec PyProof.Rows L2 RZ
structure ExCB (xb:XBase) (P:Program) (K:PySem.W.Frag) (qual:Str) (ist:Stmt) (C fI:Addr):Prop where
 oex:OexB xb K C
 init:PySem.W.findIn K (.ref C) "__init__"=some (some (.ref fI))
 tyI:PySem.W.typeIn K (.ref fI)=some (.type "function")
 sup:PySem.W.ks_superIn K C C "__init__"=some (some (.builtin xb.ini))
 sub:PySem.W.subIn K (.ref C) (.type xb.cls)=some true
 mro:PySem.W.mroIn K C (.ref C)=some true
 op:PySem.W.nsIn K PySem.cStatics "thirdparty.any"=some none
 xf:XfC K C
 fn:∃(cc cda:Addr) (oc:Value) (od:Option Addr) (kV doc pm ct:Value) (an:Option Addr) (osl:Array (Option Value)) (ccl:Value) (cdd:Option Addr) (vs:Array Value) (ccs:Array (Option Value)) (file:Str) (tf:Tok) (cl:Value) (cld:Option Addr) (csl:Array (Option Value)),
  K.lookup fI=some ⟨oc,od, .func (PySem.W.fnX "__init__" qual (defArgs ist) (defBody ist) (defScope ist) [("__class__",cc)] .none kV doc pm an (.ref cda) ct),osl⟩∧PySem.W.codeIn K (.ref cda) qual=true∧
  K.lookup cda=some ⟨ccl,cdd, .fields vs,ccs⟩∧vs[2]?=some (.str file tf)∧((P.main.file:Str) == file)=true∧K.lookup cc=some ⟨cl,cld, .cell (some (.ref C)),csl⟩
 top:(P.main.scope.names.lookup ("super":Str)).isSome=false
section
variable {xb : XBase} {P : Program} {w : World} {A : Around} {E : Value → Shared → Prop} {h : Heap} {g : Array GenState} {d : Drawn} {t : Nat} {os : OsState} {nm q : Str} {C N : Addr} {bs bm : List Value} {hdct : Bool} {sn : List Str} {sub : List Value} {ab : Bool} {col : Option Bool} {dd : Option Addr} {k0 k1 k2 k3 k5 : Option Value}
end
section
variable {xb : XBase} {CX : CXT} {P : Program} {w : World} {K : PySem.W.Frag} {mg : Str → Option Value} {base : Heap} {k : Nat} {qual : Str} {ist : Stmt} {C fI : Addr} {N ps : List Str} {sp : Sp}
end
structure XJB (xb:XBase) (P:Program) (w:World) (K:PySem.W.Frag) (mg:Str→Option Value) (base:Heap) (C fI:Addr) (fs:List Str) (tag:Str):Prop where
 ex:∃fd ps,FnOk P w K mg base CX0 1 fI fd ps (spEx C fs tag)∧Binds K fd ps []
 oex:OexB xb K C
 init:PySem.W.findIn K (.ref C) "__init__"=some (some (.ref fI))
 tyI:PySem.W.typeIn K (.ref fI)=some (.type "function")
section
variable {xb : XBase} {P : Program} {w : World} {K : PySem.W.Frag} {mg : Str → Option Value} {base : Heap} {k : Nat} {qual : Str} {ist : Stmt} {C fI : Addr} {f x tag : Str}
end
section
variable {xb : XBase} {X : Cx} {W : WX} {x : Str} {p pos rpos : Pos} {e : Expr} {es : List Expr} {wa : WA} {j : Nat} {C fI : Addr} {fs : List Str} {tag : Str}
end
end DL
namespace DL
open PySem PySem.Spec PyProof.Rows L2 RZ
def zQ:=And.intro zD (And.intro (@pKget) (And.intro (@kget_str) (And.intro (@rInK_dct) (And.intro (@rMin2_p) (And.intro (@pLc2) (And.intro (@pLc2O) (And.intro (@pBr) (And.intro (@pCallL) (And.intro (@pDctO) (And.intro (@pMethK) (And.intro (@piZip3) (@pZip3K))))))))))))
def zV:=And.intro zU (And.intro (@List.getElem?_cons_zero.{0}) (And.intro (@List.getElem?_cons_succ.{0}) (And.intro (@List.set_cons_zero.{0}) (And.intro (@List.set_cons_succ.{0})
 (And.intro (@List.length_cons.{0}) (And.intro (@List.length_nil.{0}) (And.intro (@true_and) (And.intro (@and_true) (And.intro (@Bool.not_true) (And.intro (@Bool.not_false) (And.intro (@Bool.false_eq_true) (And.intro (@Bool.true_xor) (@Bool.false_xor)))))))))))))
end DL
set_option maxHeartbeats 2000000
namespace DL
open PySem PySem.Spec PyProof.Rows L2 RZ He
end DL
namespace DL
open PySem PySem.Spec PyProof.Rows L2 RZ
def rTupN:RDs:=fun ds M Q=>match ds with
 | [.lst xs]=>Q (.tpn xs) M
 | _=>False
theorem rTupN_p {xs:List D} {M:Mem} {Q:KN}:(rTupN [.lst xs] M Q)=Q (.tpn xs) M:=propext Iff.rfl
section
variable {X : Cx} {W : WX}
end
end DL
namespace DL
open PySem PySem.Spec PyProof.Rows L2 RZ He
end DL
set_option maxHeartbeats 2000000
namespace DL
open PySem PySem.Spec PyProof.Rows L2 RZ He
section
variable {X : Cx} {C D : Addr} {ns : List Str}
end
structure OwnOr (K:PySem.W.Frag) (C f:Addr):Prop where
 at_:PySem.W.findIn K (.ref C) "__or__"=some (some (.ref f))
 fn:PySem.W.isFn K (.ref f)=true
 self:PySem.W.selfFirst K C=true
section
variable {X : Cx} {C g : Addr} {ns : List Str} {k j : Nat} {sp : SpD}
end
structure OwnNe (K:PySem.W.Frag) (C f:Addr):Prop where
 eq:OwnEq K C f
 ne:PySem.W.findIn K (.ref C) "__ne__"=some (some (.builtin "object.__ne__"))
 ob:PySem.W.mroIn K C (.type "object")=some true
section
open Builtin
variable {prog : Program} {w : World} {A : Around} {E : Value → Shared → Prop} {s : Shared} {K : PySem.W.Frag} {x C f : Addr} {ox : Obj} {od : Option Obj} {b : Value}
end
section
variable {X : Cx} {C g : Addr} {ns : List Str} {k j : Nat} {sp : SpD}
end
end DL
set_option maxHeartbeats 2000000
namespace DL
open PySem PySem.Spec PyProof.Rows L2 RZ He
def dK:Key→D
 | .inl i=> .int i
 | .inr x=> .str x
def itmD (ks:List Key) (xs:List D):List D:=List.zipWith (fun k x=>D.tup [dK k,x]) ks xs
def wiDct (we:WE):WI:=fun ds M Q Xc=>we ds M (fun d M1=>match d with
 | .dct ks _=>Q (ks.map dK) M1
 | _=>False) Xc
def wiItm (we:WE):WI:=fun ds M Q Xc=>we ds M (fun d M1=>match d with
 | .dct ks xs=>Q (itmD ks xs) M1
 | _=>False) Xc
def dctK (Q:List D→Mem→Prop):KN:=fun d M1=>match d with
 | .dct ks _=>Q (ks.map dK) M1
 | _=>False
def itmK (Q:List D→Mem→Prop):KN:=fun d M1=>match d with
 | .dct ks xs=>Q (itmD ks xs) M1
 | _=>False
theorem piDct {we:WE} {ds:SD} {M:Mem} {Q:List D→Mem→Prop} {Xc:KX}:wiDct we ds M Q Xc=we ds M (dctK Q) Xc:=propext Iff.rfl
theorem piItm {we:WE} {ds:SD} {M:Mem} {Q:List D→Mem→Prop} {Xc:KX}:wiItm we ds M Q Xc=we ds M (itmK Q) Xc:=propext Iff.rfl
theorem pDctK {Q:List D→Mem→Prop} {ks:List Key} {xs:List D} {M:Mem}:dctK Q (.dct ks xs) M=Q (ks.map dK) M:=propext Iff.rfl
theorem pItmK {Q:List D→Mem→Prop} {ks:List Key} {xs:List D} {M:Mem}:itmK Q (.dct ks xs) M=Q (itmD ks xs) M:=propext Iff.rfl
def rLstDct:RDs:=fun ds M Q=>match ds with
 | [.dct ks _]=>Q (.lst (ks.map dK)) M
 | _=>False
theorem rLstDct_p {ks:List Key} {xs:List D} {M:Mem} {Q:KN}:rLstDct [.dct ks xs] M Q=Q (.lst (ks.map dK)) M:=propext Iff.rfl
section
variable {K : PySem.W.Frag} {H H' : Hp} {M M' F : Mem}
theorem dv_dK {k:Key}:DV K H M (dK k) (kV k):=by cases k <;> exact rfl
theorem dvs_dK:∀{ks:List Key},DVs K H M (ks.map dK) (ks.map kV)
 | []=>rfl
 | k :: ks=>⟨_,_,rfl,dv_dK,dvs_dK⟩
theorem lock_ext {a:Addr} {o:Obj} {kvs:List (Key×V)} (h:H a=some (.dK kvs)):Ext H M (upd H a (.frz o (.dK kvs))) M:=fun b u e m n=>by
 by_cases z:b=a
 ·subst z
  rw [h] at e
  cases e
  exact ⟨⟨_,upd_same, .lock⟩,m⟩
 ·exact ⟨⟨u,by rw [upd_ne z];exact e, .same⟩,m⟩
theorem RelM.lock (R:RelM K H M) {a:Addr} {o:Obj} {kvs:List (Key×V)} (h:H a=some (.dK kvs)) (m:M a=none):RelM K (upd H a (.frz o (.dK kvs))) M:=fun b u e=>by
 have z:b≠a:=fun z=>by subst z;rw [m] at e;cases e
 exact MOk.ext R (lock_ext h) (R b u e) fun v hv=>by rw [upd_ne z];exact hv
variable {H0 : Hp} {N0 : Mem}
theorem yl_keys {a:Addr} {o:Obj} {kvs:List (Key×V)} (h:H0 a=some (.frz o (.dK kvs))) (m:N0 a=none):Yl K (Itk a o kvs) ((kvs.map (·.1)).map dK) H0 N0:=fun i H N e R=>by
 obtain ⟨q1,_⟩:=e.at h m plain_fdK
 refine ⟨fun hi=>⟨q1,by rw [List.length_map,List.length_map] at hi;exact hi⟩,fun d hd=>?_⟩
 rw [List.getElem?_map,List.getElem?_map] at hd
 cases z:kvs[i]? with
 | none=>rw [z] at hd;cases hd
 | some kv=>
  rw [z] at hd
  cases hd
  refine ⟨⟨q1,(List.getElem?_eq_some_iff.mp z).1⟩,fun x H' hy=>?_⟩
  obtain ⟨e1,k,v,e2,e3⟩:=hy
  subst e1 e3
  rw [z] at e2
  cases e2
  exact ⟨Ext.rfl',R,dv_dK⟩
end
section
variable {X : Cx} {W : WX} {tg e : Expr} {td : TE} {we : WE} {apos cpos : Pos}
theorem pi_keysL (he:PE X e td):PI X tg e (fun σ H R=>td σ H fun x H1=>∃d kvs,x=V.ref d∧((∃o,H1 d=some (.frz o (.dK kvs))∧R (Itk d o kvs) H1)∨(H1 d=some (.dK kvs)∧∀o,R (Itk d o kvs) (upd H1 d (.frz o (.dK kvs)))))):=by
 constructor
 intro pins s σ H R I h
 refine thn (he.run pins s σ H _ I h) fun u s1 g=>?_
 obtain ⟨x,H1,I1,rx,d,kvs,ex,q⟩:=g
 subst ex
 obtain rfl:u=Value.ref d:=rx
 have go:∀(o:Obj) (H2:Hp),Inv X pins σ H2 s1→H2 d=some (.frz o (.dK kvs))→R (Itk d o kvs) H2→wpAny (model X.prog X.w) X.A (pyIter (.ref d)) (PIE X pins σ tg R) X.xe s1:=fun o H2 I2 hd q=>by
  obtain ⟨g1,g2,g3,es,ep,vs,g4,g5,g6,g7⟩:=I2.frzK hd
  exact iter_keys g1 g2 g3 g4 (pi_one (tk:=s1.toks) I2 _ (turn_keys _ g4) ⟨_,Heap.get?_push_size _ rfl,rfl,by rw [g5] <;> rfl⟩ q)
 rcases q with ⟨o,hd,q⟩ | ⟨hd,q⟩
 ·exact go o H1 I1 hd q
 ·obtain ⟨od,I2⟩:=I1.lock hd trivial
  exact go od _ I2 upd_same (q od)
theorem ji_dct (h:JE X W e we):JI X W tg e (wiDct we):=pi_mono (pi_keysL h) fun σ H R h=>by
 obtain ⟨ds,M,F,Qd,Xd,hs,hw,l1,l2⟩:=h
 refine ⟨ds,M,F,_,Xd,hs,rfl,hw,fun v H' d M' e r dv q=>?_,l2⟩
 cases d <;> first | exact q.elim | skip
 rename_i ks xs
 obtain ⟨a,kvs,e1,rd,gm,hk,dvs⟩:=dv
 subst hk
 refine ⟨a,kvs,e1,?_⟩
 rcases rd with hd | ⟨o,hd⟩
 ·refine .inr ⟨hd,fun o=>?_⟩
  have ex:=lock_ext (M:=uni M' F) (o:=o) hd
  exact l1 _ _ _ M' (e.trans ex) ⟨r.rel.lock hd gm,r.dj⟩ (yl_keys upd_same gm) q
 ·exact .inl ⟨o,hd,l1 _ H' _ M' e r (yl_keys hd gm) q⟩
variable {elts : List Expr} {kk : Nat} {tpos : Pos}
theorem cd_lstDct (hc:X.calm=true):CallR X (.type "list") (liftVs X.K rLstDct):=by
 intro pins s σ H xs us Q I r hh
 obtain ⟨ds,M,F,Qd,R,h1,h3,l⟩:=hh
 unfold rLstDct at h3
 split at h3
 ·rename_i ks zs
  obtain ⟨x,e,g⟩:=dv1 h1
  subst e
  obtain ⟨a,kvs,e1,rd,gm,hk,dvs⟩:=g
  subst e1
  subst hk
  refine call_listD hc pins s σ H _ us Q I r ⟨a,kvs,rfl,rd,fun p hp=>?_⟩
  have ex:=new_ext R.rel (o:=HO.lst (kvs.map fun kv=>kV kv.1)) hp
  refine l _ _ (.lst ((kvs.map (·.1)).map dK)) M ex (R.new hp) ⟨p,_,rfl,upd_same,R.rel.free hp,?_⟩ h3
  have z:(kvs.map fun kv=>kV kv.1)=(kvs.map (·.1)).map kV:=by rw [List.map_map];rfl
  rw [z]
  exact dvs_dK
 ·exact h3.elim
end
end DL
set_option maxHeartbeats 2000000
namespace DL
open PySem PySem.Spec PyProof.Rows L2 RZ He
def edU (E:ED) (a:Addr) (items:List D):ED:={nx:=fun ds M=>E.nx ds (mput M a (.lst items)),rt:=fun _ _=>False,bk:=fun _ _=>False,ct:=fun _ _=>False,ex:=fun _ _ _=>False}
def forUK (g:GD) (wb:WS) (E:ED) (ds:SD):KN:=fun d M1=>∃a items,d= .ref a∧M1 a=some (.lst items)∧forR g wb (edU E a items) items ds (mdel M1 a)
def wForU (we:WE) (g:GD) (wb:WS):WS:=fun E ds M=>we ds M (forUK g wb E ds) (E.xc ds)
theorem pForU {we:WE} {g:GD} {wb:WS} {E:ED} {ds:SD} {M:Mem}:wForU we g wb E ds M=we ds M (forUK g wb E ds) (E.xc ds):=propext Iff.rfl
section
variable {X : Cx} {W : WX} {tg iter : Expr} {body : List Stmt} {pos : Pos} {we : WE} {g : GD} {wb : WS} {is : List Nat}
end
end DL
set_option maxHeartbeats 2000000
namespace DL
open PySem PySem.Spec PyProof.Rows L2 RZ He
def wEiS (w1 w2:WS):WS:=fun E ds M=>w1 E ds M∨w2 E ds M
theorem pEiS {w1 w2:WS} {E:ED} {ds:SD} {M:Mem}:wEiS w1 w2 E ds M=(w1 E ds M∨w2 E ds M):=propext Iff.rfl
def pairsD:List D→Option (List (Key×D))
 | []=>some []
 | d :: t=>match d with
  | .tup [k,v]=>match keyD k with
   | some x=>(pairsD t).map ((x,v) :: ·)
   | none=>none
  | _=>none
def rDctP:RDs:=fun ds M Q=>match ds with
 | [.lst ps]=>optK (pairsD ps) fun kds=>(kds.map (·.1)).Nodup∧Q (.dct (kds.map (·.1)) (kds.map (·.2))) M
 | _=>False
theorem rDctP_p {ps:List D} {M:Mem} {Q:KN}:rDctP [.lst ps] M Q=(optK (pairsD ps) fun kds=>(kds.map (·.1)).Nodup∧Q (.dct (kds.map (·.1)) (kds.map (·.2))) M):=propext Iff.rfl
end DL
namespace DL
open PySem PySem.Spec PyProof.Rows L2 RZ
def wCMK (C:Addr) (sp:SpD) (mm:Nat) (ord:List Nat) (wo:WE) (wk:WA):WE:=fun ds M Q Xc=>wo ds M (fun d M1=>d= .ref C∧wk ds M1 (fun ys M2=>sp (gOrd 1 mm ord [.ref C] ys) M2 Q Xc) Xc) Xc
theorem pCMK {C:Addr} {sp:SpD} {mm:Nat} {ord:List Nat} {wo:WE} {wk:WA} {ds:SD} {M:Mem} {Q:KN} {Xc:KX}:(wCMK C sp mm ord wo wk ds M Q Xc)=(wo ds M (fun d M1=>d= .ref C∧wk ds M1 (fun ys M2=>sp (gOrd 1 mm ord [.ref C] ys) M2 Q Xc) Xc) Xc):=propext Iff.rfl
section
variable {X : Cx} {W : WX} {m : Str} {pos apos : Pos} {o : Expr} {kws : List Keyword} {wo : WE} {wk : WA} {k j mm : Nat} {ord : List Nat} {p g C : Addr} {mc : Value} {sp : SpD} {ks : List Str}
end
def rIsX (C D:Addr) (ns:List Str):RDs:=fun ds M Q=>match ds with
 | [d, .ref c]=>c=C∧insK D ns M d fun _=>Q (.bl false) M
 | _=>False
theorem rIsX_p {C D c:Addr} {ns:List Str} {d:_root_.DL.D} {M:Mem} {Q:KN}:rIsX C D ns [d, .ref c] M Q=(c=C∧insK D ns M d fun _=>Q (.bl false) M):=propext Iff.rfl
def NotIs (K:PySem.W.Frag) (D C:Addr):Prop:=PySem.W.kitOne K (.ref D) (.ref C)=some false
section
variable {X : Cx} {C D : Addr} {ns : List Str}
end
end DL
namespace DL
open PySem PySem.Spec PyProof.Rows L2 RZ
def wRep (y z:Str) (w:WE):WE:=fun ds M Q Xc=>w ds M (fun d M1=>∃x,d= .str x∧x.length + (x.length + 1) * z.length≤16777216∧Q (.str (Txt.replace x y z)) M1) Xc
theorem pRep {y z:Str} {w:WE} {ds:SD} {M:Mem} {Q:KN} {X:KX}:(wRep y z w ds M Q X)=(w ds M (fun d M1=>∃x,d= .str x∧x.length + (x.length + 1) * z.length≤16777216∧Q (.str (Txt.replace x y z)) M1) X):=propext Iff.rfl
section
variable {X : Cx} {W : WX} {o a b c : Expr} {w wa wb : WE} {t : WT} {y z : Str} {j k : Nat} {c0 c1 apos pos cp : Pos}
end
section
variable {X : Cx} {W : WX} {x : Str} {p pos : Pos} {kws : List Keyword} {wk : WA} {k j n m : Nat} {ord : List Nat} {fI C : Addr} {sp : SpD} {ks : List Str}
end
section
variable {CX : CXT} {P : Program} {w : World} {K : PySem.W.Frag} {mg : Str → Option Value} {base : Heap} {k : Nat} {qual : Str} {ist : Stmt} {D fI f2 : Addr} {N ps : List Str} {sp sp2 : Sp}
end
end DL
namespace DL
open PySem PySem.Spec PyProof.Rows L2 RZ
structure DefKw (K:PySem.W.Frag) (x qual:Str) (st:Stmt) (f:Addr):Prop where
 ex:∃fd,Fun K x qual st f fd
end DL
namespace DL
open PySem PySem.Spec PyProof.Rows L2 RZ
def moDtt:Option MO→Option (List (List Key)×List D)
 | some (.dtt ks xs)=>some (ks,xs)
 | _=>none
def dttOf (M:Mem):D→Option (List (List Key)×List D)
 | .dtt ks xs=>some (ks,xs)
 | .ref a=>moDtt (M a)
 | _=>none
def valT:List (List Key)→List D→List Key→Option D
 | j :: ks,x :: xs,k=>if j=k then some x else valT ks xs k
 | _,_,_=>none
def putDt (ks:List (List Key)) (xs:List D) (k:List Key) (d:D):List (List Key)×List D:=
 if (ks.any fun j=>decide (j=k))=true then (ks,List.zipWith (fun j x=>if j=k then d else x) ks xs) else (ks ++ [k],xs ++ [d])
section
variable {K : PySem.W.Frag} {H : Hp} {M F : Mem}
end
def wDctT:WE:=fun _ M Q _=>∀a,M a=none→Q (.ref a) (mput M a (.dtt [] []))
theorem pDctT {ds:SD} {M:Mem} {Q:KN} {X:KX}:(wDctT ds M Q X)=(∀a,M a=none→Q (.ref a) (mput M a (.dtt [] []))):=propext Iff.rfl
section
variable {X : Cx} {W : WX} {o i e : Expr} {wo wi we : WE} {wa : WA} {pos : Pos}
def rDixT:RD2:=fun d e M Q=>optK (dttOf M d) fun p=>match e with
 | .tup zs=>optK (keysD zs) fun k=>optK (valT p.1 p.2 k) fun v=>Q v M
 | _=>False
def rDsetT (o:D) (zs:List D) (v:D) (M:Mem) (k:Mem→Prop):Prop:=match o with
 | .ref a=>optK (moDtt (M a)) fun p=>optK (keysD zs) fun j=>zs.length≤sizeLine∧p.2.length < sizeLine∧k (mput M a (.dtt (putDt p.1 p.2 j v).1 (putDt p.1 p.2 j v).2))
 | _=>False
def wSubT (we wo:WE) (wa:WA):WS:=fun E ds M=>we ds M (fun v M1=>wo ds M1 (fun o M2=>wa ds M2 (fun zs M3=>rDsetT o zs v M3 fun M4=>E.nx ds M4) (E.xc ds)) (E.xc ds)) (E.xc ds)
theorem pSubT {E:ED} {ds:SD} {M:Mem}:wSubT we wo wa E ds M=we ds M (fun v M1=>wo ds M1 (fun o M2=>wa ds M2 (fun zs M3=>rDsetT o zs v M3 fun M4=>E.nx ds M4) (E.xc ds)) (E.xc ds)) (E.xc ds):=propext Iff.rfl
end
theorem rDixT_p {ks:List (List Key)} {xs zs:List D} {M:Mem} {Q:KN}:rDixT (.dtt ks xs) (.tup zs) M Q=(optK (keysD zs) fun k=>optK (valT ks xs k) fun v=>Q v M):=propext Iff.rfl
section
variable {X : Cx} {W : WX} {o e f : Expr} {wo we wf : WE} {apos cpos : Pos}
def rDget2 (d k z:D) (M:Mem) (Q:KN):Prop:=optK (dctOf M d) fun p=>optK (keyD k) fun j=>match valD p.1 p.2 j with
 | some v=>Q v M
 | none=>Q z M
def wDget2 (wo we wf:WE):WE:=fun ds M Q Xc=>wo ds M (fun d M1=>(dctOf M1 d).isSome=true∧we ds M1 (fun k M2=>wf ds M2 (fun z M3=>rDget2 d k z M3 Q) Xc) Xc) Xc
theorem pDget2 {ds:SD} {M:Mem} {Q:KN} {Xc:KX}:wDget2 wo we wf ds M Q Xc=wo ds M (fun d M1=>(dctOf M1 d).isSome=true∧we ds M1 (fun k M2=>wf ds M2 (fun z M3=>rDget2 d k z M3 Q) Xc) Xc) Xc:=propext Iff.rfl
end
end DL
set_option maxHeartbeats 4000000
namespace DL
open PySem PySem.Spec PyProof.Rows L2 RZ
abbrev SetN (w:World) (h:Heap) (a:Addr) (acc:List Int):Prop:=∃c,c≤acc.length∧SetR w h a (fun j=>decide (j∈acc)) c
theorem SetN.mv {w:World} {h h':Heap} {a:Addr} {acc:List Int} (g:SetN w h a acc) (m:∀o,h.get? a=some o→h'.get? a=some o):SetN w h' a acc:=by
 obtain ⟨c,hc,r⟩:=g
 exact ⟨c,hc,SetR.at r m⟩
theorem SetN.obj {w:World} {h:Heap} {a:Addr} {acc:List Int} (g:SetN w h a acc):∃o,h.get? a=some o∧∀v,o.data≠ .cell v:=by
 obtain ⟨_,_,o,es,ep,t,e1,_,e2,_⟩:=g
 exact ⟨o,e1,fun v z=>by rw [e2] at z;cases z⟩
section
variable {X : Cx}
end
end DL
set_option maxHeartbeats 4000000
namespace DL
open PySem PySem.Spec PyProof.Rows L2 RZ
def scR (g:GD) (tt:WT) (te:WE) (ds:SD):List D→List Int→Mem→(List Int→Mem→Prop)→Prop
 | [],acc,M,k=>k acc M
 | d :: items,acc,M,k=>g d ds fun ds2=>tt ds2 M (fun b M1=>if b=true then te ds2 M1 (fun y M2=>match y with
  | .int n=>acc.length < 60∧scR g tt te ds items (acc ++ [n]) M2 k
  | _=>False) XF else scR g tt te ds items acc M1 k) XF
def endSrt (acc:List Int) (M:Mem) (Q:KN):Prop:=∀zs:List Int,zs.Pairwise (· < ·)→(∀k,k∈zs↔k∈acc)→Q (.lst (zs.map D.int)) M
def wSrtSc (wi:WI) (g:GD) (tt:WT) (te:WE) (vs:List Nat):WE:=fun ds M Q Xc=>wi ds M (fun items M1=>scR g tt te (wipeD ds vs) items [] M1 fun acc M2=>endSrt acc M2 Q) Xc
theorem pSrtSc {wi:WI} {g:GD} {tt:WT} {te:WE} {vs:List Nat} {ds:SD} {M:Mem} {Q:KN} {X:KX}:wSrtSc wi g tt te vs ds M Q X=wi ds M (fun items M1=>scR g tt te (wipeD ds vs) items [] M1 fun acc M2=>endSrt acc M2 Q) X:=propext Iff.rfl
section
variable {K : PySem.W.Frag} {H : Hp} {σ : L2.St}
end
section
variable {X : Cx} {W : WX} {elt tg iter : Expr} {ifs : List Expr} {scope : Scope} {own : List (Str × Nat)} {p pos cpos : Pos} {wi : WI} {g : GD} {tt : WT} {te : WE} {is : List Nat}
end
section
variable {prog : Program} {w : World} {A : Around} {E : Value → Shared → Prop} {s : Shared} {S l : Addr} {us : Array Value} {ns : List Int}
end
def rSrtSet (d:D) (M:Mem) (Q:KN):Prop:=match d with
 | .lst xs=>optK (intsD xs) fun ns=>ns.length≤60∧endSrt ns M Q
 | _=>False
theorem rSrtSet_p {xs:List D} {M:Mem} {Q:KN}:rSrtSet (.lst xs) M Q=(optK (intsD xs) fun ns=>ns.length≤60∧endSrt ns M Q):=propext Iff.rfl
def wSrtSet (we:WE):WE:=fun ds M Q Xc=>we ds M (fun d M1=>rSrtSet d M1 Q) Xc
theorem pSrtSet {we:WE} {ds:SD} {M:Mem} {Q:KN} {Xc:KX}:wSrtSet we ds M Q Xc=we ds M (fun d M1=>rSrtSet d M1 Q) Xc:=propext Iff.rfl
section
variable {X : Cx} {W : WX} {a : Expr} {we : WE} {p p2 q pos : Pos}
end
end DL
namespace DL
open PySem PySem.Spec PyProof.Rows L2 RZ
def zR:=And.intro zQ (And.intro (@piDct) (And.intro (@piItm) (And.intro (@pDctK) (And.intro (@pItmK) (And.intro (@pForU) (And.intro (@pEiS) (And.intro (@rLstDct_p) (And.intro (@rDctP_p) (And.intro (@pCMK) (And.intro (@rIsX_p) (And.intro (@pDctT) (And.intro (@pSubT) (And.intro (@rDixT_p) (And.intro (@pDget2) (And.intro (@pSrtSc) (And.intro (@pSrtSet) (And.intro (@rSrtSet_p) (@pRep))))))))))))))))))
end DL
set_option maxHeartbeats 1000000
namespace DL
open PySem PySem.Spec PyProof.Rows L2 RZ
def fD (fl:Bool) (ns:List Int):PyData:=if fl=true then .list (ns.map .int) else .int (ns.headD 0)
def Shp (fl:Bool) (ns:List Int):Prop:=fl=true∨∃i,ns= [i]
def Ft (h:Heap) (fl:Bool) (v:Value) (ns:List Int):Prop:=∃t o xs n f as,v= .ref t∧h.get? t=some o∧o.cls= .type "tuple"∧o.data= .seq xs n∧(xs:Array Value)[0]?=some f∧Reads h f (fD fl ns) as∧Shp fl ns
theorem Ft.keeps {h h':Heap} {fl:Bool} {v:Value} {ns:List Int} (x:Ft h fl v ns) (k:∀b o,h.get? b=some o→h'.get? b=some o):Ft h' fl v ns:=by
 obtain ⟨t,o,xs,n,f,as,e,h1,h2,h3,h4,h5,h6⟩:=x
 exact ⟨t,o,xs,n,f,as,e,k _ _ h1,h2,h3,h4,PyProof.Rows.Reads.keeps (fun b o=>k b o) h5,h6⟩
open Classical in
section
variable {prog : Program} {w : World} {A : Around} {E : Value → Shared → Prop} {s : Shared}
end
inductive A2 {α β:Type} (R:α→β→Prop):List α→List β→Prop
 | nil:A2 R [] []
 | cons {a:α} {b:β} {as:List α} {bs:List β}:R a b→A2 R as bs→A2 R (a :: as) (b :: bs)
section
variable {α β : Type} {R : α → β → Prop}
theorem A2.left {as:List α} {bs:List β} (x:A2 R as bs):∀a∈as,∃b∈bs,R a b:=by
 induction x with
 | nil=>exact fun a h=>by cases h
 | cons r _ ih=>
  intro a h
  rcases List.mem_cons.mp h with rfl | h
  ·exact ⟨_,List.mem_cons_self,r⟩
  ·obtain ⟨b,hb,q⟩:=ih a h
   exact ⟨b,List.mem_cons_of_mem _ hb,q⟩
end
section
variable {X : Cx}
end
end DL
set_option maxHeartbeats 2000000
namespace DL
open PySem PySem.Spec PyProof.Rows L2 RZ
def lvK (Q:KN) (d:D) (M:Mem):Prop:=match d with
 | .dct _ xs=>Q (.lst xs) M
 | _=>False
def wLstV (we:WE):WE:=fun ds M Q Xc=>we ds M (lvK Q) Xc
theorem pLstV {we:WE} {ds:SD} {M:Mem} {Q:KN} {X:KX}:wLstV we ds M Q X=we ds M (lvK Q) X:=propext Iff.rfl
theorem lvK_dct {Q:KN} {ks:List Key} {xs:List D} {M:Mem}:lvK Q (.dct ks xs) M=Q (.lst xs) M:=propext Iff.rfl
section
variable {X : Cx} {W : WX} {e : Expr} {we : WE} {td : TE} {apos cpos p pos : Pos}
end
structure DefKd (K:PySem.W.Frag) (x qual:Str) (st:Stmt) (f:Addr) (kn:Str) (d:D):Prop where
 ex:∃fd v,FunD K x qual (defArgs st) (defBody st) (defScope st) [] [(kn,v)] f fd∧Fun K x qual st f fd∧∀H M,DV K H M d v
structure FnJD (P:Program) (w:World) (K:PySem.W.Frag) (mg:Str→Option Value) (base:Heap) (k:Nat) (f:Addr) (sp:SpD) (d:D):Prop where
 ex:∃fd ps v u,FnOk P w K mg base (L2.CX P w) k f fd ps (liftSp K sp)∧Binds K fd ps [u]∧RelV v u∧∀H M,DV K H M d v
 kp:PySem.W.keepIn K (.ref f)=true
theorem FnJD.mkAt {P:Program} {w:World} {K:PySem.W.Frag} {mg:Str→Option Value} {base:Heap} {k:Nat} {x qual kn:Str} {st:Stmt} {f:Addr} {N ps:List Str} {sp:SpD} {wb:WS} {d:D} {n:Nat}
  (F:DefKd K x qual st f kn d) (S:FnScope N ps (defScope st)) (hn:n + 1=ps.length)
  (hb:∀(D:Addr) (doc pm:Value) (an:Option Addr) (cdv ct:Value) (us ks:List Value),us.length=n→ks.length=1→
   KwChain D ([kn].zip ks) (bindArgs (PySem.W.fnOf x qual (defArgs st) (defBody st) (defScope st) .none (.ref D) doc pm an cdv ct) ⟨us, []⟩) (ps.zip (us ++ ks)))
  (body:∀(cdv:Value) (A:Around) (outer:List Env) (s:Shared) (H:Hp) (E:XK),Room k (A.deeper (envOfC qual (defScope st) s.heap.objs.size f cdv))→
   Takes (cxOf (L2.CX P w) P w K mg base N qual (defScope st) f cdv A outer s H E) (WD E)→
   JSs (cxOf (L2.CX P w) P w K mg base N qual (defScope st) f cdv A outer s H E) (WD E) (defBody st) wb)
  (h:∀ds M Q Xc,sp ds M Q Xc→ds.length=ps.length∧wb {nx:=fun _ M=>Fin Q .non M,rt:=Fin Q,ex:=fun x _ M=>FinX Xc x M} (startD N ds) M):FnJD P w K mg base (k + 1) f sp d:=by
 obtain ⟨fd,v,h1,h2,h3⟩:=F.ex
 obtain ⟨us,hv,hB⟩:=h1.binds0 (ps:=ps) n (by simp) hn fun D doc pm an cdv ct us ks e1 e2=>hb D doc pm an cdv ct us ks e1 e2
 cases hv with
 | cons r rr=>
  cases rr
  exact ⟨⟨fd,ps,v,_,FnOk.mkDX h2 S body h,hB,r,h3⟩,h1.kp⟩
def wMakeD (C:Addr) (sp:SpD) (d:D) (wa:WA):WE:=fun ds M Q Xc=>wa ds M (fun xs M1=>∀a,M1 a=none→sp (.ref a :: (xs ++ [d])) (mput M1 a (.ins C [] [])) (fun e M2=>e= .non∧Fin Q (.ref a) M2) Xc) Xc
theorem pMakeD {C:Addr} {sp:SpD} {d:D} {wa:WA} {ds:SD} {M:Mem} {Q:KN} {X:KX}:wMakeD C sp d wa ds M Q X=wa ds M (fun xs M1=>∀a,M1 a=none→sp (.ref a :: (xs ++ [d])) (mput M1 a (.ins C [] [])) (fun e M2=>e= .non∧Fin Q (.ref a) M2) X) X:=propext Iff.rfl
section
variable {X : Cx} {W : WX} {x : Str} {e : Expr} {es : List Expr} {wa : WA} {C fI : Addr} {sp : SpD} {d : D} {p pos : Pos} {k j : Nat}
end
end DL
set_option maxHeartbeats 2000000
namespace DL
open PySem PySem.Spec PyProof.Rows L2 RZ He
def rLenO (C:Addr) (ns:List Str) (sp:SpD):RDs:=fun ds M Q=>match ds with
 | [d]=>insK C ns M d fun _=>sp [d] M (fun z M1=>∃n:Nat,z= .int (n:Int)∧n < 2 ^ 62∧Q z M1) XF
 | _=>False
theorem rLenO_p {C:Addr} {ns:List Str} {sp:SpD} {d:D} {M:Mem} {Q:KN}:rLenO C ns sp [d] M Q=insK C ns M d fun _=>sp [d] M (fun z M1=>∃n:Nat,z= .int (n:Int)∧n < 2 ^ 62∧Q z M1) XF:=propext Iff.rfl
structure OwnLen (K:PySem.W.Frag) (C f:Addr):Prop where
 at_:PySem.W.findIn K (.ref C) "__len__"=some (some (.ref f))
 fn:PySem.W.isFn K (.ref f)=true
section
variable {X : Cx} {C g : Addr} {ns : List Str} {k j : Nat} {sp : SpD}
end
def rSrtSetO (d:D) (M:Mem) (Q:KN):Prop:=match d with
 | .ref a=>optK (moSeq (M a)) fun xs=>optK (intsD xs) fun ns=>ns.length≤60∧endSrt ns M Q
 | _=>False
def wSrtSetO (we:WE):WE:=fun ds M Q Xc=>we ds M (fun d M1=>rSrtSetO d M1 Q) Xc
theorem pSrtSetO {we:WE} {ds:SD} {M:Mem} {Q:KN} {Xc:KX}:wSrtSetO we ds M Q Xc=we ds M (fun d M1=>rSrtSetO d M1 Q) Xc:=propext Iff.rfl
section
variable {X : Cx} {W : WX} {a : Expr} {we : WE} {p p2 q pos : Pos}
end
end DL
set_option maxHeartbeats 2000000
namespace DL
open PySem PySem.Spec PyProof.Rows L2 RZ
def wLcUO (we:WE) (g:GD) (tt:WT) (te:WE) (vs:List Nat):WE:=fun ds M Q Xc=>we ds M (fun d M1=>∃a items,d= .ref a∧M1 a=some (.lst items)∧lcR g tt te (wipeD ds vs) items [] (mdel M1 a) fun ys M2=>∀c,mput M2 a (.lst items) c=none→Q (.ref c) (mput (mput M2 a (.lst items)) c (.lst ys))) Xc
theorem pLcUO {we:WE} {g:GD} {tt:WT} {te:WE} {vs:List Nat} {ds:SD} {M:Mem} {Q:KN} {Xc:KX}:wLcUO we g tt te vs ds M Q Xc=we ds M (fun d M1=>∃a items,d= .ref a∧M1 a=some (.lst items)∧lcR g tt te (wipeD ds vs) items [] (mdel M1 a) fun ys M2=>∀c,mput M2 a (.lst items) c=none→Q (.ref c) (mput (mput M2 a (.lst items)) c (.lst ys))) Xc:=propext Iff.rfl
section
variable {K : PySem.W.Frag} {H : Hp} {σ : L2.St}
end
section
variable {X : Cx} {W : WX} {elt tg iter c : Expr} {ifs : List Expr} {scope : Scope} {own : List (Str × Nat)} {pos : Pos} {we : WE} {g : GD} {tt : WT} {te : WE} {is : List Nat}
end
section
variable {X : Cx}
end
section
variable {X : Cx} {W : WX} {elt tg iter : Expr} {ifs : List Expr} {scope : Scope} {own : List (Str × Nat)} {we : WE} {g : GD} {tt : WT} {te : WE} {is : List Nat} {pos spos py : Pos}
end
end DL
set_option maxHeartbeats 2000000
namespace DL
open PySem PySem.Spec PyProof.Rows L2 RZ
section
variable {X : Cx}
end
end DL
set_option maxHeartbeats 2000000
namespace DL
open PySem PySem.Spec PyProof.Rows L2 RZ He
structure SetOf (K:PySem.W.Frag) (C:Addr) (f:Str) (p g:Addr):Prop where
 tk:PySem.W.takerIn K C f=some (some (.ref p))
 ty:PySem.W.typeIn K (.ref p)=some (.type "property")
 rc:∃a rest,PySem.W.recIn K p "property"=some (a :: .ref g :: rest)
section
variable {X : Cx} {CX : CXT} {k : Nat} {C p g a dx : Addr} {fs : List (Str × V)} {f : Str} {fd : FuncData} {ps : List Str} {sp : Sp} {y : V} {u : Value} {E : L2.St → XK}
end
section
variable {X : Cx} {W : WX} {o value : Expr} {wo wv : WE} {f : Str} {pos pos' : Pos} {C g pp : Addr} {ns : List Str} {k j : Nat} {sp : SpD}
end
end DL
set_option maxHeartbeats 2000000
namespace PySem.W
open PySem PySem.Calls PyProof.Rows
section
variable {prog : Program} {w : World} {A : Around} {E : Value → Shared → Prop} {s : Shared} {env : Env} {K : Frag} {x C fe fx : Addr} {ox : Obj} {od : Option Obj} {pos : Pos}
end
end PySem.W
namespace DL
open PySem PySem.Spec PyProof.Rows L2 RZ He
structure WithOf (K:PySem.W.Frag) (C fe fx:Addr):Prop where
 en:PySem.W.findIn K (.ref C) "__enter__"=some (some (.ref fe))
 ef:PySem.W.isFn K (.ref fe)=true
 xt:PySem.W.findIn K (.ref C) "__exit__"=some (some (.ref fx))
 xf:PySem.W.isFn K (.ref fx)=true
section
variable {X : Cx} {ctx : Expr} {body : List Stmt} {pos : Pos} {te : TE} {tb : WX → TS} {fde fdx fdh : FuncData} {pse psx psh : List Str} {spE spX : Sp} {spH : SpP} {ke kx kh : Nat} {C fe fx : Addr} {Wout : WX}
end
end DL
set_option maxHeartbeats 2000000
namespace DL
open PySem PySem.Spec PyProof.Rows L2 RZ He
def liftH (K:PySem.W.Frag) (sp:SpD):SpP:=fun _ vs H Q=>∃ds M F Qd,Rm K H M F∧DVs K H (uni M F) ds vs∧sp ds M Qd XF∧LkG K F (rE K) H M Qd Q
structure FnHJ (P:Program) (w:World) (K:PySem.W.Frag) (mg:Str→Option Value) (base:Heap) (k:Nat) (f:Addr) (sp:SpD):Prop where
 ex:∃fd ps,FnP P w K mg base k f fd ps (liftH K sp)∧Binds K fd ps []
theorem FnHJ.mkAt {P:Program} {w:World} {K:PySem.W.Frag} {mg:Str→Option Value} {base:Heap} {k:Nat} {x qual:Str} {st:Stmt} {f:Addr} {N ps:List Str} {sp:SpD} {wb:WS}
  (Fd:DefAt K x qual st ps f) (S:FnScope N ps (defScope st))
  (body:∀(cdv:Value) (A:Around) (outer:List Env) (s:Shared) (H:Hp) (p:Addr×Obj),L2H.RoomH k (A.deeper (envOfC qual (defScope st) s.heap.objs.size f cdv))→JSs (L2H.cxH CX0 P w K mg base N qual (defScope st) f cdv A outer s H E0 p) WF (defBody st) wb)
  (h:∀ds M Q Xc,sp ds M Q Xc→ds.length=ps.length∧wb {nx:=fun _ M=>Fin Q .non M,rt:=Fin Q,ex:=fun x _ M=>Xc x M} (startD N ds) M):FnHJ P w K mg base (k + 1) f sp:=by
 obtain ⟨fd,Fn,hb⟩:=Fd.ex
 refine ⟨⟨fd,ps,fn_pin Fn S (fun p vs H Q q=>?_) (fun cdv A outer s H vs Q p hr q=>?_),hb⟩⟩
 ·obtain ⟨ds,M,Fr,Qd,q1,q2,q3,_⟩:=q
  rw [q2.len]
  exact (h _ _ _ _ q3).1
 ·obtain ⟨ds,M,Fr,Qd,R,dv,hs,l⟩:=q
  refine ⟨_,body cdv A outer s H p hr,?_⟩
  have fin:∀(v:V) (H':Hp) (d:D) (M':Mem),Ext H (uni M Fr) H' (uni M' Fr)→Rm K H' M' Fr→DV K H' (uni M' Fr) d v→Fin Qd d M'→Q v H':=fun v H' d M' e r dv ⟨d2,M2,fz,q⟩=>
   l v H' d2 M2 (e.down (sub_none fz.sub)) (r.sub fz.sub) (fz.dv K H' Fr v r dv) q
  exact ⟨startD N ds,M,Fr,_,⟨R,Sl.start dv⟩,rfl,(h _ _ _ _ hs).2,⟨fun σ' H' ds' M' e r q=>fin .non H' .non M' e r.1 rfl q,fin,fun _ _ _ _ _ _ z=>z.elim,fun _ _ _ _ _ _ z=>z.elim,fun _ _ _ _ _ _ _ _ _ _ z=>z.elim⟩⟩
section
variable {X : Cx} {W : WX} {ctx : Expr} {body : List Stmt} {we : WE} {wb : WS} {pos : Pos} {C fe fx : Addr} {ns : List Str} {ke kx kh j : Nat} {spE spX : SpD}
end
end DL
set_option maxHeartbeats 2000000
namespace DL
open PySem PySem.Spec PyProof.Rows L2 RZ He
def spT2 (sp:SpD):SpD:=fun ds M Q Xc=>∃d es,ds= [d, .tup es]∧sp (d :: es) M Q Xc
def StarB2 (fd:FuncData) (x y:Str):Prop:=∀(u:Value) (us:List Value),bindArgs fd ⟨u :: us, []⟩=(newTuple us >>= fun t=>pure [(x,u),(y,t)])
structure FnV2 (P:Program) (w:World) (K:PySem.W.Frag) (mg:Str→Option Value) (base:Heap) (k:Nat) (g:Addr) (sp:SpD):Prop where
 ex:∃(n qual:Str) (st:Stmt) (fd:FuncData) (N:List Str) (x y:Str),Fun K n qual st g fd∧FnScope N [x,y] (defScope st)∧StarB2 fd x y∧
  ∀(cdv:Value) (A:Around) (outer:List Env) (s:Shared) (H:Hp) (vs:List V) (Q:VK) (E:XK),Room k (A.deeper (envOfC qual (defScope st) s.heap.objs.size g cdv))→liftSp K (spT2 sp) vs H Q E→
   ∃t,PSs (cxOf (L2.CX P w) P w K mg base N qual (defScope st) g cdv A outer s H E) (defBody st) t∧t {nx:=fun _ H'=>Q .non H',rt:=Q} (L2.start N vs) H
structure DefV2 (K:PySem.W.Frag) (n qual:Str) (st:Stmt) (x y:Str) (g:Addr):Prop where
 ex:∃fd,Fun K n qual st g fd∧StarB2 fd x y
theorem FnV2.mkAt {P:Program} {w:World} {K:PySem.W.Frag} {mg:Str→Option Value} {base:Heap} {k:Nat} {n qual:Str} {st:Stmt} {f:Addr} {N:List Str} {x y:Str} {sp:SpD} {wb:WS}
  (F:DefV2 K n qual st x y f) (S:FnScope N [x,y] (defScope st))
  (body:∀(cdv:Value) (A:Around) (outer:List Env) (s:Shared) (H:Hp) (E:XK),Room k (A.deeper (envOfC qual (defScope st) s.heap.objs.size f cdv))→
   Takes (cxOf (L2.CX P w) P w K mg base N qual (defScope st) f cdv A outer s H E) (WD E)→
   JSs (cxOf (L2.CX P w) P w K mg base N qual (defScope st) f cdv A outer s H E) (WD E) (defBody st) wb)
  (h:∀d ds M Q Xc,sp (d :: ds) M Q Xc→wb {nx:=fun _ M=>Fin Q .non M,rt:=Fin Q,ex:=fun x _ M=>FinX Xc x M} (startD N [d, .tup ds]) M):FnV2 P w K mg base k f sp:=by
 obtain ⟨fd,h1,h2⟩:=F.ex
 refine ⟨n,qual,st,fd,N,x,y,h1,S,h2,fun cdv A outer s H vs Q E hr hh=>?_⟩
 obtain ⟨ds,M,Fr,Qd,Xd,q1,q2,⟨d,es,rfl,q3⟩,l1,l2⟩:=hh
 refine ⟨_,body cdv A outer s H E hr (takes_of rfl rfl rfl rfl),?_⟩
 have fin:∀(v:V) (H':Hp) (d:D) (M':Mem),Ext H (uni M Fr) H' (uni M' Fr)→Rm K H' M' Fr→DV K H' (uni M' Fr) d v→Fin Qd d M'→Q v H':=fun v H' d M' e r dv ⟨d2,M2,fz,q⟩=>
  l1 v H' d2 M2 (e.down (sub_none fz.sub)) (r.sub fz.sub) (fz.dv K H' Fr v r dv) q
 exact ⟨startD N [d, .tup es],M,Fr,_,⟨q1,Sl.start q2⟩,rfl,h _ _ _ _ _ q3,⟨fun σ' H' ds' M' e r q=>fin .non H' .non M' e r.1 rfl q,fin,fun _ _ _ _ _ _ z=>z.elim,fun _ _ _ _ _ _ z=>z.elim,fun cls dc σ' H' x ds' M' e r dv ⟨M2,sub,q⟩=>l2 cls dc H' x M2 (e.down (sub_none sub)) (r.1.sub sub) (ExV.down (sub_none sub) dv) q⟩⟩
section
variable {X : Cx} {pins : List (Addr × Obj)} {σ : L2.St} {H : Hp} {s : Shared}
end
section
variable {X : Cx} {W : WX} {m : Str} {C g : Addr} {ns : List Str} {k j : Nat} {sp : SpD} {we : WE} {wa : WA} {o e : Expr} {es : List Expr} {pos apos : Pos} {pl : Sem Bool}
end
end DL
set_option maxHeartbeats 2000000
namespace DL
open PySem PySem.Spec PyProof.Rows L2 RZ He
structure KDF (K:PySem.W.Frag) (w:World) (mg:Str→Option Value) (x:Str) (kvs:List (Str×Addr)):Prop where
 ex:∃(a:Addr) (es:Array DictEntry) (n:Nat),mg x=some (.ref a)∧KDict K w a es n∧∀p∈kvs,PySem.W.nsIn K a p.1=some (some (.ref p.2))
section
variable {X : Cx} {W : WX} {we : WE} {wa : WA} {e : Expr} {es : List Expr} {x : Str} {p pos : Pos} {i j k : Nat} {alts : List (Addr × SpD)}
end
end DL
set_option maxHeartbeats 2000000
namespace DL
open PySem PySem.Spec PyProof.Rows L2 RZ He
theorem Dats.mem:∀{ds:List D} {n:Nat},Dats ds n→∀d∈ds,Dat d n
 | d :: ds,n,h,x,hx=>by
  rcases List.mem_cons.mp hx with rfl | g
  ·exact h.1
  ·exact Dats.mem h.2 x g
section
variable {X : Cx}
end
end DL
set_option maxHeartbeats 2000000
namespace DL
open PySem PySem.Spec PyProof.Rows L2 RZ
section
variable {X : Cx}
end
end DL
set_option maxHeartbeats 2000000
namespace DL
open PySem PySem.Spec PyProof.Rows L2 RZ
end DL
set_option maxHeartbeats 2000000
namespace DL
open PySem PySem.Spec PyProof.Rows L2 RZ
section
variable {X : Cx}
end
end DL
namespace DL
open PySem PySem.Spec PyProof.Rows L2 RZ
end DL
namespace DL
open PySem PySem.Spec PyProof.Rows L2 RZ
end DL
set_option maxHeartbeats 2000000
namespace DL
open PySem PySem.Spec PyProof.Rows L2 RZ He
def noSlotV (K:PySem.W.Frag) (nm:String):Value→Bool
 | .type n=>n == "object"
 | .ref a=>(PySem.W.findIn K (.ref a) (dunder nm) == some none) && (PySem.W.findIn K (.ref a) (dunderR nm) == some none)
 | _=>false
def bNoSlot (K:PySem.W.Frag) (C:Addr) (nm:String):Bool:=match PySem.W.clsIn K C with
 | some cd=>cd.mro.all (noSlotV K nm)
 | none=>false
def bSlot (K:PySem.W.Frag) (C:Addr) (nm:String):Bool:=match PySem.W.findIn K (.ref C) (dunder nm) with
 | some (some (.ref _))=>PySem.W.selfFirst K C && (PySem.W.findIn K (.ref C) (dunderR nm) == some none)
 | _=>false
end DL
set_option maxHeartbeats 2000000
namespace DL
open PySem PySem.Spec PyProof.Rows L2 RZ He
def rtK (Cs:List Addr) (M:Mem) (e:D):Prop:=e= .non∨(∃xs,e= .lst xs)∨(∃xs,e= .tup xs)∨∃C'∈Cs,∃ns',insK C' ns' M e fun _=>True
def wOrX (C:Addr) (ns:List Str) (Cs:List Addr) (sp:SpD) (we wf:WE):WE:=fun ds M Q Xc=>we ds M (fun d M1=>wf ds M1 (fun e M2=>rtK Cs M2 e∧insK C ns M2 d fun _=>sp [d,e] M2 Q Xc) Xc) Xc
theorem pOrX {C:Addr} {ns:List Str} {Cs:List Addr} {sp:SpD} {we wf:WE} {ds:SD} {M:Mem} {Q:KN} {Xc:KX}:wOrX C ns Cs sp we wf ds M Q Xc=we ds M (fun d M1=>wf ds M1 (fun e M2=>rtK Cs M2 e∧insK C ns M2 d fun _=>sp [d,e] M2 Q Xc) Xc) Xc:=propext Iff.rfl
def bOtherC (K:PySem.W.Frag) (C C':Addr):Bool:=(C == C') || (!(Value.ref C == Value.ref C') && (bNoSlot K C' "or" || (bSlot K C "or" && (bSlot K C' "or" && (PySem.W.mroIn K C' (.ref C) == some false)))))
structure OrX (K:PySem.W.Frag) (C f:Addr) (Cs:List Addr):Prop where
 or:OwnOr K C f
 oth:∀C'∈Cs,bOtherC K C C'=true
section
variable {X : Cx} {W : WX} {l r : Expr} {pos : Pos} {we wf : WE} {C g : Addr} {ns : List Str} {Cs : List Addr} {k j : Nat} {sp : SpD}
end
end DL
set_option maxHeartbeats 2000000
namespace DL
open PySem PySem.Spec PyProof.Rows L2 RZ He
def rMinLD:RDs:=fun ds M Q=>match ds with
 | [.lst ys]=>optK (intsD ys) fun ns=>0 < ns.length∧∀m∈ns,(∀y∈ns,m≤y)→Q (.int m) M
 | _=>False
theorem rMinL_p {ys:List D} {M:Mem} {Q:KN}:rMinLD [.lst ys] M Q=(optK (intsD ys) fun ns=>0 < ns.length∧∀m∈ns,(∀y∈ns,m≤y)→Q (.int m) M):=propext Iff.rfl
def rIsM (C:Addr) (ns:List Str) (Ds:List (Addr×List Str)):RDs:=fun ds M Q=>match ds with
 | [d, .ref c]=>c=C∧(isOK C ns M d Q (tyN M d)∨∃p∈Ds,insK p.1 p.2 M d fun _=>Q (.bl false) M)
 | _=>False
theorem rIsM_p {C c:Addr} {ns:List Str} {Ds:List (Addr×List Str)} {d:D} {M:Mem} {Q:KN}:rIsM C ns Ds [d, .ref c] M Q=(c=C∧(isOK C ns M d Q (tyN M d)∨∃p∈Ds,insK p.1 p.2 M d fun _=>Q (.bl false) M)):=propext Iff.rfl
def IsAll (K:PySem.W.Frag) (C:Addr):List (Addr×List Str)→Prop
 | []=>True
 | p :: l=>(OwnIs K p.1∧NotIs K p.1 C)∧IsAll K C l
theorem IsAll.at_ {K:PySem.W.Frag} {C:Addr}:∀{Ds:List (Addr×List Str)},IsAll K C Ds→∀p∈Ds,OwnIs K p.1∧NotIs K p.1 C
 | p :: l,h,q,hq=>by
  rcases List.mem_cons.mp hq with rfl | hq
  ·exact h.1
  ·exact IsAll.at_ h.2 q hq
end DL
set_option maxHeartbeats 4000000
namespace DL
open PySem PySem.Spec PyProof.Rows L2 RZ He
section
variable {K : PySem.W.Frag} {H H' : Hp} {M M' F N N' : Mem} {σ : L2.St} {ds : SD}
def wDcU (we:WE) (g:GD) (tt:WT) (tk tv:WE) (vs:List Nat):WE:=fun ds M Q Xc=>we ds M (fun d M1=>∃a items,d= .ref a∧M1 a=some (.lst items)∧dcR g tt tk tv (wipeD ds vs) items [] [] (mdel M1 a) fun ks xs M2=>Q (.dct ks xs) (mput M2 a (.lst items))) Xc
theorem pDcU {we:WE} {g:GD} {tt:WT} {tk tv:WE} {vs:List Nat} {ds:SD} {M:Mem} {Q:KN} {Xc:KX}:wDcU we g tt tk tv vs ds M Q Xc=we ds M (fun d M1=>∃a items,d= .ref a∧M1 a=some (.lst items)∧dcR g tt tk tv (wipeD ds vs) items [] [] (mdel M1 a) fun ks xs M2=>Q (.dct ks xs) (mput M2 a (.lst items))) Xc:=propext Iff.rfl
end
section
variable {X : Cx} {W : WX} {kx vx tg iter : Expr} {ifs : List Expr} {scope : Scope} {own : List (Str × Nat)} {pos spos py : Pos} {we : WE} {g : GD} {tt : WT} {tk tv : WE} {is : List Nat}
end
section
variable {X : Cx} {W : WX} {kx vx tg iter c : Expr} {ifs : List Expr} {scope : Scope} {own : List (Str × Nat)} {pos : Pos} {we : WE} {g : GD} {tt : WT} {tk tv : WE} {is : List Nat}
end
end DL
set_option maxHeartbeats 2000000
namespace DL
open PySem PySem.Spec PyProof.Rows L2 RZ He
def gOrdD {α:Type} (n m:Nat) (ord:List Nat) (z:α) (us ws:List α):List α:=if us.length=n∧ws.length=m then ord.filterMap fun i=>((us ++ ws) ++ [z])[i]? else []
theorem gOrdD_vals {n m:Nat} {ord:List Nat} {v:V} {u:Value} {vs zs:List V} {us ws:List Value} (r0:RelV v u) (r:Vals vs us) (q:Vals zs ws):Vals (gOrdD n m ord v vs zs) (gOrdD n m ord u us ws):=by
 unfold gOrdD
 have h1:=r.length
 have h2:=q.length
 by_cases h:vs.length=n∧zs.length=m
 ·rw [if_pos h,if_pos (by rw [← h1,← h2];exact h)]
  exact vals_pick ((r.append q).append (.cons r0 .nil)) ord
 ·rw [if_neg h,if_neg (by rw [← h1,← h2];exact h)]
  exact .nil
structure FnJKD (P:Program) (w:World) (K:PySem.W.Frag) (mg:Str→Option Value) (base:Heap) (k:Nat) (f:Addr) (sp:SpD) (ks:List Str) (n m:Nat) (ord:List Nat) (d:D):Prop where
 ex:∃fd ps v g,FnOk P w K mg base (L2.CX P w) k f fd ps (liftSp K sp)∧KBinds K fd ps ks g (gOrdD n m ord v)∧∀H M,DV K H M d v
 kp:PySem.W.keepIn K (.ref f)=true
def gPk {α:Type} (n m:Nat) (ord:List Nat) (us mz ws:List α):List α:=match mz with
 | [z]=>gOrdD n m ord z us ws
 | _=> []
theorem FnJKD.mkAt {P:Program} {w:World} {K:PySem.W.Frag} {mg:Str→Option Value} {base:Heap} {k:Nat} {x qual kn:Str} {st:Stmt} {f:Addr} {N ps ks:List Str} {sp:SpD} {wb:WS} {d:D} {n m:Nat} {ord:List Nat}
  (F:DefKd K x qual st f kn d) (S:FnScope N ps (defScope st)) (hp:0 < ps.length) (hm:ks.length=m)
  (hb:∀(D:Addr) (doc pm:Value) (an:Option Addr) (cdv ct:Value) (us ws:List Value) (z:Value),us.length=n→ws.length=m→
   KwChain D ([kn].zip [z]) (bindArgs (PySem.W.fnOf x qual (defArgs st) (defBody st) (defScope st) .none (.ref D) doc pm an cdv ct) ⟨us,ks.zip ws⟩) (ps.zip (gOrdD n m ord z us ws)))
  (body:∀(cdv:Value) (A:Around) (outer:List Env) (s:Shared) (H:Hp) (E:XK),Room k (A.deeper (envOfC qual (defScope st) s.heap.objs.size f cdv))→
   Takes (cxOf (L2.CX P w) P w K mg base N qual (defScope st) f cdv A outer s H E) (WD E)→
   JSs (cxOf (L2.CX P w) P w K mg base N qual (defScope st) f cdv A outer s H E) (WD E) (defBody st) wb)
  (h:∀ds M Q Xc,sp ds M Q Xc→ds.length=ps.length∧wb {nx:=fun _ M=>Fin Q .non M,rt:=Fin Q,ex:=fun x _ M=>FinX Xc x M} (startD N ds) M):FnJKD P w K mg base (k + 1) f sp ks n m ord d:=by
 obtain ⟨fd,v,h1,h2,h3⟩:=F.ex
 obtain ⟨mv,hB⟩:=h1.kbinds0 (ps:=ps) n ks [(kn,v)] (fun us mz ws=>gPk n m ord us mz ws) (by simp) (fun q hq=>hq) (fun {vs mz zs us mv ws} r1 rk r2=>by
  unfold gPk
  cases rk with
  | nil=>exact .nil
  | cons r rr=>
   cases rr with
   | nil=>exact gOrdD_vals r r1 r2
   | cons _ _=>exact .nil) fun D doc pm an cdv ct us mv ws e1 e2 e3=>by
  match mv,e2 with
  | [z],_=>exact hb D doc pm an cdv ct us ws z e1 (by rw [e3,hm])
 refine ⟨⟨fd,ps,v,_,FnOk.mkDX h2 S body h,⟨fun s us ws X hl=>?_,fun r1 r2=>hB.rel r1 r2⟩,h3⟩,h1.kp⟩
 have e:us.length=n∧ws.length=m:=by
  by_cases e:us.length=n∧ws.length=m
  ·exact e
  ·exfalso
   unfold gPk at hl
   split at hl
   ·unfold gOrdD at hl
    rw [if_neg e] at hl
    rw [← hl] at hp
    exact absurd hp (Nat.lt_irrefl 0)
   ·rw [← hl] at hp
    exact absurd hp (Nat.lt_irrefl 0)
 exact hB.to s us ws X e.1 (by rw [e.2,hm])
def wMakeKD (C:Addr) (sp:SpD) (n m:Nat) (ord:List Nat) (d:D) (wk:WA):WE:=fun ds M Q Xc=>wk ds M (fun ys M2=>∀a,M2 a=none→sp (gOrdD n m ord d [.ref a] ys) (mput M2 a (.ins C [] [])) (fun e M3=>e= .non∧Fin Q (.ref a) M3) Xc) Xc
theorem pMakeKD {C:Addr} {sp:SpD} {n m:Nat} {ord:List Nat} {d:D} {wk:WA} {ds:SD} {M:Mem} {Q:KN} {Xc:KX}:wMakeKD C sp n m ord d wk ds M Q Xc=wk ds M (fun ys M2=>∀a,M2 a=none→sp (gOrdD n m ord d [.ref a] ys) (mput M2 a (.ins C [] [])) (fun e M3=>e= .non∧Fin Q (.ref a) M3) Xc) Xc:=propext Iff.rfl
section
variable {X : Cx} {W : WX} {x : Str} {p pos : Pos} {kws : List Keyword} {wk : WA} {k j n m : Nat} {ord : List Nat} {fI C : Addr} {sp : SpD} {ks : List Str} {d0 : D}
end
end DL
set_option maxHeartbeats 2000000
namespace DL
open PySem PySem.Spec PyProof.Rows L2 RZ He
def rOr2 (r1 r2:RD2):RD2:=fun d e M Q=>r1 d e M Q∨r2 d e M Q
theorem rOr2_p {r1 r2:RD2} {d e:D} {M:Mem} {Q:KN}:rOr2 r1 r2 d e M Q=(r1 d e M Q∨r2 d e M Q):=propext Iff.rfl
def rOrs (r1 r2:RDs):RDs:=fun ds M Q=>r1 ds M Q∨r2 ds M Q
theorem rOrs_p {r1 r2:RDs} {ds:List D} {M:Mem} {Q:KN}:rOrs r1 r2 ds M Q=(r1 ds M Q∨r2 ds M Q):=propext Iff.rfl
section
variable {prog : Program} {w : World} {A : Around} {E : Value → Shared → Prop} {s : Shared} {K : PySem.W.Frag} {x C f : Addr} {ox : Obj} {od : Option Obj} {b tb : Value}
end
section
variable {X : Cx} {C C' g : Addr} {ns ns' : List Str} {k j : Nat} {sp : SpD}
end
end DL
set_option maxHeartbeats 4000000
namespace DL
open PySem PySem.Spec PyProof.Rows L2 GenW RZ
section
variable {prog : Program} {w : World} {A : Around} {E : Value → Shared → Prop} {s : Shared}
theorem lst_next {it l:Addr} {i:Nat} {items:Array Value} {x:Value} {Q:Option Value→Shared→Prop} (hit:s.heap.IsListIter it l i) (hl:s.heap.IsList l items) (hx:items[i]?=some x)
  (hQ:∀h':Heap,h'.IsListIter it l (i + 1)→h'.objs.size=s.heap.objs.size→(∀b o,b≠it→s.heap.get? b=some o→h'.get? b=some o)→Q (some x) {s with heap:=h'}):wpAny (model prog w) A (callSpecial? (.ref it) "__next__") Q E s:=by
 obtain ⟨o,ho,hc,hd⟩:=id hit
 obtain ⟨ol,hol,_,nl,hdl⟩:=hl
 refine wpAny_callSpecial?_slot (name:=Str.ofString "__next__") hit.typeIs slot_listiter_next (wpAny_call_entry slot_listiter_next hit.typeIs entry_listiter_next ?_ (args_listiter_next _))
 show wpAny _ _ (field (.ref it) 0 >>= _) _ _ s
 refine wpAny_bind (wpAny_field ho hd (x:= .ref l) rfl ?_)
 show wpAny _ _ (if (Value.ref l == Value.none)=true then _ else _) _ _ s
 rw [if_neg (show ¬((Value.ref l == Value.none)=true) from Bool.false_ne_true)]
 show wpAny _ _ (field (.ref it) 1 >>= _) _ _ s
 refine wpAny_bind (wpAny_field ho hd (x:= .int i 0) rfl ?_)
 show wpAny _ _ (seqItems? (.ref l) >>= _) _ _ s
 refine wpAny_bind (wpAny_seqItems hol hdl ?_)
 simp only [Int.toNat_natCast,hx]
 refine wpAny_bind (wpAny_setField ho hd (by simp) (wpAny_pure ⟨x,rfl,hQ _ ?_ (Heap.size_update ..) fun b o hb eb=>(Heap.get?_update_other _ _ (Ne.symm hb)).trans eb⟩))
 exact ⟨_,Heap.get?_update_self _ ho (Obj.isFreed_of_fields (Obj.data_mapFields hd _)),(Obj.cls_mapFields ..).trans hc,by
  rw [Obj.data_mapFields hd];simp [rawInt]⟩
theorem lst_stop {it l:Addr} {i:Nat} {items:Array Value} {Q:Option Value→Shared→Prop} (hh:A.handled=none) (hit:s.heap.IsListIter it l i) (hl:s.heap.IsList l items) (hx:items[i]?=none)
  (hE:∀e h',StopX e h'→Heap.ExtBut it s.heap h'→E e {s with heap:=h'}):wpAny (model prog w) A (callSpecial? (.ref it) "__next__") Q E s:=by
 obtain ⟨o,ho,hc,hd⟩:=id hit
 obtain ⟨ol,hol,_,nl,hdl⟩:=hl
 refine wpAny_callSpecial?_slot (name:=Str.ofString "__next__") hit.typeIs slot_listiter_next (wpAny_call_entry slot_listiter_next hit.typeIs entry_listiter_next ?_ (args_listiter_next _))
 show wpAny _ _ (field (.ref it) 0 >>= _) _ _ s
 refine wpAny_bind (wpAny_field ho hd (x:= .ref l) rfl ?_)
 show wpAny _ _ (if (Value.ref l == Value.none)=true then _ else _) _ _ s
 rw [if_neg (show ¬((Value.ref l == Value.none)=true) from Bool.false_ne_true)]
 show wpAny _ _ (field (.ref it) 1 >>= _) _ _ s
 refine wpAny_bind (wpAny_field ho hd (x:= .int i 0) rfl ?_)
 show wpAny _ _ (seqItems? (.ref l) >>= _) _ _ s
 refine wpAny_bind (wpAny_seqItems hol hdl ?_)
 simp only [Int.toNat_natCast,hx]
 refine wpAny_bind (wpAny_rule (wpAny_bind (wpAny_setField ho hd (by simp) ?_)))
 show wpAny _ _ (newExc (.type "StopIteration") [] >>= _) _ _ _
 refine wpAny_bind ?_
 simp only [newExc,newTuple]
 refine wpAny_bind (wpAny_newObj_type ?_ (by size_fits))
 refine wpAny_bind (m:=firstArgMember _ _) (wpAny_of_eq (a:=Value.none) (by first | rfl | (simp only [firstArgMember];rfl)) ?_)
 refine wpAny_newObj_type ?_ (by size_fits)
 simp only [raiseNew]
 refine wpAny_bind (wpAny_handled ?_)
 first | rw [show A.in1.handled=none from hh] | rw [hh]
 refine wpAny_bind (wpAny_pure (wpAny_throw ?_))
 refine hE _ _ ⟨_,_,_,rfl,Heap.get?_push_size _ rfl,rfl,rfl,?_⟩ (((Heap.SameBut.update ..).extBut.push _).push _)
 first
  | rfl
  | (rw [Array.getElem?_append_left (by decide)];rfl)
  | kernel_rfl
end
theorem close_lst:typeLookup (.type "list_iterator") "close"=pure none:=by rw [typeLookup_type,builtinLookup_eq_fast];kernel_rfl
abbrev yfC (it:Addr):Code:= .builtin "proto.yield_from" ⟨[.ref it, .bool false, .none], []⟩
theorem den_yfC {P:Program} {w:World} {it:Addr}:(model P w).den (yfC it)=Builtin.«proto.yield_from» ⟨[.ref it, .bool false, .none], []⟩:=by
 show (match entryFor table "proto.yield_from" with | some b=>b ⟨[.ref it, .bool false, .none], []⟩ | none=>unsupported ((withoutEnding? "proto.yield_from" "#data").getD "proto.yield_from"))=_
 rw [entry_yf]
theorem yf_turn {P:Program} {w:World} {A:Around} {R:GenEnd} {Y:Protocol} {n:Nat} {s₀ s:Shared} {fs:List Frame} {it l:Addr} {i:Nat} {items:Array Value} {v:Value} (hsp:splitAtGen fs=none) (hgd:fs.any Frame.guarded=false) (hit:s.heap.IsListIter it l i) (hl:s.heap.IsList l items) (hx:items[i]?=some v)
  (hY:∀(h':Heap) (kap:Resume→Shared→Prop),h'.IsListIter it l (i + 1)→h'.objs.size=s.heap.objs.size→(∀b o,b≠it→s.heap.get? b=some o→h'.get? b=some o)→(∀s'':Shared,(∃o,s''.heap.get? it=some o∧o.cls= .type "list_iterator")→Seg (model P w) A R Y n s'' (yfC it) ((model P w).den (yfC it)) fs s''→kap (.send .none) s'')→Y n s₀ v {s with heap:=h'} kap):
  Seg (model P w) A R Y (n + 1) s₀ (yfC it) ((model P w).den (yfC it)) fs s:=by
 rw [den_yfC]
 unfold Builtin.«proto.yield_from»
 try dsimp only
 refine seg_bind (wpAny_pure ?_)
 try dsimp only
 refine seg_bind (wpAny_attempt (wpAny_holding ?_))
 rw [if_neg Bool.false_ne_true,if_pos (show (Value.none == Value.none)=true from rfl)]
 refine wpAny_bind (wpAny_rule (wpAny_bind ?_))
 refine lst_next hit hl hx fun h' hit' hz hs=>?_
 obtain ⟨oi,hoi,hoc,_⟩:=id hit'
 refine wpAny_pure ?_
 try dsimp only
 refine seg_bind (wpAny_typeOf (T:="list_iterator") ⟨oi,hoi,hoc⟩ ?_)
 try dsimp only
 first
  | (refine seg_bind (wpAny_of_eq close_lst ?_);refine seg_bind (wpAny_pure ?_))
  | refine seg_bind (wpAny_bind (wpAny_of_eq close_lst (wpAny_pure ?_)))
  | refine seg_bind (wpAny_of_eq close_lst ?_)
 try dsimp only
 refine seg_bind (wpAny_sleptOver hoi hoc (by decide) ?_)
 refine seg_yield hsp rfl hgd ?_
 refine hY h' _ hit' hz hs fun s'' hit2 hseg=>?_
 obtain ⟨oj,hoj,hojc⟩:=hit2
 show Seg _ _ _ _ n s'' _ (Builtin.Generator.sleptOver (.ref it) false >>= fun _=>_) fs s''
 refine seg_bind (wpAny_sleptOver hoj hojc (by decide) ?_)
 try dsimp only
 refine seg_bind (wpAny_pure ?_)
 exact seg_again (plainId_quiet plain_yf _) hseg
theorem yf_stop {P:Program} {w:World} {A:Around} {R:GenEnd} {Y:Protocol} {n:Nat} {s₀ s:Shared} {fs:List Frame} {it l:Addr} {i:Nat} {items:Array Value} (hh:(A.over (yfC it) fs).handled=none) (hit:s.heap.IsListIter it l i) (hl:s.heap.IsList l items) (hx:items[i]?=none)
  (hQ:∀h',Heap.ExtBut it s.heap h'→Seg (model P w) A R Y n s₀ (yfC it) (.pure (.done (.ret .none))) fs {s with heap:=h'}):
  Seg (model P w) A R Y n s₀ (yfC it) ((model P w).den (yfC it)) fs s:=by
 rw [den_yfC]
 unfold Builtin.«proto.yield_from»
 try dsimp only
 refine seg_bind (wpAny_pure ?_)
 try dsimp only
 refine seg_bind (wpAny_attempt (wpAny_holding ?_))
 rw [if_neg Bool.false_ne_true,if_pos (show (Value.none == Value.none)=true from rfl)]
 refine wpAny_bind (wpAny_rule (wpAny_bind ?_))
 refine lst_stop hh hit hl hx fun e h' hS hk=>?_
 obtain ⟨a,o,vs,rfl,hoa,hcls,hdat,h5⟩:=hS
 try dsimp only
 refine seg_bind (wpAny_endsTurn hoa hcls ?_)
 try dsimp only
 rw [if_pos rfl]
 first
  | refine seg_bind (wpAny_rule ?_)
  | (rw [if_neg Bool.false_ne_true];refine seg_bind (wpAny_rule ?_))
  | (rw [if_neg Bool.false_ne_true];refine seg_bind (wpAny_pure ?_);refine seg_bind (wpAny_rule ?_))
 refine seg_bind (wpAny_field hoa hdat h5 ?_)
 exact hQ h' hk
end DL
set_option maxHeartbeats 4000000
namespace DL
open PySem PySem.Spec PyProof.Rows L2 GenW RZ
theorem resume_fam {M:Model} {A:Around} {ι:Type} (i0:ι) {R:ι→GenEnd} {Y:ι→Protocol} {n:Nat} {E:Value→Shared→Prop} {s:Shared} {g:Nat} {gs:GenState} {r:Resume} {l:List Value} {α:Type} {k:GenResult→Sem α} {Q:α→Shared→Prop} (hg:s.gens[g]?=some gs) (hgo:∀τ,gs.Goes M A (R τ) (Y τ) n r (s.setGen g .running))
  (hR:∀x s₁,(∀τ,R τ n (s.setGen g .running) x s₁)→wpAny M A (k (End.ret x).result) Q E (s₁.setGen g .finished))
  (hY:∀v s₁ gs',gs'.bare=true→isSusp gs'=true→(∀τ,Y τ (n - 1) (s.setGen g .running) v s₁ (fun r' s''=>Goes1 M A (R τ) (Y τ) n gs' r' s''))→wpAny M A (k (.yielded v)) Q E (s₁.setGen g gs')):
  wpAny M A (.resume g r l k) Q E s:=by
 intro Γ p hΓ
 rw [Sem.wp_resume]
 have last:∀e₁ s₁,(∀τ,SegEnd (R τ) (Y τ) n (Seg.next M A (R τ) (Y τ) n) (s.setGen g .running) e₁ s₁)→e₁.quiet=true∧Sem.wp M Γ (k e₁.result) (fun a _ s'=>Q a s') (fun e _ s'=>E e s') p (s₁.setGen g e₁.genState):=fun e₁ s₁ he=>by
  cases e₁ with
  | ret x=>exact ⟨rfl,hR x s₁ he Γ p hΓ⟩
  | susp v g₀ l₀ k₀ c₀ p₀ fs₀=>
   obtain ⟨hq,_⟩:=he i0
   refine ⟨hq,hY v s₁ _ (End.bare_of_quiet hq) rfl (fun τ=>?_) Γ p hΓ⟩
   obtain ⟨_,hy⟩:=he τ
   cases n with
   | zero=>exact hy
   | succ m=>exact hy
 cases gs with
 | running=>exact (hgo i0).elim
 | finished=>exact (hgo i0).elim
 | fresh c=>
  have hr0:r= .send .none:=(hgo i0).1
  subst hr0
  have hs:=fun τ=>(hgo τ).2
  obtain ⟨e₁,s₁,hr,_⟩:=seg_iff.mp (hs i0) (Γ.wake c p) p rfl (hΓ.wake c p)
  have he:∀τ,SegEnd (R τ) (Y τ) n (Seg.next M A (R τ) (Y τ) n) (s.setGen g .running) e₁ s₁:=fun τ=>by
   obtain ⟨e2,s2,hr2,q⟩:=seg_iff.mp (hs τ) (Γ.wake c p) p rfl (hΓ.wake c p)
   obtain ⟨x1,x2⟩:=runs_det hr _ _ hr2
   subst x1
   subst x2
   exact q
  obtain ⟨hq,hw⟩:=last e₁ s₁ he
  refine ⟨_,_,?_,hw⟩
  unfold Wakes
  rw [hg]
  exact ⟨e₁,s₁,hr,hq,rfl,rfl⟩
 | suspended k₀ l₀ c₀ p₀ fs₀ cl=>
  obtain ⟨e₁,s₁,hr,_⟩:=seg_iff.mp (hgo i0) (Γ.wake c₀ p) p₀ rfl (hΓ.wake c₀ p)
  have he:∀τ,SegEnd (R τ) (Y τ) n (Seg.next M A (R τ) (Y τ) n) (s.setGen g .running) e₁ s₁:=fun τ=>by
   obtain ⟨e2,s2,hr2,q⟩:=seg_iff.mp (hgo τ) (Γ.wake c₀ p) p₀ rfl (hΓ.wake c₀ p)
   obtain ⟨x1,x2⟩:=runs_det hr _ _ hr2
   subst x1
   subst x2
   exact q
  obtain ⟨hq,hw⟩:=last e₁ s₁ he
  refine ⟨_,_,?_,hw⟩
  unfold Wakes
  rw [hg]
  exact ⟨e₁,s₁,hr,hq,rfl,rfl⟩
section
variable {P : Program} {w : World} {A : Around} {s : Shared}
theorem next_fam {ι:Type} (i0:ι) {E:Value→Shared→Prop} {a:Addr} {g n:Nat} {gs:GenState} {R:ι→GenEnd} {Y:ι→Protocol} {Q:Option Value→Shared→Prop} (hh:A.handled=none) (hl:s.heap.NoLimit) (hroom:A.depth < recursionLimit) (hg:s.heap.IsGen a g) (hgs:s.gens[g]?=some gs)
  (hgo:∀τ,gs.Goes (model P w) A.in1 (R τ) (Y τ) n (.send .none) (s.setGen g .running))
  (hY:∀v s₁ gs',gs'.bare=true→isSusp gs'=true→(∀τ,Y τ (n - 1) (s.setGen g .running) v s₁ (fun r' s''=>Goes1 (model P w) A.in1 (R τ) (Y τ) n gs' r' s''))→Q (some v) (s₁.setGen g gs'))
  (hR:∀r s₁,(∀τ,R τ n (s.setGen g .running) r s₁)→(r= .ok (.ret .none)∧∀h',(∀b o,s₁.heap.get? b=some o→h'.get? b=some o)→Q none {s₁.setGen g .finished with heap:=h'})∨
   ∃e,r= .error e∧s₁.heap.IsGen a g∧NotStop (model P w) e s₁.heap∧E e (s₁.setGen g .finished)):
  wpAny (model P w) A (pyNext (.ref a)) Q E s:=by
 unfold pyNext
 refine wpAny_bind (wpAny_attempt (wpAny_callSpecial?_slot (name:=Str.ofString "__next__") hg.typeIs slot_gen_next (wpAny_call_entry slot_gen_next hg.typeIs entry_gen_next ?_ (args_gen_next _))))
 show wpAny _ A.in1 (Builtin.Generator.genWake (.ref a) (.send .none)) _ _ s
 unfold Builtin.Generator.genWake
 refine wpAny_bind (wpAny_holding (wpAny_genNumber hg (wpAny_bind (wpAny_genState hgs ?_))))
 have resumed:∀(k:GenResult→Sem PySem.Fin) (Q1:PySem.Fin→Shared→Prop) (E1:Value→Shared→Prop),(∀v s₁ gs',gs'.bare=true→isSusp gs'=true→(∀τ,Y τ (n - 1) (s.setGen g .running) v s₁ (fun r' s''=>Goes1 (model P w) A.in1 (R τ) (Y τ) n gs' r' s''))→wpAny (model P w) A.in1 (k (.yielded v)) Q1 E1 (s₁.setGen g gs'))→
   (∀r s₁,(∀τ,R τ n (s.setGen g .running) r s₁)→wpAny (model P w) A.in1 (k (End.ret r).result) Q1 E1 (s₁.setGen g .finished))→wpAny (model P w) A.in1 (.resume g (.send .none) [] k) Q1 E1 s:=fun k Q1 E1 h1 h2=>resume_fam i0 hgs hgo h2 h1
 cases gs with
 | running=>exact (hgo i0).elim
 | finished=>exact (hgo i0).elim
 | _=>
  refine wpAny_bind (wpAny_roomToWake hl hroom (resumed _ _ _ (fun v s₁ gs' hb hsu hv=>wpAny_pure ⟨v,rfl,wpAny_pure (hY v s₁ gs' hb hsu hv)⟩) fun r s₁ hr=>?_))
  rcases hR r s₁ hr with ⟨rfl,hq⟩ | ⟨e,rfl,hg1,hns,hq⟩
  ·show wpAny _ A.in1 (newExc (.type "StopIteration") [] >>= fun x=>raiseNew x >>= fun y=>_) _ _ _
   refine stop_flies (A:=A.in1) hh fun h' x hk ⟨o,ho,hc⟩=>?_
   refine wpAny_bind (wpAny_isInstance (T:="StopIteration") (b:=true) ⟨o,ho,hc⟩ isSubtype_stop ?_)
   exact wpAny_pure (hq h' hk)
  ·refine gen_left (α:=PySem.Fin) hg1 hns ?_
   refine wpAny_bind (hns _ _ _ _ rfl ?_)
   rw [if_neg Bool.false_ne_true]
   exact wpAny_throw hq
end
section
variable (P : Program) (w : World) (K : PySem.W.Frag) (mg : Str → Option Value) (base : Heap) (outer : List Env) (L : Nat) (a : Addr) (go : Obj) (ys : List D) (fin : Option Exn) (Gv : Addr → Nat → List Addr → Shared → Hp → Mem → Prop)
def ItemP (τ:Addr) (i:Nat) (s:Shared) (q:Hp×Mem) (v:Value) (s1:Shared) (nxt:Shared→Prop):Prop:=
 ∃H' x d,After P w K outer L s q.1 q.2 s1 H'∧ys[i]?=some d∧RelV x v∧DV K H' q.2 d x∧0 < s1.heap.objs.size∧
  ((i=0→s1.heap.objs.size=τ + 1)→∃pv,Gv τ (i + 1) pv s1 H' q.2∧∀s'' q'',VwG P w K mg base outer L (Gv τ) (i + 1) s'' q''→nxt s'')
end
def FmV (P:Program) (w:World) (K:PySem.W.Frag) (outer:List Env) (Ns:List Str) (env:Env) (a:Addr) (go:Obj) (ds0:SD) (ys:List D) (τ:Addr) (i:Nat) (pv:List Addr) (s:Shared) (H:Hp) (N:Mem):Prop:=
 (i=0→∃σ,pv= [env.locals,a]∧Fr P w K Ns env a go ds0 s H N σ)∧
 (0 < i→∃l xs,pv= [a,τ]∧s.heap.get? a=some go∧H a=none∧s.heap.IsListIter τ l i∧H τ=none∧env.locals≤τ∧τ∉frs outer∧τ≠a∧H l=some (.lst xs)∧N l=none∧DVs K H N ys xs)
theorem hok_turn {P:Program} {w:World} {H:Hp} {h h':Heap} {it:Addr} (k:HOk P w H h) (hi:H it=none) (hk:∀b o,b≠it→h.get? b=some o→h'.get? b=some o):HOk P w H h':=fun b u q=>
 (k b u q).stay (fun c v hc y=>hk c v (fun z=>by
  subst z
  rcases hc with z | z
  ·subst z;rw [hi] at q;cases q
  ·rw [hi] at z;cases z) y) (fun _ y=>y) fun _ _ y=>y
theorem After.turn {P:Program} {w:World} {K:PySem.W.Frag} {outer:List Env} {L:Nat} {s s1:Shared} {H H':Hp} {N:Mem} {it:Addr} {h':Heap} (x:After P w K outer L s H N s1 H') (hL:L≤it) (hi:H' it=none) (hk:∀b o,b≠it→s1.heap.get? b=some o→h'.get? b=some o):After P w K outer L s H N {s1 with heap:=h'} H' where
 os:=x.os
 bare:=x.bare
 un:=by
  have ne:∀{b o},(cutH s.heap L).get? b=some o→b≠it:=fun {b o} q z=>absurd (z ▸ (cutH_some q).1) (Nat.not_lt.mpr hL)
  refine ⟨fun b o q n hf hx=>hk b o (ne q) (x.un.keep b o q n hf hx),fun b o q n hf hx=>?_,x.un.free,fun b o q hx=>?_,x.un.tups,x.un.frzs,x.un.tbls⟩
  ·obtain ⟨sl,z⟩:=x.un.slot b o q n hf hx
   exact ⟨sl,hk _ _ (ne q) z⟩
  ·obtain ⟨o',z⟩:=x.un.there b o q hx
   exact ⟨o',hk _ _ (ne q) z⟩
 hok:=hok_turn x.hok hi hk
 ext:=x.ext
 rel:=x.rel
structure FsOk (P:Program) (w:World) (A:Around) (it:Addr) (fs:List Frame):Prop where
 split:splitAtGen fs=none
 guard:fs.any Frame.guarded=false
 hd:(A.over (yfC it) fs).handled=none
 done:∀(R:GenEnd) (Y:Protocol) (n:Nat) (s₀ s1:Shared),R n s₀ (.ok (.ret .none)) s1→Seg (model P w) A R Y n s₀ (yfC it) (.pure (.done (.ret .none))) fs s1
section
variable {P : Program} {w : World} {K : PySem.W.Frag} {mg : Str → Option Value} {base : Heap} {Ns ps : List Str} {qual : Str} {scope : Scope} {f : Addr} {cd : Value} {A : Around} {outer : List Env} {L : Addr} {a : Addr} {go : Obj}
variable {pre : List Stmt} {e : Expr} {yp pos : Pos} {ys : List D} {fin : Option Exn} {ds0 : SD} {wpre : WS} {wye : WE} {τ : Addr}
theorem fm_turn (ha:L≤a) {i n:Nat} {s s':Shared} {H H':Hp} {N:Mem} {R:GenEnd} {Y:Protocol} {it l:Addr} {xs:List V} {fs:List Frame} (hin:i + n=ys.length) (ff:fin=none)
  (hR:∀r s1,EndG P w K outer L a go ys fin i s (H,N) r s1→R (n + 2) s r s1)
  (hY:∀v s1 (kap:Resume→Shared→Prop),ItemP P w K mg base outer L ys (FmV P w K outer Ns (envOfC qual scope L f cd) a go ds0 ys) τ i s (H,N) v s1 (fun s''=>kap (.send .none) s'')→Y (n + 1) s v s1 kap)
  (hN:i < ys.length→it=τ→∀s'' q'',VwG P w K mg base outer L (FmV P w K outer Ns (envOfC qual scope L f cd) a go ds0 ys τ) (i + 1) s'' q''→Seg (model P w) A R Y (n + 1) s'' (yfC it) ((model P w).den (yfC it)) fs s'')
  (ok:FsOk P w A it fs) (hit:s'.heap.IsListIter it l i) (hi:H' it=none) (hL:L≤it) (hf:it∉frs outer) (hne:it≠a) (hag:s'.heap.get? a=some go) (hao:H' a=none) (hl:H' l=some (.lst xs)) (hn:N l=none) (dv:DVs K H' N ys xs) (af:After P w K outer L s H N s' H')
  (h0:i=0→it + 1=s'.heap.objs.size) (h1:i≠0→it=τ):Seg (model P w) A R Y (n + 2) s (yfC it) ((model P w).den (yfC it)) fs s':=by
 obtain ⟨hlen,its,nn,rits,hheap⟩:=af.hok l (.lst xs) hl
 have isl:s'.heap.IsList l its.toArray:=⟨_,hheap,rfl,nn,rfl⟩
 have hl1:=dv.len
 have hl2:=rits.length
 by_cases hlt:i < ys.length
 ·obtain ⟨x,hx,dx⟩:=dv.get (List.getElem?_eq_getElem hlt)
  obtain ⟨u,hu,ru⟩:=rits.get hx
  refine yf_turn (n:=n + 1) ok.split ok.guard hit isl (v:=u) (by simpa using hu) fun h' kap hit' hz hk hseg=>?_
  have lt:it < h'.objs.size:=by
   obtain ⟨o,ho,_⟩:=hit'
   exact Heap.lt_size ho
  have et:(i=0→h'.objs.size=τ + 1)→it=τ:=fun z=>by
   by_cases hi0:i=0
   ·exact Nat.succ.inj ((h0 hi0).trans (hz.symm.trans (z hi0)))
   ·exact h1 hi0
  refine hY _ _ kap ⟨H',x,ys[i],af.turn hL hi hk,List.getElem?_eq_getElem hlt,ru,dx,Nat.lt_of_le_of_lt (Nat.zero_le _) lt,fun z=>⟨[a,τ],⟨fun y=>absurd y (Nat.succ_ne_zero _),fun _=>?_⟩,fun s'' q'' hv=>hseg s'' ?_ ?_⟩⟩
  ·have et:=et z
   subst et
   exact ⟨l,xs,rfl,hk _ _ (Ne.symm hne) hag,hao,hit',hi,hL,hf,hne,hl,hn,dv⟩
  ·have et:=et z
   subst et
   obtain ⟨_,pv,_,hv2⟩:=hv
   obtain ⟨l2,xs2,_,_,_,⟨o,ho,hc,_⟩,_⟩:=hv2 (Nat.succ_pos _)
   exact ⟨o,ho,hc⟩
  ·exact hN hlt (et z) s'' q'' hv
 ·have hie:i=ys.length:=by omega
  refine yf_stop ok.hd hit isl (by
   have e2:its[i]?=none:=List.getElem?_eq_none_iff.mpr (by omega)
   simpa using e2) fun h' hk=>ok.done _ _ _ _ _ (hR _ _ (.inl ⟨rfl,ff,hie,H',af.turn hL hi fun b o hb eb=>hk b o hb eb⟩))
end
end DL
set_option maxHeartbeats 4000000
namespace DL
open PySem PySem.Spec PyProof.Rows L2 GenW RZ
section
variable {P : Program} {w : World} {K : PySem.W.Frag} {mg : Str → Option Value} {base : Heap} {Ns ps : List Str} {qual : Str} {scope : Scope} {f : Addr} {cd : Value} {A : Around} {outer : List Env} {L : Addr} {a : Addr} {go : Obj}
variable {pre : List Stmt} {e : Expr} {yp pos : Pos} {ys : List D} {fin : Option Exn} {ds0 : SD} {wpre : WS} {wye : WE} {τ : Addr}
theorem fm_seg (S:GScope Ns ps scope) (hc:∀n,cellsFrom n scope.names []= []) (hd:A.handled=none) (hfr:A.frames=some outer) (ha:L≤a) (haf:a∉frs outer) (hfl:∀b∈frs outer,b < L) (hgo:∀v,go.data≠ .cell v) (hi:interactive (envOfC qual scope L f cd)=false) (hsw:swapsWith (.YieldFrom e yp) none pos.line (envOfC qual scope L f cd)=pure false)
  (hb:∀(s0:Shared) (H0:Hp) (E:XK),JSs (gtx P w K mg base Ns qual scope f cd A outer L s0 H0 E [(a,go)]) (WD E) pre wpre∧JE (gtx P w K mg base Ns qual scope f cd A outer L s0 H0 E [(a,go)]) (WD E) e wye)
  (hw:wpre {nx:=fun ds3 M3=>wye ds3 M3 (fun y M4=>fin=none∧y= .lst ys∧M4=m0) (fun x M4=>fin=some x∧ys= []∧M4=m0),rt:=fun _ _=>False,ex:=fun x _ M4=>fin=some x∧ys= []∧M4=m0} ds0 m0)
  {s:Shared} {q:Hp×Mem} (hv:VwG P w K mg base outer L (FmV P w K outer Ns (envOfC qual scope L f cd) a go ds0 ys τ) 0 s q):
  Seg (model P w) A (RVw (ys.length + 2) (VwG P w K mg base outer L (FmV P w K outer Ns (envOfC qual scope L f cd) a go ds0 ys τ)) (EndG P w K outer L a go ys fin))
   (YVw (ys.length + 2) (VwG P w K mg base outer L (FmV P w K outer Ns (envOfC qual scope L f cd) a go ds0 ys τ)) (ItemP P w K mg base outer L ys (FmV P w K outer Ns (envOfC qual scope L f cd) a go ds0 ys) τ)) (ys.length + 2) s
   (.func (pre ++ [.Expr (.YieldFrom e yp) pos]) (envOfC qual scope L f cd)) ((model P w).den (.func (pre ++ [.Expr (.YieldFrom e yp) pos]) (envOfC qual scope L f cd))) [] s:=by
 refine seg_views (Cs:=fun i c t fs=>match i with
  | 0=>c= .func (pre ++ [.Expr (.YieldFrom e yp) pos]) (envOfC qual scope L f cd)∧t=(model P w).den (.func (pre ++ [.Expr (.YieldFrom e yp) pos]) (envOfC qual scope L f cd))∧fs= []
  | _ + 1=>c=yfC τ∧t=(model P w).den (yfC τ)∧FsOk P w A τ fs∧fin=none)
  (fun i n c t fs s q R Y hin hcs hvw hR hY hN=>?_) ys.length 0 _ _ _ s q (Nat.zero_add _) ⟨rfl,rfl,rfl⟩ hv
 obtain ⟨H,N⟩:=q
 obtain ⟨gd,pv,f1,f2⟩:=hvw
 cases i with
 | succ i=>
  obtain ⟨rfl,rfl,ok,ff⟩:=hcs
  obtain ⟨l,xs,_,h1,h2,h3,h4,h5,h6,h7,h8,h9,h10⟩:=f2 (Nat.succ_pos i)
  refine fm_turn ha hin ff hR hY (fun hlt _ s'' q'' hv''=>hN hlt _ _ _ s'' q'' ⟨rfl,rfl,ok,ff⟩ hv'') ok h3 h4 h5 h6 h7 h1 h2 h8 h9 h10 ⟨rfl,gd.bare,Un.kept fun b o e=>(cutH_some e).2,gd.hok,Ext.rfl',gd.rel⟩ (fun z=>absurd z (Nat.succ_ne_zero _)) fun _=>rfl
 | zero=>
  obtain ⟨rfl,rfl,rfl⟩:=hcs
  obtain ⟨σ,_,fr⟩:=f1 rfl
  have out:∀x s1,L2.CX P w outer H {s with heap:=cutH s.heap L} (fun cls dc H'=>0=ys.length∧∃x,fin=some x∧Ext H N H' N∧RelM K H' N∧ExV K H' N cls dc x) x s1→(∀p∈ [(a,go)],s1.heap.get? p.1=some p.2)→R (n + 2) s (.error x) s1:=fun x s1 hcx hp=>by
   obtain ⟨a',B,H',cls,dc,e1,fl,ok,ub,na,os,ag,ei,x0,ef,e2⟩:=hcx
   exact hR _ _ (.inr ⟨x,x0,rfl,ef,ei,hp (a,go) List.mem_cons_self,a',B,H',cls,dc,e1,fl,ok,ub,na,os,ag,e2⟩)
  have I:=inv_woken (mg:=mg) (f:=f) (cd:=cd) (E:=fun cls dc H'=>0=ys.length∧∃x,fin=some x∧Ext H N H' N∧RelM K H' N∧ExV K H' N cls dc x) S hc hd hfr gd fr ha haf hgo
  obtain ⟨b1,b2⟩:=hb {s with heap:=cutH s.heap L} H (fun cls dc H'=>0=ys.length∧∃x,fin=some x∧Ext H N H' N∧RelM K H' N∧ExV K H' N cls dc x)
  have Rs:RelS K N σ H ds0 m0:=⟨⟨by rw [uni_m0];exact gd.rel,fun _ _ _=>rfl⟩,by rw [uni_m0];exact fr.sl⟩
  have hE:∀(cls:Value) (dc:Option Addr) (H':Hp) (x:Exn) (M':Mem),Ext H (uni m0 N) H' (uni M' N)→Rm K H' M' N→ExV K H' (uni M' N) cls dc x→fin=some x∧ys= []∧M'=m0→0=ys.length∧∃x,fin=some x∧Ext H N H' N∧RelM K H' N∧ExV K H' N cls dc x:=fun cls dc H' x M' e1 r1 v1 ⟨h1,h2,h3⟩=>by
   subst h3
   rw [uni_m0] at e1 v1
   have r2:=r1.rel
   rw [uni_m0] at r2
   exact ⟨by rw [h2];rfl,x,h1,e1,r2,v1⟩
  refine seg_func ?_
  rw [execs_app_wrap]
  refine seg_wrap ?_
  rw [over_func]
  refine wpAny_mono (b1.run [] s σ H {nx:=fun σ7 H7=>liftE K (WD fun cls dc H'=>0=ys.length∧∃x,fin=some x∧Ext H N H' N∧RelM K H' N∧ExV K H' N cls dc x) wye σ7 H7 fun x8 H8=>∃M4,fin=none∧M4=m0∧DV K H8 (uni M4 N) (.lst ys) x8∧Rm K H8 M4 N∧Ext H (uni m0 N) H8 (uni M4 N),rt:=fun _ _=>False} I
   ⟨ds0,m0,N,_,Rs,rfl,hw,⟨fun σ7 H7 ds7 M7 e7 r7 q7=>?_,fun v H7 d7 M7 e7 r7 dv7 q7=>q7,fun _ _ _ _ _ _ z=>z.elim,fun _ _ _ _ _ _ z=>z.elim,fun cls dc σ7 H7 x7 ds7 M7 e7 r7 v7 q7=>hE cls dc H7 x7 M7 e7 r7.1 v7 q7⟩⟩) (fun fl s7 h7=>?_) fun x s1 hx=>seg_gone (out x) hx
  ·refine ⟨ds7,M7,N,_,_,r7,rfl,q7,fun x8 H8 y M8 e8 r8 dv8 q8=>?_,fun cls dc H8 x8 M8 e8 r8 v8 q8=>hE cls dc H8 x8 M8 (e7.trans e8) r8 v8 q8⟩
   obtain ⟨q1,q2,q3⟩:=q8
   subst q2
   exact ⟨M8,q1,q3,dv8,r8,e7.trans e8⟩
  cases fl with
  | brk=>obtain ⟨_,_,_,z⟩:=h7;exact z.elim
  | cont=>obtain ⟨_,_,_,z⟩:=h7;exact z.elim
  | ret v=>obtain ⟨_,_,_,_,_,z⟩:=h7;exact z.elim
  | next=>
   obtain ⟨σ7,H7,I7,q7⟩:=h7
   show Seg _ _ _ _ _ _ _ ((execs [.Expr (.YieldFrom e yp) pos] (envOfC qual scope L f cd)).wrap _ _ id id) _ _
   refine seg_execs_cons ?_
   rw [exec_Expr (env:=envOfC qual scope L f cd) _ pos hi hsw]
   show Seg _ _ _ _ _ _ _ (.at pos fun _=>((eval e (envOfC qual scope L f cd) >>= fun v=>(standAt yp >>= fun _=>yieldFrom (envOfC qual scope L f cd) v)) >>= fun x=>dropValue (.YieldFrom e yp) pos x).wrap _ _ id id) _ _
   refine seg_at ?_
   refine segw_bind2 ?_
   rw [over_func]
   refine wpAny_mono (b2.run _ s7 σ7 H7 _ I7 q7) (fun v s1 hv=>?_) fun x s1 hx=>seg_gone (out x) hx
   obtain ⟨x8,H8,I8,r8,M4,ff,e4,dv8,rm8,e8⟩:=hv
   subst e4
   rw [uni_m0] at dv8 e8
   have rel8:=rm8.rel
   rw [uni_m0] at rel8
   obtain ⟨l,xs,rfl,hl,hn,dvs⟩:=dv8
   obtain rfl:v=Value.ref l:=r8
   obtain ⟨hlen,its,nn,rits,hheap⟩:=I8.hok l (.lst xs) hl
   have isl:s1.heap.IsList l its.toArray:=⟨_,hheap,rfl,nn,rfl⟩
   have hne':¬((Value.type "list" == Value.type "coroutine")=true):=by decide
   refine seg_at ?_
   show Seg _ _ _ _ _ _ _ ((yieldFrom (envOfC qual scope L f cd) (.ref l)).wrap (fun b=>(dropValue (.YieldFrom e yp) pos b).wrap _ _ id id) _ id id) _ s1
   unfold yieldFrom
   refine seg_bind_wrap (wpAny_typeOf isl.typeIs ?_)
   rw [if_neg hne']
   refine seg_bind_wrap (wpAny_holding ?_)
   rw [over_func]
   refine wpAny_pyIter_list isl ?_
   refine seg_call fun p=>?_
   have ksz:∀b o,s1.heap.get? b=some o→b≠s1.heap.objs.size:=fun b o e=>Nat.ne_of_lt (Heap.lt_size e)
   have kp:∀b o,s1.heap.get? b=some o→(s1.heap.push {cls:= .type "list_iterator",data:= .fields #[.ref l, .int 0 0]}).get? b=some o:=fun b o e=>Heap.get?_push_of_some _ e
   obtain ⟨p1,p2,p3,_⟩:=I8.pin (a,go) (List.mem_append_left _ List.mem_cons_self)
   have hLl:L≤s1.heap.objs.size:=by
    have:=Heap.lt_size p1
    exact Nat.le_of_lt (Nat.lt_of_le_of_lt ha this)
   refine fm_turn (s':={s1 with heap:=s1.heap.push {cls:= .type "list_iterator",data:= .fields #[.ref l, .int 0 0]}}) ha hin ff hR hY (fun hlt et s'' q'' hv''=>?_) ?ok ⟨_,Heap.get?_push_size _ rfl,rfl,rfl⟩ (I8.hok.fresh (Nat.le_refl _)) hLl (fun z=>absurd (hfl _ z) (Nat.not_lt.mpr hLl)) (fun z=>ksz _ _ p1 z.symm) (kp _ _ p1) p2 hl hn dvs ?af (fun _=>?sz) (fun z=>absurd rfl z)
   case af=>
    have I9:=I8.kept (t':=s1.toks) kp
    exact ⟨I9.os,I9.bare,I9.base,I9.hok,e8,rel8⟩
   case sz=>exact (Heap.size_push ..).symm
   case ok=>
    refine ⟨rfl,rfl,?_,fun R Y n s₀ s1 h=>?_⟩
    ·show (A.over (.func (pre ++ [.Expr (.YieldFrom e yp) pos]) (envOfC qual scope L f cd)) []).handled=none
     rw [over_func]
     exact hd
    ·refine seg_leaf (.ok (.ret .none)) ?_
     show Seg _ _ _ _ _ _ _ ((execs [] (envOfC qual scope L f cd)).wrap gK (gJ (envOfC qual scope L f cd)) id id) [] _
     exact seg_execs_nil (seg_end (.ok (.ret .none)) h)
   ·subst et
    refine hN hlt _ _ _ s'' q'' ⟨rfl,rfl,⟨rfl,rfl,?_,fun R Y n s₀ s1 h=>?_⟩,ff⟩ hv''
    ·show (A.over (.func (pre ++ [.Expr (.YieldFrom e yp) pos]) (envOfC qual scope L f cd)) []).handled=none
     rw [over_func]
     exact hd
    ·refine seg_leaf (.ok (.ret .none)) ?_
     show Seg _ _ _ _ _ _ _ ((execs [] (envOfC qual scope L f cd)).wrap gK (gJ (envOfC qual scope L f cd)) id id) [] _
     exact seg_execs_nil (seg_end (.ok (.ret .none)) h)
end
end DL
set_option maxHeartbeats 4000000
namespace DL
open PySem PySem.Spec PyProof.Rows L2 GenW RZ
structure GPromP (P:Program) (w:World) (K:PySem.W.Frag) (mg:Str→Option Value) (base:Heap) (k:Nat) (outer:List Env) (L a:Nat) (go:Obj) (c:Code) (ys:List D) (fin:Option Exn) (Gv:Addr→Nat→List Addr→Shared→Hp→Mem→Prop):Prop where
 keep:∀τ i pv s1 H1 N1 s2 H2 N2,Gv τ i pv s1 H1 N1→(∀b∈pv,∀o,s1.heap.get? b=some o→s2.heap.get? b=some o)→(∀b∈pv,H2 b=none)→(∀d v,DV K H1 N1 d v→DV K H2 N2 d v)→Gv τ i pv s2 H2 N2
 obj:∀τ i pv s H N,Gv τ i pv s H N→∀b∈pv,L≤b∧(∃o,s.heap.get? b=some o∧∀v,o.data≠ .cell v)∧H b=none∧b∉frs outer
 gen:∀τ i pv s H N,Gv τ i pv s H N→s.heap.get? a=some go
 lt:∀τ i pv s H N,Gv τ i pv s H N→L < s.heap.objs.size
 same:∀τ i pv s H N s2,Gv τ i pv s H N→s2.heap=s.heap→Gv τ i pv s2 H N
 wake:∀τ (A:Around),Room k A→A.frames=some outer→∀s q,VwG P w K mg base outer L (Gv τ) 0 s q→Seg (model P w) A (RVw (ys.length + 2) (VwG P w K mg base outer L (Gv τ)) (EndG P w K outer L a go ys fin)) (YVw (ys.length + 2) (VwG P w K mg base outer L (Gv τ)) (ItemP P w K mg base outer L ys Gv τ)) (ys.length + 2) s c ((model P w).den c) [] s
structure GnAtP (P:Program) (w:World) (K:PySem.W.Frag) (mg:Str→Option Value) (base:Heap) (k:Nat) (outer:List Env) (ys:List D) (fin:Option Exn) (s:Shared) (H:Hp) (N:Mem) (s':Shared) (L a g:Nat) (go:Obj) (c:Code) (Gv:Addr→Nat→List Addr→Shared→Hp→Mem→Prop):Prop where
 keep:∀b o,s.heap.get? b=some o→s'.heap.get? b=some o
 os:s'.os=s.os
 bare:AllBare s'.gens
 low:s.heap.objs.size≤L
 at_:s'.heap.get? a=some go
 gen:∀h:Heap,h.get? a=some go→h.IsGen a g
 fresh:s'.gens[g]?=some (.fresh c)
 first:∃pv,∀τ,Gv τ 0 pv s' H N
 prom:GPromP P w K mg base k outer L a go c ys fin Gv
def GnMadeP (P:Program) (w:World) (K:PySem.W.Frag) (mg:Str→Option Value) (base:Heap) (k:Nat) (outer:List Env) (ys:List D) (fin:Option Exn) (s:Shared) (H:Hp) (N:Mem) (u:Value) (s':Shared):Prop:=
 ∃L a g go c Gv,u= .ref a∧GnAtP P w K mg base k outer ys fin s H N s' L a g go c Gv
structure GnC (P:Program) (w:World) (K:PySem.W.Frag) (mg:Str→Option Value) (base:Heap) (k:Nat) (f:Addr) (gsp:SpGD) (fd:FuncData) (ps:List Str):Prop where
 len:∀ds ys fin,gsp ds ys fin→ds.length=ps.length
 run:∀(A:Around) (outer:List Env) (s:Shared) (H:Hp) (args:Args) (us:List Value) (vs:List V) (ds ys:List D) (fin:Option Exn) (N:Mem),Room k A→Env0 P w K mg base A outer s H→BindsTo s fd args (ps.zip us)→Vals vs us→RelM K H N→DVs K H N ds vs→gsp ds ys fin→
  codeAny (model P w) A (.call (.ref f) args) (fun r s'=>∃u,r= .ok (.ret u)∧GnMadeP P w K mg base k outer ys fin s H N u s') s
def NsX (K:PySem.W.Frag) (fin:Option Exn):Prop:=∀x,fin=some x→∃C ns es,x= .own C ns es∧PySem.W.subIn K (.ref C) (.type "StopIteration")=some false
structure GnF (P:Program) (w:World) (K:PySem.W.Frag) (mg:Str→Option Value) (base:Heap) (k:Nat) (f:Addr) (gsp:SpGD):Prop where
 ex:∃fd ps,Binds K fd ps []∧GnC P w K mg base k f gsp fd ps
 kp:PySem.W.keepIn K (.ref f)=true
 ns:∀ds ys fin,gsp ds ys fin→NsX K fin
structure GnFK (P:Program) (w:World) (K:PySem.W.Frag) (mg:Str→Option Value) (base:Heap) (k:Nat) (f:Addr) (gsp:SpGD) (ks:List Str) (n m:Nat) (ord:List Nat):Prop where
 ex:∃fd ps,KBinds K fd ps ks (gOrd n m ord) (gOrd n m ord)∧GnC P w K mg base k f gsp fd ps
 kp:PySem.W.keepIn K (.ref f)=true
 ns:∀ds ys fin,gsp ds ys fin→NsX K fin
section
variable {P : Program} {w : World} {K : PySem.W.Frag} {mg : Str → Option Value} {base : Heap} {k : Nat} {outer : List Env} {Ns : List Str} {qual : Str} {scope : Scope} {f : Addr} {cd : Value} {L a : Addr} {go : Obj} {ds0 : SD} {ys : List D} {fin : Option Exn} {c : Code}
theorem Fr.moved2 {sl:SD} {s s2:Shared} {H H2:Hp} {N N2:Mem} {σ:L2.St} (hc:∀n,cellsFrom n scope.names []= []) (x:Fr P w K Ns (envOfC qual scope L f cd) a go sl s H N σ) (hL:∀o,s.heap.get? L=some o→s2.heap.get? L=some o) (ha:∀o,s.heap.get? a=some o→s2.heap.get? a=some o) (h1:H2 L=none) (h2:H2 a=none) (kp:∀d v,DV K H N d v→DV K H2 N2 d v):
  Fr P w K Ns (envOfC qual scope L f cd) a go sl s2 H2 N2 σ:=by
 refine ⟨?_,h1,x.len,⟨x.sl.1,fun i d hd=>?_⟩,ha _ x.gen.1,h2,x.gen.2.2⟩
 ·obtain ⟨m,⟨o,es,ep,ho,r⟩,hl⟩:=x.loc
  refine ⟨m,⟨o,es,ep,hL o ho,r⟩,fun i y v e1 e2 e3=>?_⟩
  obtain ⟨u,r1,l⟩:=hl i y v e1 e2 e3
  refine ⟨u,r1,?_⟩
  rcases l with l | ⟨_,c,ec,_⟩
  ·exact .inl l
  ·have ec:(cellsFrom (L + 1) scope.names []).lookup y=some c:=ec
   rw [hc] at ec
   cases ec
 ·obtain ⟨v,e1,dv⟩:=x.sl.2 i d hd
  exact ⟨v,e1,kp d v dv⟩
theorem fmv_prom (hc:∀n,cellsFrom n scope.names []= []) (ha:L≤a) (hfl:∀b∈frs outer,b < L) (hgo:∀v,go.data≠ .cell v)
  (hw:∀τ (A:Around),Room k A→A.frames=some outer→∀s q,VwG P w K mg base outer L (FmV P w K outer Ns (envOfC qual scope L f cd) a go ds0 ys τ) 0 s q→Seg (model P w) A (RVw (ys.length + 2) (VwG P w K mg base outer L (FmV P w K outer Ns (envOfC qual scope L f cd) a go ds0 ys τ)) (EndG P w K outer L a go ys fin)) (YVw (ys.length + 2) (VwG P w K mg base outer L (FmV P w K outer Ns (envOfC qual scope L f cd) a go ds0 ys τ)) (ItemP P w K mg base outer L ys (FmV P w K outer Ns (envOfC qual scope L f cd) a go ds0 ys) τ)) (ys.length + 2) s c ((model P w).den c) [] s):
  GPromP P w K mg base k outer L a go c ys fin (FmV P w K outer Ns (envOfC qual scope L f cd) a go ds0 ys) where
 keep τ i pv s1 H1 N1 s2 H2 N2:=by
  rintro ⟨f1,f2⟩ hk hn kp
  refine ⟨fun hi=>?_,fun hi=>?_⟩
  ·obtain ⟨σ,rfl,fr⟩:=f1 hi
   exact ⟨σ,rfl,fr.moved2 hc (hk _ List.mem_cons_self) (hk _ (List.mem_cons_of_mem _ List.mem_cons_self)) (hn _ List.mem_cons_self) (hn _ (List.mem_cons_of_mem _ List.mem_cons_self)) kp⟩
  ·obtain ⟨l,xs,rfl,h1,h2,⟨o,ho,ho2⟩,h4,h5,h6,h7,h8,h9,h10⟩:=f2 hi
   obtain ⟨l2,xs2,el,q1,q2,q3⟩:=kp (.lst ys) (.ref l) ⟨l,xs,rfl,h8,h9,h10⟩
   cases el
   exact ⟨l,xs2,rfl,hk _ List.mem_cons_self _ h1,hn _ List.mem_cons_self,⟨o,hk _ (List.mem_cons_of_mem _ List.mem_cons_self) _ ho,ho2⟩,hn _ (List.mem_cons_of_mem _ List.mem_cons_self),h5,h6,h7,q1,q2,q3⟩
 obj τ i pv s H N:=by
  rintro ⟨f1,f2⟩ b hb
  rcases Nat.eq_zero_or_pos i with hi | hi
  ·obtain ⟨σ,rfl,fr⟩:=f1 hi
   rcases List.mem_cons.mp hb with rfl | hb
   ·obtain ⟨m,⟨o,es,ep,ho,hd,_⟩,_⟩:=fr.loc
    exact ⟨Nat.le_refl _,⟨o,ho,fun v q=>by rw [hd] at q;cases q⟩,fr.free,fun y=>absurd (hfl _ y) (Nat.lt_irrefl _)⟩
   ·rw [List.mem_singleton.mp hb]
    exact ⟨ha,⟨go,fr.gen.1,hgo⟩,fr.gen.2.1,fun y=>absurd (Nat.lt_of_lt_of_le (hfl _ y) ha) (Nat.lt_irrefl _)⟩
  ·obtain ⟨l,xs,rfl,h1,h2,⟨o,ho,_,hd⟩,h4,h5,h6,h7,h8,h9,h10⟩:=f2 hi
   rcases List.mem_cons.mp hb with rfl | hb
   ·exact ⟨ha,⟨go,h1,hgo⟩,h2,fun y=>absurd (Nat.lt_of_lt_of_le (hfl _ y) ha) (Nat.lt_irrefl _)⟩
   ·rw [List.mem_singleton.mp hb]
    exact ⟨h5,⟨o,ho,fun v q=>by rw [hd] at q;cases q⟩,h4,h6⟩
 gen τ i pv s H N:=by
  rintro ⟨f1,f2⟩
  rcases Nat.eq_zero_or_pos i with hi | hi
  ·obtain ⟨σ,rfl,fr⟩:=f1 hi
   exact fr.gen.1
  ·obtain ⟨l,xs,rfl,h1,_⟩:=f2 hi
   exact h1
 lt τ i pv s H N:=by
  rintro ⟨f1,f2⟩
  have h:s.heap.get? a=some go:=by
   rcases Nat.eq_zero_or_pos i with hi | hi
   ·obtain ⟨σ,rfl,fr⟩:=f1 hi
    exact fr.gen.1
   ·obtain ⟨l,xs,rfl,h1,_⟩:=f2 hi
    exact h1
  exact Nat.lt_of_le_of_lt ha (Heap.lt_size h)
 same τ i pv s H N s2:=by
  rintro ⟨f1,f2⟩ e
  refine ⟨fun hi=>?_,fun hi=>?_⟩
  ·obtain ⟨σ,rfl,fr⟩:=f1 hi
   refine ⟨σ,rfl,⟨?_,fr.free,fr.len,fr.sl,?_⟩⟩
   ·rw [e];exact fr.loc
   ·rw [e];exact fr.gen
  ·obtain ⟨l,xs,h0,h1,h2,h3,h4⟩:=f2 hi
   exact ⟨l,xs,h0,by rw [e];exact h1,h2,by rw [e];exact h3,h4⟩
 wake:=hw
end
section
variable {P : Program} {w : World} {K : PySem.W.Frag} {mg : Str → Option Value} {base : Heap} {k : Nat} {x qual : Str} {st : Stmt} {f : Addr} {fd : FuncData} {Ns ps : List Str} {gsp : SpGD} {yp pos : Pos} {pre : List Stmt} {e : Expr} {wpre : WS} {wye : WE}
theorem GnC.mkFrom (F:Fun K x qual st f fd) (S:GScope Ns ps (defScope st)) (hc:∀n,cellsFrom n (defScope st).names []= []) (hbody:defBody st=pre ++ [.Expr (.YieldFrom e yp) pos]) (hin:∀(L:Addr) (cd:Value),interactive (envOfC qual (defScope st) L f cd)=false) (hsw:∀(L:Addr) (cd:Value),swapsWith (.YieldFrom e yp) none pos.line (envOfC qual (defScope st) L f cd)=pure false)
  (hb:∀(cd:Value) (A:Around) (outer:List Env) (L:Addr) (s0:Shared) (H0:Hp) (E:XK) (pn:List (Addr×Obj)),Room k (A.deeper (envOfC qual (defScope st) L f cd))→L2.Takes (gtx P w K mg base Ns qual (defScope st) f cd A outer L s0 H0 E pn) (WD E)→
   JSs (gtx P w K mg base Ns qual (defScope st) f cd A outer L s0 H0 E pn) (WD E) pre wpre∧JE (gtx P w K mg base Ns qual (defScope st) f cd A outer L s0 H0 E pn) (WD E) e wye)
  (spec:∀ds ys fin,gsp ds ys fin→ds.length=ps.length∧wpre {nx:=fun ds3 M3=>wye ds3 M3 (fun y M4=>fin=none∧y= .lst ys∧M4=m0) (fun x M4=>fin=some x∧ys= []∧M4=m0),rt:=fun _ _=>False,ex:=fun x _ M4=>fin=some x∧ys= []∧M4=m0} (startD Ns ds) m0):
  GnC P w K mg base (k + 1) f gsp fd ps:=by
 refine ⟨fun ds ys fin h=>(spec ds ys fin h).1,fun A outer s H args us vs ds ys fin N hr e0 hbt r R dv hsp=>?_⟩
 obtain ⟨oc,od,kV,doc,pm,an,cdv,ct,osl,rfl,lk,hcd⟩:=F.ex
 obtain ⟨hl,hwp⟩:=spec ds ys fin hsp
 have KX:K.In s.heap:=e0.mod.kin.keeps fun b o e=>(e0.bs b o e).1
 have lim:s.heap.NoLimit:=e0.mod.nolimit.keeps fun b o e=>(e0.bs b o e).1
 have hlv:vs.length=ps.length:=by rw [dv.len];exact hl
 have hkind:∀y∈ps.zip us,(defScope st).names.lookup y.1=some .local∨((defScope st).names.lookup y.1=some .cell∧((cellsFrom (s.heap.objs.size + 1) (defScope st).names []).lookup y.1).isSome=true):=fun ⟨n,v⟩ hy=>by
  rcases S.par n (List.of_mem_zip hy).1 with q | q
  ·exact .inl q
  ·exact .inr ⟨q,PySem.W.cellsFrom_some _ _ _ (.inl q)⟩
 refine codeAny_call_generator hr.depth (KX _ _ lk) rfl S.co S.gen rfl (PySem.W.codeRec_of KX hcd) (hbt _ _ _ _ ?_)
 refine wpAny_newFunctionEnv_cells S.kind hkind fun env he s1 x1=>?_
 subst he
 obtain ⟨h1,tk,es1,hk1⟩:=x1.done
 have lt1:s.heap.objs.size < s1.heap.objs.size:=x1.toInCall.ns.lt
 have kp1:∀b o,s.heap.get? b=some o→s1.heap.get? b=some o:=x1.toInCall.keep
 have I1:=inv_startG (mg:=mg) (E:=fun _ _ _=>True) S hr.hd e0 hlv r x1
 refine ⟨lim.keeps kp1,?_⟩
 have main:∀(go:Obj) (nm qn:Value) (tk2:Nat),go.cls= .type "generator"→go.data= .fields #[.int s1.gens.size 0,nm,qn]→go.slots= #[]→(∀h:Heap,(h.push go).get? h.objs.size=some go)→
   ∃u,(Except.ok (Flow.ret (.ref s1.heap.objs.size)):Result)= .ok (.ret u)∧GnMadeP P w K mg base (k + 1) outer ys fin s H N u {s1 with gens:=s1.gens.push (.fresh (.func (defBody st) (envOfC qual (defScope st) s.heap.objs.size f cdv))),toks:=tk2,heap:=s1.heap.push go}:=by
  intro go nm qn tk2 hgc hgd hgs hgp
  have push:∀b o,s1.heap.get? b=some o→(s1.heap.push go).get? b=some o:=fun b o e=>Heap.get?_push_of_some _ e
  have hne:s1.heap.objs.size≠s.heap.objs.size:=Nat.ne_of_gt lt1
  have hcell:∀v,go.data≠ .cell v:=fun v q=>by rw [hgd] at q;cases q
  have hfl:∀b∈frs outer,b < s.heap.objs.size:=fun b hb=>by
   obtain ⟨_,o,e,_⟩:=e0.funs.mem hb
   exact Heap.lt_size e
  have ha:s.heap.objs.size≤s1.heap.objs.size:=Nat.le_of_lt lt1
  refine ⟨.ref s1.heap.objs.size,rfl,s.heap.objs.size,s1.heap.objs.size,s1.gens.size,go,_,FmV P w K outer Ns (envOfC qual (defScope st) s.heap.objs.size f cdv) s1.heap.objs.size go (startD Ns ds) ys,rfl,
   ⟨fun b o e=>push b o (kp1 b o e),by rw [es1],AllBare.push (by rw [es1];exact e0.bare) rfl,Nat.le_refl _,hgp _,fun h e=>⟨go,nm,qn,e,hgc,hgd,hgs⟩,Array.getElem?_push_size ..,?_,?_⟩⟩
  ·refine ⟨_,fun τ=>⟨fun _=>⟨L2.start Ns vs,rfl,⟨?_,I1.free,I1.len,Sl.start dv,hgp _,I1.hok.fresh (Nat.le_refl _),hne⟩⟩,fun hi=>absurd hi (Nat.lt_irrefl _)⟩⟩
   obtain ⟨m,⟨o,es,ep,ho,hr'⟩,hl'⟩:=I1.loc
   refine ⟨m,⟨o,es,ep,push _ o ho,hr'⟩,fun i y v e1 e2 e3=>?_⟩
   obtain ⟨u,r1,l⟩:=hl' i y v e1 e2 e3
   refine ⟨u,r1,?_⟩
   rcases l with l | ⟨_,c,ec,_⟩
   ·exact .inl l
   ·have ec:(cellsFrom (s.heap.objs.size + 1) (defScope st).names []).lookup y=some c:=ec
    rw [hc] at ec
    cases ec
  ·refine fmv_prom hc ha hfl hcell fun τ Aw hrw hfw s2 q hv=>?_
   have hb':=fun (s0:Shared) (H0:Hp) (E:XK)=>hb cdv Aw outer s.heap.objs.size s0 H0 E [(s1.heap.objs.size,go)] (hrw.deeper _) takes_gtx
   rw [hbody]
   exact fm_seg S hc hrw.hd hfw ha (fun y=>absurd (Nat.lt_of_lt_of_le (hfl _ y) ha) (Nat.lt_irrefl _)) hfl hcell (hin _ _) (hsw _ _) hb' hwp hv
 exact main _ _ _ _ rfl rfl rfl fun h=>Heap.get?_push_size _ rfl
theorem GnC.plain (c:GnC P w K mg base k f gsp fd ps) (hbd:Binds K fd ps []) (kp:PySem.W.keepIn K (.ref f)=true) (ns:∀ds ys fin,gsp ds ys fin→NsX K fin):GnF P w K mg base k f gsp:=⟨⟨fd,ps,hbd,c⟩,kp,ns⟩
end
end DL
set_option maxHeartbeats 4000000
namespace DL
open PySem PySem.Spec PyProof.Rows L2 GenW RZ
abbrev WN:=WG (List D×Option Exn)
structure JN (X:Cx) (W:WX) (k:Nat) (e:Expr) (wn:WN):Prop where
 run:∀(pins:List (Addr×Obj)) (s:Shared) (σ:L2.St) (H:Hp) (ds:SD) (M F:Mem) (Qd:List D×Option Exn→Mem→Prop) (Xd:KX),Inv X pins σ H s→RelS X.K F σ H ds M→wn ds M Qd Xd→LkX X.K F H M σ Xd W→
  wpAny (model X.prog X.w) X.A (eval e X.env) (fun u s2=>∃H1 s1 M1 ys fin,Inv X pins σ H1 s1∧Ext H (uni M F) H1 (uni M1 F)∧Rm X.K H1 M1 F∧Qd (ys,fin) M1∧NsX X.K fin∧GnMadeP X.prog X.w X.K X.mg X.base k X.stack ys fin s1 H1 (uni M1 F) u s2) X.xe s
def wGen (wa:WA) (gsp:SpGD):WN:=fun ds M Q Xc=>wa ds M (fun xs M1=>∃ys fin,gsp xs ys fin∧Q (ys,fin) M1) Xc
def wGenM (C:Addr) (ns:List Str) (gsp:SpGD) (we:WE) (wa:WA):WN:=fun ds M Q Xc=>we ds M (fun d M1=>insK C ns M1 d fun _=>wa ds M1 (fun xs M2=>∃ys fin,gsp (d :: xs) ys fin∧Q (ys,fin) M2) Xc) Xc
def wGenMK (C:Addr) (ns:List Str) (gsp:SpGD) (mm:Nat) (ord:List Nat) (we:WE) (wk:WA):WN:=fun ds M Q Xc=>we ds M (fun d M1=>insK C ns M1 d fun _=>wk ds M1 (fun xs M2=>∃ys fin,gsp (gOrd 1 mm ord [d] xs) ys fin∧Q (ys,fin) M2) Xc) Xc
section
variable {X : Cx} {W : WX} {x m : Str} {p pos apos : Pos} {o e : Expr} {es : List Expr} {kws : List Keyword} {we : WE} {wa wk : WA} {k j mm : Nat} {ord : List Nat} {f g C : Addr} {gsp : SpGD} {ks ns : List Str}
theorem jn_meth {pl:Sem Bool} (hj:JE X W o we) (c:Cls X.K C) (hm:Meth X.K C m g) (hn:ns.findIdx? (· == m)=none) (F:GnF X.prog X.w X.K X.mg X.base k g gsp) (hr:Room j X.A) (hkj:k≤j) (ha:JA X W (e :: es) wa)
  (hst:starEach (e :: es) X.env=(false,eval e X.env) :: starEach es X.env:=by rfl) (hpl:(backTo pos (starEach es X.env)).any (·.1)=false:=by rfl)
  (ht:eval (.Call (.Attribute o m apos) (e :: es) [] pos) X.env=(do
   let ov ← eval o X.env
   standAt apos.atName
   let (f,first) ← holding [ov] (getMethod ov m pl)
   callWith pos f first (backTo pos (starEach (e :: es) X.env)) (backToKw pos (keywordEach [] X.env))):=by rfl):
  JN X W k (.Call (.Attribute o m apos) (e :: es) [] pos) (wGenM C ns gsp we wa):=by
 obtain ⟨fd,ps,hbd,co⟩:=F.ex
 refine ⟨fun pins s σ H ds M F0 Qd Xd I hs hw l=>?_⟩
 refine PySem.W.methodCall_KW (pl:=pl) (thn (hj.run pins s σ H (fun v H1=>∃d M1,Ext H (uni M F0) H1 (uni M1 F0)∧Rm X.K H1 M1 F0∧DV X.K H1 (uni M1 F0) d v∧insK C ns M1 d fun _=>wa ds M1 (fun xs M2=>∃ys fin,gsp (d :: xs) ys fin∧Qd (ys,fin) M2) Xd) I
  ⟨ds,M,F0,_,Xd,hs,rfl,hw,fun v H1 d M1 e1 r1 dv q=>⟨d,M1,e1,r1,dv,q⟩,l⟩) ?_) ht
 rintro u s1 ⟨v,H1,I1,rx,d,M1,e1,r1,dv1,q⟩
 obtain ⟨a,dx,fs,xs0,rfl,q1,q2,q3,q4⟩:=insK_of r1 q dv1
 cases (show u=Value.ref a from rx)
 refine getmeth_ok I1 q1 c hm (look_no q2 hn) (PySem.W.callWith_K (first:= [.ref a]) (h₀:=X.base) I.ok.mod.kin hm.kp (thn (ha.run pos pins s1 σ H1 (fun vs H2=>∃xs M2,Ext H1 (uni M1 F0) H2 (uni M2 F0)∧Rm X.K H2 M2 F0∧DVs X.K H2 (uni M2 F0) xs vs∧∃ys fin,gsp (d :: xs) ys fin∧Qd (ys,fin) M2) I1
  ⟨ds,M1,F0,_,Xd,hs.ext e1 r1,rfl,q4,fun vs H2 xs M2 e2 r2 dv2 z=>⟨xs,M2,e2,r2,dv2,z⟩,l.ext e1⟩) ?_) hst hpl)
 rintro us s2 ⟨vs,H2,I2,r,xs,M2,e2,r2,dv2,ys,fin,gs,z⟩
 refine ⟨I2.kIn,?_⟩
 have dvx:DVs X.K H2 (uni M2 F0) (d :: xs) (V.ref a :: vs):=⟨_,_,rfl,DV.ext r1.rel e2 d _ dv1,dv2⟩
 have rr:Vals (V.ref a :: vs) (Value.ref a :: us):= .cons rfl r
 have hl:(Value.ref a :: us).length=ps.length:=by rw [← rr.length,dvx.len];exact co.len _ _ _ gs
 have hbt:=hbd s2 (Value.ref a :: us) I2.kIn (by rw [List.append_nil];exact hl)
 rw [List.append_nil] at hbt
 refine wpAny_call (codeAny_mono (co.run X.A X.stack s2 H2 ⟨Value.ref a :: us, []⟩ (Value.ref a :: us) (V.ref a :: vs) (d :: xs) ys fin (uni M2 F0) (hr.mono hkj) I2.env0 hbt rr r2.rel dvx gs) fun r' s' hq=>?_)
 obtain ⟨u,rfl,hq⟩:=hq
 exact ⟨H2,s2,M2,ys,fin,I2,e1.trans e2,r2,z,F.ns _ _ _ gs,hq⟩
theorem jn_methK {pl:Sem Bool} (hj:JE X W o we) (c:Cls X.K C) (hm:Meth X.K C m g) (hn:ns.findIdx? (· == m)=none) (F:GnFK X.prog X.w X.K X.mg X.base k g gsp ks 1 mm ord) (hr:Room j X.A) (hkj:k≤j) (hkw:JK X W kws wk)
  (hall:(backToKw pos (keywordEach kws X.env)).all (·.1.isSome)=true:=by rfl) (hks:(backToKw pos (keywordEach kws X.env)).filterMap (·.1)=ks:=by rfl)
  (hpl:((backTo pos (starEach [] X.env)).any (·.1) || (backToKw pos (keywordEach kws X.env)).any (·.1.isNone))=false:=by rfl)
  (ht:eval (.Call (.Attribute o m apos) [] kws pos) X.env=(do
   let ov ← eval o X.env
   standAt apos.atName
   let (f,first) ← holding [ov] (getMethod ov m pl)
   callWith pos f first (backTo pos (starEach [] X.env)) (backToKw pos (keywordEach kws X.env))):=by rfl):
  JN X W k (.Call (.Attribute o m apos) [] kws pos) (wGenMK C ns gsp mm ord we wk):=by
 obtain ⟨fd,ps,hbd,co⟩:=F.ex
 refine ⟨fun pins s σ H ds M F0 Qd Xd I hs hw l=>?_⟩
 refine PySem.W.methodCall_KW (pl:=pl) (thn (hj.run pins s σ H (fun v H1=>∃d M1,Ext H (uni M F0) H1 (uni M1 F0)∧Rm X.K H1 M1 F0∧DV X.K H1 (uni M1 F0) d v∧insK C ns M1 d fun _=>wk ds M1 (fun xs M2=>∃ys fin,gsp (gOrd 1 mm ord [d] xs) ys fin∧Qd (ys,fin) M2) Xd) I
  ⟨ds,M,F0,_,Xd,hs,rfl,hw,fun v H1 d M1 e1 r1 dv q=>⟨d,M1,e1,r1,dv,q⟩,l⟩) ?_) ht
 rintro u s1 ⟨v,H1,I1,rx,d,M1,e1,r1,dv1,q⟩
 obtain ⟨a,dx,fs,xs0,rfl,q1,q2,q3,q4⟩:=insK_of r1 q dv1
 cases (show u=Value.ref a from rx)
 refine getmeth_ok I1 q1 c hm (look_no q2 hn) (PySem.W.callWith_KW0 (first:= [.ref a]) (h₀:=X.base) I.ok.mod.kin hm.kp hall (thn (hkw.run pos pins s1 σ H1 (fun vs H2=>∃xs M2,Ext H1 (uni M1 F0) H2 (uni M2 F0)∧Rm X.K H2 M2 F0∧DVs X.K H2 (uni M2 F0) xs vs∧∃ys fin,gsp (gOrd 1 mm ord [d] xs) ys fin∧Qd (ys,fin) M2) I1
  ⟨ds,M1,F0,_,Xd,hs.ext e1 r1,rfl,q4,fun vs H2 xs M2 e2 r2 dv2 z=>⟨xs,M2,e2,r2,dv2,z⟩,l.ext e1⟩) ?_) hpl)
 rintro us s2 ⟨vs,H2,I2,r,xs,M2,e2,r2,dv2,ys,fin,gs,z⟩
 refine ⟨I2.kIn,?_⟩
 rw [hks]
 have dvx:DVs X.K H2 (uni M2 F0) (gOrd 1 mm ord [d] xs) (gOrd 1 mm ord [V.ref a] vs):=gOrd_dvs ⟨_,_,rfl,DV.ext r1.rel e2 d _ dv1,rfl⟩ dv2
 have rr:Vals (gOrd 1 mm ord [V.ref a] vs) (gOrd 1 mm ord [Value.ref a] us):=gOrd_vals (.cons rfl .nil) r
 have hl:(gOrd 1 mm ord [Value.ref a] us).length=ps.length:=by rw [← rr.length,dvx.len];exact co.len _ _ _ gs
 have hbt:=hbd.to s2 [Value.ref a] us I2.kIn hl
 refine wpAny_call (codeAny_mono (co.run X.A X.stack s2 H2 ⟨[Value.ref a],ks.zip us⟩ (gOrd 1 mm ord [Value.ref a] us) (gOrd 1 mm ord [V.ref a] vs) (gOrd 1 mm ord [d] xs) ys fin (uni M2 F0) (hr.mono hkj) I2.env0 hbt rr r2.rel dvx gs) fun r' s' hq=>?_)
 obtain ⟨u,rfl,hq⟩:=hq
 exact ⟨H2,s2,M2,ys,fin,I2,e1.trans e2,r2,z,F.ns _ _ _ gs,hq⟩
end
end DL
set_option maxHeartbeats 4000000
namespace DL
open PySem PySem.Spec PyProof.Rows L2 GenW RZ
def wForN (wn:WN) (g:GD) (wb:WS):WS:=fun E ds M=>wn ds M (fun q M1=>forG g wb q.2 E q.1 ds M1) (E.xc ds)
section
variable {X : Cx} {W : WX} {pos : Pos} {it : Expr} {wn : WN} {k j : Nat} {tg : Expr} {body : List Stmt} {g : GD} {wb : WS} {is : List Nat}
theorem js_forN (hp:PassesOwn (model X.prog X.w) X.A X.env X.xe) (hc:X.calm=true) (tk:L2.Takes X W) (hu:XeUp X) (hr:Room j X.A) (hkj:k + 1≤j) (hn:JN X W k it wn) (hg:JG X tg is g) (hb:JSs X W body wb)
  (hs:∀v,foldedSetIterable it X.env v=pure v:=by intro _;rfl):JS X W (.For tg it body [] pos) (wForN wn g wb):=by
 refine ⟨fun pins s σ H D' I h=>?_⟩
 obtain ⟨ds,M,F0,E,hs0,_,hw,l⟩:=h
 refine wpAny_For (wpAny_mono (hn.run pins s σ H ds M F0 _ (E.xc ds) I hs0 hw fun cls dc H' x M' e r dv q=>l.ex cls dc σ H' x ds M' e (hs0.ext e r) dv q) (fun u s2 h2=>?_) fun _ _ z=>z) hs
 obtain ⟨H1,s1,M1,ys,fin,I1,e1,r1,q1,nsx,L,a,gi,go,c,Gv,rfl,G⟩:=h2
 have q1:forG g wb fin E ys ds M1:=q1
 obtain ⟨pv0,gv0⟩:=G.first
 have PR:=G.prom
 have I2:Inv X pins σ H1 s2:=I1.call' (ch:= []) G.os (Un.kept G.keep) (I1.hok.kept G.keep) G.bare fun b z=>by cases z
 have lo:Low X pins L:=low_of I1 G.low
 have hfr:X.A.in1.frames=some X.stack:=I1.ok.frames
 refine wpAny_pyIter_gen (G.gen _ G.at_) ?_
 refine codeAny_forLoop_any (fun n s'=>∃i σ' H' ds' M' pv gs τ0,n + i=ys.length∧Inv X pins σ' H' s'∧RelS X.K F0 σ' H' ds' M'∧Ext H1 (uni M1 F0) H' (uni M' F0)∧forG g wb fin E (ys.drop i) ds' M'∧s'.gens[gi]?=some gs∧
  ∀τ,(i=0∨τ=τ0)→Gv τ i pv s' H' (uni M' F0)∧
  gs.Goes (model X.prog X.w) X.A.in1 (RVw (ys.length + 2) (VwG X.prog X.w X.K X.mg X.base X.stack L (Gv τ)) (EndG X.prog X.w X.K X.stack L a go ys fin)) (YVw (ys.length + 2) (VwG X.prog X.w X.K X.mg X.base X.stack L (Gv τ)) (ItemP X.prog X.w X.K X.mg X.base X.stack L ys Gv τ)) (n + 2) (.send .none) (s'.setGen gi .running))
  ?_ ys.length ⟨0,σ,H1,ds,M1,pv0, .fresh c,0,Nat.add_zero _,I2,hs0.ext e1 r1,Ext.rfl',by rw [List.drop_zero];exact q1,G.fresh,fun τ _=>⟨gv0 τ,rfl,?_⟩⟩
 ·rintro n s3 ⟨i,σ3,H3,ds3,M3,pv,gs,τ0,hn,I3,R3,e3,q3,hgs3,fam⟩
  have gvt:=(fam τ0 (.inr rfl)).1
  have gnd3:Gnd X.prog X.w X.K X.mg X.base X.stack L (s3.setGen gi .running) H3 (uni M3 F0):=(gnd_of I3 lo (PR.lt _ _ _ _ _ _ gvt) R3.1.rel).waken
  have gv3':∀τ,(i=0∨τ=τ0)→VwG X.prog X.w X.K X.mg X.base X.stack L (Gv τ) i (s3.setGen gi .running) (H3,uni M3 F0):=fun τ ht=>⟨gnd3,pv,PR.same _ _ _ _ _ _ _ (fam τ ht).1 rfl⟩
  have I3':Inv X pins σ3 H3 (s3.setGen gi .running):=Inv.gens I3 (allBare_setGen I3.bare rfl)
  have hgl3:gi < s3.gens.size:=(Array.getElem?_eq_some_iff.mp hgs3).1
  refine wpAny_passesOwn hp (wpAny_gsz (n:=gi + 1) hgl3 (next_fam (ι:={τ:Addr // i=0∨τ=τ0}) ⟨τ0, .inr rfl⟩ (I3.ok.hd hc) I3.nolimit hr.depth (G.gen _ (PR.gen _ _ _ _ _ _ gvt)) hgs3 (fun τ=>(fam τ.1 τ.2).2) (fun v s₁ gs' hbare hsusp hyv hsz=>?_) fun r s₁ hrv=>?_))
  ·obtain ⟨τ1,ht1,ht2⟩:∃τ1:Addr,(i=0∨τ1=τ0)∧(i=0→0 < s₁.heap.objs.size→s₁.heap.objs.size=τ1 + 1):=by
    by_cases hi:i=0
    ·exact ⟨s₁.heap.objs.size - 1, .inl hi,fun _ h=>(Nat.succ_pred_eq_of_pos h).symm⟩
    ·exact ⟨τ0, .inr rfl,fun h=>absurd h hi⟩
   obtain ⟨H4,x4,d,af,hd,rv,dv,hpos,hrest⟩:=hyv ⟨τ1,ht1⟩ i (H3,uni M3 F0) (by omega) (gv3' τ1 ht1)
   obtain ⟨pv',gv4,nxt⟩:=hrest fun hi=>ht2 hi hpos
   have hgs4:(s₁.setGen gi gs').gens[gi]?=some gs':=setGen_at (by
    have z:(s₁.setGen gi gs').gens.size=s₁.gens.size:=setGen_size _ _ _
    have hsz':gi + 1≤(s₁.setGen gi gs').gens.size:=hsz
    omega)
   have I4:Inv X pins σ3 H4 (s₁.setGen gi gs'):=inv_back I3' lo af (fun b o e=>e) rfl (allBare_setGen af.bare hbare)
   have I4':Inv X (pins ++ pinsAt pv' s₁.heap) σ3 H4 (s₁.setGen gi gs'):=I4.pins_of fun p hp=>(List.mem_append.mp hp).elim (fun z=>I4.pin p (List.mem_append_right _ z)) fun z=>by
    obtain ⟨hb1,hb2⟩:=of_pinsAt z
    obtain ⟨o1,⟨o,o2,o3⟩,o4,o5⟩:=PR.obj _ _ _ _ _ _ gv4 p.1 hb1
    rw [hb2] at o2
    cases o2
    refine ⟨hb2,o4,fun zz=>absurd lo.loc (Nat.not_lt.mpr (zz ▸ o1)),fun zz=>o5 ?_,o3⟩
    rcases I4.ok.stk with q | ⟨q,q'⟩
    ·rw [q];exact zz
    ·rw [q]
     unfold frs
     rw [List.filterMap_cons,q']
     exact List.mem_cons_of_mem _ zz
   have hil:i < ys.length:=(List.getElem?_eq_some_iff.mp hd).1
   obtain ⟨m,rfl⟩:∃m,n=m + 1:=⟨n - 1,by omega⟩
   rw [List.drop_eq_getElem_cons hil,(List.getElem?_eq_some_iff.mp hd).2] at q3
   obtain ⟨og,nm,qn,ho,hcl,hdt,_⟩:=G.gen _ (PR.gen _ _ _ _ _ _ gv4)
   show wpAny _ _ (letOwnedTupleGo tg (.ref a) v) _ _ _
   refine go_of (s:=s₁.setGen gi gs') ho hcl hdt (by decide) ?_
   refine wpAny_passesOwn hp (wpAny_mono (wpAny_sleep (hg.run (pins ++ pinsAt pv' s₁.heap) (dnS (s₁.setGen gi gs')) σ3 H4 x4 v (fun σ6 H6=>H6=H4∧∃ds6,Sl X.K H4 (uni M3 F0) σ6 ds6∧wb {E with nx:=fun ds3 M3=>forG g wb fin E (ys.drop (i + 1)) ds3 M3,ct:=fun ds3 M3=>forG g wb fin E (ys.drop (i + 1)) ds3 M3,bk:=E.nx} ds6 M3) (Inv.dn I4') rv
    ⟨d,ds3,_,_,af.rel,Sl.ext R3.1.rel R3.2 af.ext,dv,q3,fun σ6 ds6 S6 _ q=>⟨rfl,ds6,S6,q⟩⟩)) (fun _ s6 ⟨s60,k6,σ6,H6,I60,e6,ds6,S6,q6⟩=>?_) fun ee s6 ⟨s60,k6,hx⟩=>xe_up hu k6 I4.bare hx)
   subst e6
   have I6:=Inv.up I60 k6 I4.bare
   have x34:=e1.trans (e3.trans af.ext)
   refine wpAny_passesOwn hp (wpAny_mono (wpAny_sleep (hb.run (pins ++ pinsAt pv' s₁.heap) (dnS s6) σ6 H6 {D' with nx:=fun σ7 H7=>∃ds7 M7,RelS X.K F0 σ7 H7 ds7 M7∧Ext H6 (uni M3 F0) H7 (uni M7 F0)∧forG g wb fin E (ys.drop (i + 1)) ds7 M7,ct:=fun σ7 H7=>∃ds7 M7,RelS X.K F0 σ7 H7 ds7 M7∧Ext H6 (uni M3 F0) H7 (uni M7 F0)∧forG g wb fin E (ys.drop (i + 1)) ds7 M7,bk:=D'.nx} (Inv.dn I6)
    ⟨ds6,M3,F0,_,⟨⟨af.rel,R3.1.dj⟩,S6⟩,rfl,q6,⟨fun σ7 H7 ds7 M7 e7 r7 q7=>⟨ds7,M7,r7,e7,q7⟩,fun v7 H7 d7 M7 e7=>l.rt v7 H7 d7 M7 (x34.trans e7),fun σ7 H7 ds7 M7 e7=>l.nx σ7 H7 ds7 M7 (x34.trans e7),fun σ7 H7 ds7 M7 e7 r7 q7=>⟨ds7,M7,r7,e7,q7⟩,fun cls dc σ7 H7 x7 ds7 M7 e7=>l.ex cls dc σ7 H7 x7 ds7 M7 (x34.trans e7)⟩⟩))
    (fun fl s7 ⟨s70,k7,h7⟩=>?_) fun ee s7 ⟨s70,k7,hx⟩=>xe_up hu k7 I6.bare hx)
   have again:∀{σ7:L2.St} {H7:Hp} {ds7:SD} {M7:Mem},Inv X (pins ++ pinsAt pv' s₁.heap) σ7 H7 s7→RelS X.K F0 σ7 H7 ds7 M7→Ext H6 (uni M3 F0) H7 (uni M7 F0)→forG g wb fin E (ys.drop (i + 1)) ds7 M7→∃m',m' < m + 1∧∃i σ' H' ds' M' pv gs τ0,m' + i=ys.length∧Inv X pins σ' H' s7∧RelS X.K F0 σ' H' ds' M'∧Ext H1 (uni M1 F0) H' (uni M' F0)∧forG g wb fin E (ys.drop i) ds' M'∧s7.gens[gi]?=some gs∧
     ∀τ,(i=0∨τ=τ0)→Gv τ i pv s7 H' (uni M' F0)∧
     gs.Goes (model X.prog X.w) X.A.in1 (RVw (ys.length + 2) (VwG X.prog X.w X.K X.mg X.base X.stack L (Gv τ)) (EndG X.prog X.w X.K X.stack L a go ys fin)) (YVw (ys.length + 2) (VwG X.prog X.w X.K X.mg X.base X.stack L (Gv τ)) (ItemP X.prog X.w X.K X.mg X.base X.stack L ys Gv τ)) (m' + 2) (.send .none) (s7.setGen gi .running):=fun {σ7 H7 ds7 M7} I7 r7 e7 q7=>by
    have gv7:Gv τ1 (i + 1) pv' s7 H7 (uni M7 F0):=by
     refine PR.keep _ _ _ _ _ _ _ _ _ gv4 (fun b hb o eo=>(I7.pin (b,o) (List.mem_append_right _ (List.mem_append_right _ (mem_pinsAt hb eo)))).1) (fun b hb=>?_) fun d v=>DV.ext af.rel e7 d v
     obtain ⟨_,⟨o,eo,_⟩,_⟩:=PR.obj _ _ _ _ _ _ gv4 b hb
     exact (I7.pin (b,o) (List.mem_append_right _ (List.mem_append_right _ (mem_pinsAt hb eo)))).2.1
    have I7':=I7.unpinned
    refine ⟨m,Nat.lt_succ_self m,i + 1,σ7,H7,ds7,M7,pv',gs',τ1,by omega,I7',r7,e3.trans (af.ext.trans e7),q7,k7.slp gi gs' (k6.slp gi gs' hgs4 hsusp) hsusp,fun τ hτ=>?_⟩
    obtain rfl:τ=τ1:=hτ.elim (fun z=>absurd z (Nat.succ_ne_zero _)) id
    exact ⟨gv7,nxt _ (H7,uni M7 F0) ⟨(gnd_of I7' lo (PR.lt _ _ _ _ _ _ gv7) r7.1.rel).waken,pv',PR.same _ _ _ _ _ _ _ gv7 rfl⟩⟩
   cases fl with
   | next=>obtain ⟨σ7,H7,I70,ds7,M7,r7,e7,q7⟩:=h7;exact again (Inv.up I70 k7 I6.bare) r7 e7 q7
   | cont=>obtain ⟨σ7,H7,I70,ds7,M7,r7,e7,q7⟩:=h7;exact again (Inv.up I70 k7 I6.bare) r7 e7 q7
   | brk=>obtain ⟨σ7,H7,I70,q7⟩:=h7;exact ⟨σ7,H7,(Inv.up I70 k7 I6.bare).unpinned,q7⟩
   | ret v7=>obtain ⟨x7,σ7,H7,I70,r7,q7⟩:=h7;exact ⟨x7,σ7,H7,(Inv.up I70 k7 I6.bare).unpinned,r7,q7⟩
  ·rcases hrv ⟨τ0, .inr rfl⟩ i (H3,uni M3 F0) (by omega) (gv3' τ0 (.inr rfl)) with ⟨rfl,hf,hie,H4,af⟩ | ⟨ee,x0,rfl,hf,hie,hago,cx⟩
   ·refine .inl ⟨rfl,fun h' hk hsz=>?_⟩
    subst hf
    rw [hie,List.drop_length] at q3
    refine wpAny_execs_nil ⟨σ3,H4,inv_back I3' lo af hk rfl (allBare_setGen (s:=s₁) af.bare rfl),?_⟩
    exact l.nx σ3 H4 ds3 M3 (e1.trans (e3.trans af.ext)) (R3.ext af.ext ⟨af.rel,R3.1.dj⟩) q3
   ·subst hf
    rw [hie,List.drop_length] at q3
    obtain ⟨C,ns,es',ex,hsub⟩:=nsx _ rfl
    refine .inr ⟨ee,rfl,G.gen _ hago,notStop_of (K:=X.K) (fun cls dc H' hh=>?_) (kin_back I3' lo cx) cx,fun hsz=>?_⟩
    ·obtain ⟨_,_,hv⟩:=hh
     rw [ex] at hv
     rw [hv.1]
     exact hsub
    ·refine xe_back tk I3' lo (fun cls dc H' hh=>?_) (allBare_setGen (s:=s₁) ?_ rfl) cx
     ·obtain ⟨h1,h2,h3⟩:=hh
      exact l.ex cls dc σ3 H' x0 ds3 M3 (e1.trans (e3.trans h1)) (R3.ext h1 ⟨h2,R3.1.dj⟩) h3 q3
     ·obtain ⟨_,_,_,_,_,_,_,_,_,_,_,ag,_⟩:=cx
      exact ag
 ·exact PR.wake τ X.A.in1 ((hr.mono hkj).in1) hfr _ (H1,uni M1 F0) ⟨(gnd_of I2 lo (PR.lt _ _ _ _ _ _ (gv0 τ)) r1.rel).waken,pv0,PR.same _ _ _ _ _ _ _ (gv0 τ) rfl⟩
end
end DL
set_option maxHeartbeats 4000000
namespace DL
open PySem PySem.Spec PyProof.Rows L2 GenW RZ
def Clean (H H5:Hp):Prop:=∀a o,H a=some o→(∀o' x,o≠ .frz o' (.own x))→H5 a=some o
section
variable {K : PySem.W.Frag} {H H5 : Hp} {M : Mem}
theorem SqT.off (c:Clean H H5) {a:Addr} {xs:List V} (h:SqT K H a xs):SqT K H5 a xs:=by
 rcases h with (h | ⟨o,h⟩) | h
 ·exact .inl (.inl (c _ _ h fun _ _ z=>by cases z))
 ·exact .inl (.inr ⟨o,c _ _ h fun _ _ z=>by cases z⟩)
 ·exact .inr h
mutual
theorem DV.off (c:Clean H H5):∀(d:D) (v:V),DV K H M d v→DV K H5 M d v
 | .non,v,h=>h
 | .bl b,v,h=>h
 | .int i,v,h=>h
 | .str x,v,h=>h
 | .ty n,v,h=>h
 | .ref a,v,h=>h
 | .tup ds,v,h=>by
  obtain ⟨a,xs,h1,h2,h3⟩:=h
  exact ⟨a,xs,h1,SqT.off c h2,DVs.off c ds xs h3⟩
 | .lst ds,v,h=>by
  obtain ⟨a,xs,h1,h2,h3,h4⟩:=h
  exact ⟨a,xs,h1,c _ _ h2 (fun _ _ z=>by cases z),h3,DVs.off c ds xs h4⟩
 | .dct ks ds,v,h=>by
  obtain ⟨a,kvs,h1,h2,h3,h4,h5⟩:=h
  refine ⟨a,kvs,h1,?_,h3,h4,DVs.off c ds _ h5⟩
  rcases h2 with h2 | ⟨o,h2⟩
  ·exact .inl (c _ _ h2 fun _ _ z=>by cases z)
  ·exact .inr ⟨o,c _ _ h2 fun _ _ z=>by cases z⟩
 | .dtt ks ds,v,h=>by
  obtain ⟨a,kvs,h1,h2,h3,h4,h5⟩:=h
  exact ⟨a,kvs,h1,c _ _ h2 (fun _ _ z=>by cases z),h3,h4,DVs.off c ds _ h5⟩
 | .ins C ns ds,v,h=>by
  obtain ⟨a,dx,fs,h1,h2,h3,h4,h5⟩:=h
  exact ⟨a,dx,fs,h1,c _ _ h2 (fun _ _ z=>by cases z),h3,h4,DVs.off c ds _ h5⟩
 | .scr ns,v,h=>by
  obtain ⟨a,h1,h2⟩:=h
  refine ⟨a,h1,?_⟩
  rcases h2 with ⟨o,h2⟩ | h2
  ·exact .inl ⟨o,c _ _ h2 fun _ _ z=>by cases z⟩
  ·exact .inr h2
 | .exc a dd C ns ds,v,h=>by
  obtain ⟨h1,fs,h2,h3,h4,h5⟩:=h
  exact ⟨h1,fs,c _ _ h2 (fun _ _ z=>by cases z),h3,h4,DVs.off c ds _ h5⟩
 | .tpn ds,v,h=>by
  obtain ⟨a,xs,o,h1,h2,h3,h4⟩:=h
  exact ⟨a,xs,o,h1,c _ _ h2 (fun _ _ z=>by cases z),h3,DVs.off c ds xs h4⟩
theorem DVs.off (c:Clean H H5):∀(ds:List D) (xs:List V),DVs K H M ds xs→DVs K H5 M ds xs
 | [],xs,h=>h
 | d :: ds,xs,h=>by
  obtain ⟨y,ys,h1,h2,h3⟩:=h
  exact ⟨y,ys,h1,DV.off c d y h2,DVs.off c ds ys h3⟩
end
theorem RelM.off (c:Clean H H5) (R:RelM K H M):RelM K H5 M:=fun a o e=>by
 have h:=R a o e
 cases o with
 | lst ds=>obtain ⟨xs,h1,h2⟩:=h;exact ⟨xs,c _ _ h1 (fun _ _ z=>by cases z),DVs.off c _ _ h2⟩
 | dct ks ds=>obtain ⟨kvs,h1,h2,h3⟩:=h;exact ⟨kvs,c _ _ h1 (fun _ _ z=>by cases z),h2,DVs.off c _ _ h3⟩
 | dtt ks ds=>obtain ⟨kvs,h1,h2,h3⟩:=h;exact ⟨kvs,c _ _ h1 (fun _ _ z=>by cases z),h2,DVs.off c _ _ h3⟩
 | ins C ns ds=>obtain ⟨dx,fs,h1,h2,h3⟩:=h;exact ⟨dx,fs,c _ _ h1 (fun _ _ z=>by cases z),h2,DVs.off c _ _ h3⟩
 | tab q=>
  obtain ⟨ps,h1,h2,h3⟩:=h
  refine ⟨ps,c _ _ h1 (fun _ _ z=>by cases z),h2,fun pos cv e=>?_⟩
  obtain ⟨c',q1,q2,q3⟩:=h3 pos cv e
  exact ⟨c',q1,c _ _ q2 (fun _ _ z=>by unfold LamX.CodeO at z;cases z),q3⟩
theorem ExV.off (c:Clean H H5) {cls:Value} {dc:Option Addr} {x:Exn} (h:ExV K H M cls dc x):ExV K H5 M cls dc x:=by
 cases x with
 | own C ns ds=>
  obtain ⟨h1,dd,fs,h2,h3,h4,h5,h6⟩:=h
  exact ⟨h1,dd,fs,h2,c _ _ h3 (fun _ _ z=>by cases z),h4,h5,DVs.off c _ _ h6⟩
 | bi n=>exact h
end
def onH (H:Hp) (C D:Addr) (oC oD:Obj):Hp:=fun b=>if b=C then some (.frz oC (.own C)) else if b=D then some (.frz oD (.own D)) else H b
def offH (H:Hp) (C D:Addr):Hp:=fun b=>if b=C∨b=D then none else H b
section
variable {H H4 : Hp} {C D b : Addr} {oC oD : Obj} {o : HO}
theorem onH_C:onH H C D oC oD C=some (.frz oC (.own C)):=by unfold onH;rw [if_pos rfl]
theorem onH_D (h:C≠D):onH H C D oC oD D=some (.frz oD (.own D)):=by unfold onH;rw [if_neg (Ne.symm h),if_pos rfl]
theorem onH_ne (h1:b≠C) (h2:b≠D):onH H C D oC oD b=H b:=by unfold onH;rw [if_neg h1,if_neg h2]
theorem offH_C:offH H C D C=none:=by unfold offH;rw [if_pos (.inl rfl)]
theorem offH_D:offH H C D D=none:=by unfold offH;rw [if_pos (.inr rfl)]
theorem offH_ne (h1:b≠C) (h2:b≠D):offH H C D b=H b:=by unfold offH;rw [if_neg fun z=>z.elim h1 h2]
theorem offH_none (h:H b=none):offH H C D b=none:=by
 unfold offH
 split
 ·rfl
 ·exact h
theorem onH_clean (hC:H C=none) (hD:H D=none):Clean H (onH H C D oC oD):=fun a o e _=>by
 rw [onH_ne (fun z=>by rw [z,hC] at e;cases e) (fun z=>by rw [z,hD] at e;cases e)]
 exact e
theorem onH_some (hC:H C=none) (hD:H D=none) (e:H b=some o):onH H C D oC oD b=some o:=by
 rw [onH_ne (fun z=>by rw [z,hC] at e;cases e) (fun z=>by rw [z,hD] at e;cases e)]
 exact e
theorem offH_clean (hC:H4 C=some (.frz oC (.own C))) (hD:H4 D=some (.frz oD (.own D))):Clean H4 (offH H4 C D):=fun a o e hn=>by
 rw [offH_ne (fun z=>by rw [z,hC] at e;cases e;exact hn _ _ rfl) (fun z=>by rw [z,hD] at e;cases e;exact hn _ _ rfl)]
 exact e
theorem ext_off (hC:H C=none) (hD:H D=none) {N N':Mem} (x:Ext (onH H C D oC oD) N H4 N'):Ext H N (offH H4 C D) N':=fun a o e m n=>by
 have nC:a≠C:=fun z=>by rw [z,hC] at e;cases e
 have nD:a≠D:=fun z=>by rw [z,hD] at e;cases e
 obtain ⟨⟨o',h1,h2⟩,h3⟩:=x a o (onH_some hC hD e) m n
 exact ⟨⟨o',by rw [offH_ne nC nD];exact h1,h2⟩,h3⟩
theorem hok_on {P:Program} {w:World} {h:Heap} (k:HOk P w H h) (hC:H C=none) (hD:H D=none) (eC:h.get? C=some oC) (eD:h.get? D=some oD):HOk P w (onH H C D oC oD) h:=fun b u q=>by
 by_cases h1:b=C
 ·subst h1
  rw [onH_C] at q
  cases q
  exact ⟨eC,_,eC⟩
 ·by_cases h2:b=D
  ·subst h2
   rw [onH_D (Ne.symm h1)] at q
   cases q
   exact ⟨eD,_,eD⟩
  ·rw [onH_ne h1 h2] at q
   exact (k b u q).stay (fun _ _ _ y=>y) (fun _ y=>onH_some hC hD y) fun _ _ y=>onH_some hC hD y
theorem hok_off {P:Program} {w:World} {h h':Heap} (k:HOk P w H4 h) (hC:H4 C=some (.frz oC (.own C))) (hD:H4 D=some (.frz oD (.own D))) (hk:∀b o,b≠C→b≠D→h.get? b=some o→h'.get? b=some o):HOk P w (offH H4 C D) h':=fun b u q=>by
 by_cases h1:b=C
 ·subst h1;rw [offH_C] at q;cases q
 ·by_cases h2:b=D
  ·subst h2;rw [offH_D] at q;cases q
  ·rw [offH_ne h1 h2] at q
   have nC:∀{c:Addr} {x:HO},(∀o' y,x≠ .frz o' (.own y))→H4 c=some x→c≠C∧c≠D:=fun {c x} hn y=>⟨fun z=>by rw [z,hC] at y;cases y;exact hn _ _ rfl,fun z=>by rw [z,hD] at y;cases y;exact hn _ _ rfl⟩
   refine (k b u q).stay (fun c v hc y=>?_) (fun c y=>?_) fun c xs y=>?_
   ·rcases hc with hc | hc
    ·subst hc;exact hk _ _ h1 h2 y
    ·obtain ⟨z1,z2⟩:=nC (fun _ _ z=>by cases z) hc
     exact hk _ _ z1 z2 y
   ·obtain ⟨z1,z2⟩:=nC (fun _ _ z=>by cases z) y
    rw [offH_ne z1 z2];exact y
   ·obtain ⟨z1,z2⟩:=nC (fun _ _ z=>by cases z) y
    rw [offH_ne z1 z2];exact y
end
section
variable {X : Cx} {pins : List (Addr × Obj)} {σ : L2.St} {H H4 : Hp} {N : Mem} {s s1 : Shared} {L : Nat} {W : WX} {C D : Addr} {oC oD : Obj}
theorem gnd_on (I:Inv X pins σ H s) (lo:Low X pins L) (hl:L < s.heap.objs.size) (R:RelM X.K H N) (hCL:L≤C) (hDL:L≤D) (hC:H C=none) (hD:H D=none) (eC:s.heap.get? C=some oC) (eD:s.heap.get? D=some oD):Gnd X.prog X.w X.K X.mg X.base X.stack L s (onH H C D oC oD) N:=
 have g:=gnd_of I lo hl R
 have nb:∀b:Addr,b < L→b≠C∧b≠D:=fun b hb=>⟨fun z=>absurd hb (Nat.not_lt.mpr (z ▸ hCL)),fun z=>absurd hb (Nat.not_lt.mpr (z ▸ hDL))⟩
 have nn:∀b:Addr,b < L→H b=none→onH H C D oC oD b=none:=fun b hb n=>by
  rw [onH_ne (nb b hb).1 (nb b hb).2];exact n
 ⟨g.mod,fun b o e=>⟨(g.bs b o e).1,nn b (Nat.lt_of_lt_of_le (Heap.lt_size e) g.bsz) (g.bs b o e).2⟩,g.bsz,g.funs,fun b hb=>nn b (g.frl b hb) (g.frf b hb),g.frl,hok_on g.hok hC hD eC eD,g.bare,RelM.off (onH_clean hC hD) R,hl⟩
theorem inv_backF {s2:Shared} (I:Inv X pins σ H s) (lo:Low X pins L) (hCD:C≠D) (hCL:L≤C) (hDL:L≤D) (hC:H C=none) (hD:H D=none) (af:After X.prog X.w X.K X.stack L s (onH H C D oC oD) N s1 H4) (hk:∀b o,s1.heap.get? b=some o→s2.heap.get? b=some o) (hos:s2.os=s1.os) (hb:AllBare s2.gens):
  Inv X pins σ (offH H4 C D) s2∧H4 C=some (.frz oC (.own C))∧H4 D=some (.frz oD (.own D))∧s1.heap.get? C=some oC∧s1.heap.get? D=some oD:=by
 have h4C:=af.un.frzs C oC _ onH_C
 have h4D:=af.un.frzs D oD _ (onH_D hCD)
 refine ⟨?_,h4C,h4D,(af.hok C _ h4C).1,(af.hok D _ h4D).1⟩
 have cut:∀{b o},s.heap.get? b=some o→b∉upFrom L s.heap→(cutH s.heap L).get? b=some o:=fun e hn=>by
  rw [cutH_lt (not_up e hn)]
  exact e
 have ne:∀{b o},s.heap.get? b=some o→b∉upFrom L s.heap→b≠C∧b≠D:=fun {b o} e hn=>by
  have hb:=not_up e hn
  exact ⟨fun z=>absurd (z ▸ hb) (Nat.not_lt.mpr hCL),fun z=>absurd (z ▸ hb) (Nat.not_lt.mpr hDL)⟩
 have no:∀b:Addr,b∉([]:List Addr):=fun b z=>by cases z
 have nn:∀{b o},s.heap.get? b=some o→b∉upFrom L s.heap→H b=none→onH H C D oC oD b=none:=fun {b o} e hn n=>by
  obtain ⟨z1,z2⟩:=ne e hn
  rw [onH_ne z1 z2];exact n
 have keep:∀{b:Addr} {x:HO},(∀o' y,x≠ .frz o' (.own y))→H4 b=some x→offH H4 C D b=some x:=fun {b x} hn y=>offH_clean h4C h4D b x y hn
 refine I.call' (ch:=upFrom L s.heap) (hos.trans af.os) ⟨fun b o e n hf hc=>hk b o (af.un.keep b o (cut e hc) (nn e hc n) hf (no b)),fun b o e n hf hc=>?_,fun b o e n hc=>offH_none (af.un.free b o (cut e hc) (nn e hc n) (no b)),fun b o e hc=>?_,fun b xs q=>?_,fun b o u q=>?_,fun b ps q=>?_⟩ (hok_off (af.hok.kept hk) h4C h4D fun b o _ _ y=>y) hb (low_ch lo)
 ·obtain ⟨sl,q⟩:=af.un.slot b o (cut e hc) (nn e hc n) hf (no b)
  exact ⟨sl,hk _ _ q⟩
 ·obtain ⟨o',q⟩:=af.un.there b o (cut e hc) (no b)
  exact ⟨o',hk _ _ q⟩
 ·exact keep (fun _ _ z=>by cases z) (af.un.tups b xs (onH_some hC hD q))
 ·have z1:b≠C:=fun z=>by rw [z,hC] at q;cases q
  have z2:b≠D:=fun z=>by rw [z,hD] at q;cases q
  rw [offH_ne z1 z2]
  exact af.un.frzs b o u (onH_some hC hD q)
 ·obtain ⟨more,q2⟩:=af.un.tbls b ps (onH_some hC hD q)
  exact ⟨more,keep (fun _ _ z=>by cases z) q2⟩
end
end DL
set_option maxHeartbeats 4000000
namespace DL
open PySem PySem.Spec PyProof.Rows L2 GenW RZ
section
variable {X : Cx} {pins : List (Addr × Obj)} {σ : L2.St} {H : Hp} {N : Mem} {s s1 : Shared} {L : Nat} {W : WX} {C D : Addr} {oC oD : Obj}
theorem xe_parts {E:XK} {u:Value} {G:Array GenState} (I:Inv X pins σ H s) (lo:Low X pins L) (hCD:C≠D) (hCL:L≤C) (hDL:L≤D) (hC:H C=none) (hD:H D=none) (hG:AllBare G) (hW:∀cls d H4,E cls d H4→H4 C=some (.frz oC (.own C))→H4 D=some (.frz oD (.own D))→W cls d σ (offH H4 C D)) (c:L2.CX X.prog X.w X.stack (onH H C D oC oD) {s with heap:=cutH s.heap L} E u s1):
  ∃(a:Addr) (B D0:Heap) (H':Hp) (cls:Value) (d:Option Addr),u= .ref a∧Inv X pins σ H' {s with heap:=D0,gens:=G,drawn:=s1.drawn,toks:=s1.toks}∧(∀b o,D0.get? b=some o→b∉frs X.stack→B.get? b=some o)∧(∀b o,D0.get? b=some o→s1.heap.get? b=some o)∧D0.get? C=none∧
   HandSPX.FlyingZ B X.stack a (Zc cls d) s1.heap∧B.get? C=none∧H' a=none∧s1.os=s.os∧W cls d σ H'∧s1.heap.get? C=some oC:=by
 obtain ⟨a,B,H4,cls,d,rfl,fl,hok,ub,na,os,ag,hE⟩:=c
 have h4C:=ub.frzs C oC _ onH_C
 have h4D:=ub.frzs D oD _ (onH_D hCD)
 have nst:∀b∈frs X.stack,b≠C∧b≠D:=fun b hb=>⟨fun z=>absurd (z ▸ lo.frl b hb) (Nat.not_lt.mpr hCL),fun z=>absurd (z ▸ lo.frl b hb) (Nat.not_lt.mpr hDL)⟩
 have cut:∀{b o},s.heap.get? b=some o→b∉upFrom L s.heap→({s with heap:=cutH s.heap L}:Shared).heap.get? b=some o:=fun e hn=>by
  show (cutH s.heap L).get? _=_
  rw [cutH_lt (not_up e hn)]
  exact e
 have ne:∀{b o},s.heap.get? b=some o→b∉upFrom L s.heap→b≠C∧b≠D:=fun {b o} e hn=>by
  have hb:=not_up e hn
  exact ⟨fun z=>absurd (z ▸ hb) (Nat.not_lt.mpr hCL),fun z=>absurd (z ▸ hb) (Nat.not_lt.mpr hDL)⟩
 have nn:∀{b o},s.heap.get? b=some o→b∉upFrom L s.heap→H b=none→onH H C D oC oD b=none:=fun {b o} e hn n=>by
  obtain ⟨z1,z2⟩:=ne e hn
  rw [onH_ne z1 z2];exact n
 have keep:∀{b:Addr} {x:HO},(∀o' y,x≠ .frz o' (.own y))→H4 b=some x→offH H4 C D b=some x:=fun {b x} hn y=>offH_clean h4C h4D b x y hn
 obtain ⟨B2,c1,c2⟩:=L2.restrict B fun b=>decide (b≠C∧b≠D)
 have toB:∀b o,B2.get? b=some o→B.get? b=some o∧b≠C∧b≠D:=fun b o e=>by
  by_cases q:b≠C∧b≠D
  ·rw [c1 b (decide_eq_true q)] at e
   exact ⟨e,q⟩
  ·rw [c2 b (decide_eq_false q)] at e
   cases e
 have ofB:∀b o,B.get? b=some o→b≠C→b≠D→B2.get? b=some o:=fun b o e z1 z2=>by
  rw [c1 b (decide_eq_true ⟨z1,z2⟩)];exact e
 have noB:∀b,B.get? b=none→B2.get? b=none:=fun b e=>by
  cases q:B2.get? b with
  | none=>rfl
  | some o=>rw [(toB b o q).1] at e;cases e
 have B2C:B2.get? C=none:=c2 C (decide_eq_false fun z=>z.1 rfl)
 obtain ⟨D0,d1,d2⟩:=L2.restrict s1.heap fun b=>(B2.get? b).isSome || decide (b∈frs X.stack)
 have inB:∀b o,B2.get? b=some o→D0.get? b=some o:=fun b o e=>by
  rw [d1 b (by rw [e];rfl)]
  exact fl.1 b o (toB b o e).1
 have inF:∀b,b∈frs X.stack→D0.get? b=s1.heap.get? b:=fun b hb=>d1 b (by rw [decide_eq_true hb,Bool.or_true])
 have back:∀b o,D0.get? b=some o→s1.heap.get? b=some o∧(b∉frs X.stack→B2.get? b=some o):=fun b o e=>by
  cases q:((B2.get? b).isSome || decide (b∈frs X.stack)) with
  | false=>rw [d2 b q] at e;cases e
  | true=>
   rw [d1 b q] at e
   refine ⟨e,fun hb=>?_⟩
   rw [decide_eq_false hb,Bool.or_false] at q
   obtain ⟨o',z⟩:=Option.isSome_iff_exists.mp q
   have z2:=fl.1 b o' (toB b o' z).1
   rw [e] at z2
   cases z2
   exact z
 obtain ⟨f1,f2,f3,oe,vs,T,oT,ts,t1,t2,t3,t4,t5,t6⟩:=fl
 refine ⟨a,B2,D0,offH H4 C D,cls,d,rfl,?_,fun b o e hb=>(back b o e).2 hb,fun b o e=>(back b o e).1,?_,⟨fun b o e=>f1 b o (toB b o e).1,noB a f2,funFrames_none f3 fun b hb=>?_,oe,vs,T,oT,ts,t1,t2,t3,t4,noB T t5,t6⟩,B2C,offH_none na,os,hW _ _ _ hE h4C h4D,f1 C oC (hok C _ h4C).1⟩
 ·refine I.call (ch:=upFrom L s.heap) ⟨fun b o e n hb hc=>inB b o (ofB b o (ub.keep b o (cut e hc) (nn e hc n) hb) (ne e hc).1 (ne e hc).2),fun b o e n hb hc=>?_,fun b o e n hc=>offH_none (ub.free b o (cut e hc) (nn e hc n)),fun b o e hc=>?_,fun b xs q=>keep (fun _ _ z=>by cases z) (ub.tups b xs (onH_some hC hD q)),fun b o u q=>?_,fun b ps q=>?_⟩ (hok_off hok h4C h4D fun b o z1 z2 e=>inB b o (ofB b o e z1 z2)) hG (low_ch lo)
  ·obtain ⟨sl,q⟩:=ub.slot b o (cut e hc) hb
   exact ⟨sl,by rw [inF b hb];exact q⟩
  ·by_cases hb:b∈frs X.stack
   ·obtain ⟨sl,q⟩:=ub.slot b o (cut e hc) hb
    exact ⟨_,by rw [inF b hb];exact q⟩
   ·obtain ⟨o',q⟩:=ub.there b o (cut e hc) hb
    exact ⟨o',inB b o' (ofB b o' q (ne e hc).1 (ne e hc).2)⟩
  ·have z1:b≠C:=fun z=>by rw [z,hC] at q;cases q
   have z2:b≠D:=fun z=>by rw [z,hD] at q;cases q
   rw [offH_ne z1 z2]
   exact ub.frzs b o u (onH_some hC hD q)
  ·obtain ⟨more,q2⟩:=ub.tbls b ps (onH_some hC hD q)
   exact ⟨more,keep (fun _ _ z=>by cases z) q2⟩
 ·refine d2 C ?_
  rw [B2C,decide_eq_false fun z=>(nst C z).1 rfl]
  rfl
 ·exact noB b (f3.mem hb).1
theorem comp_out {ce:Env} {a:Addr} {B D0:Heap} {H':Hp} {cls:Value} {d:Option Addr} {G:Array GenState} (hs:X.stack=X.env :: X.outer) (hf:X.env.frame=some X.env.locals) (tk:L2.Takes X W) (hce:ce.frame=X.env.frame) (hcC:ce.locals=C)
  (I:Inv X pins σ H' {s with heap:=D0,gens:=G,drawn:=s1.drawn,toks:=s1.toks}) (nb:∀b o,D0.get? b=some o→b∉frs X.stack→B.get? b=some o) (up:∀b o,D0.get? b=some o→s1.heap.get? b=some o) (hDC:D0.get? C=none) (fl:HandSPX.FlyingZ B X.stack a (Zc cls d) s1.heap) (hBC:B.get? C=none) (na:H' a=none) (os:s1.os=s.os) (w:W cls d σ H') (eC:s1.heap.get? C=some oC) {m:Str→Option Value} (hm:s1.heap.Ns C m) (hG:AllBare G):
  notedBy (model X.prog X.w) X.A ce (CompFails (model X.prog X.w) X.A X.xe ce) (.ref a) {s1 with gens:=G}:=by
 have hfr:X.A.frames=some (X.env :: X.outer):=by rw [I.ok.frames,hs]
 have fl':HandSPX.FlyingZ B (X.env :: X.outer) a (Zc cls d) s1.heap:=by rw [← hs];exact fl
 have nte:noteFrame (.ref a) ce=noteFrame (.ref a) X.env:=by
  have:∀e1 e2:Env,e1.frame=e2.frame→noteFrame (.ref a) e1=noteFrame (.ref a) e2:=fun e1 e2 h=>by
   unfold noteFrame PySem.frameOf
   rw [h]
  exact this _ _ hce
 unfold notedBy
 rw [nte]
 refine HandSPX.looks_onZ Zc.steady hfr hf fl' fun h1 hh up1=>?_
 obtain ⟨oc,es,ep,ho,hr⟩:=hm
 have nfC:∀vs,oc.data≠ .fields vs:=fun vs q=>by rw [hr.1] at q;cases q
 obtain ⟨slC,ho1⟩:=up1 C oc ho nfC
 have hn1:h1.Ns C m:=⟨_,es,ep,ho1,hr⟩
 refine ⟨m,by rw [hcC];exact hn1,fun h' m' hn' sb=>?_⟩
 rw [hcC] at hn' sb
 obtain ⟨k1,k2,k3,oe,vs,T,oT,ts,t1,t2,t3,t4,t5,t6,t7,t8,t9⟩:=hh
 have naC:a≠C:=fun z=>by rw [z,ho1] at t1;cases t1;exact nfC _ t3
 have nTC:T≠C:=fun z=>by rw [z,ho1] at t7;cases t7;exact nfC _ t8
 have hh':HandSPX.HeldZ B (X.env :: X.outer) a (Zc cls d) X.env.locals h':=⟨fun b o e=>by
  have z:b≠C:=fun z=>by rw [z,hBC] at e;cases e
  rw [sb.2 b z];exact k1 b o e,k2,Heap.FunFrames.sameBut sb hn' k3,oe,vs,T,oT,ts,by rw [sb.2 a naC];exact t1,t2,t3,t4,t5,t6,by rw [sb.2 T nTC];exact t7,t8,t9⟩
 have up2:D0.UpToSlots h':=fun b o e hn=>by
  have z:b≠C:=fun z=>by rw [z,hDC] at e;cases e
  obtain ⟨sl,q⟩:=up1 b o (up b o e) hn
  exact ⟨sl,by rw [sb.2 b z];exact q⟩
 have t1':h'.get? a=some oe:=by rw [sb.2 a naC];exact t1
 show wpAny _ _ (passOn "comprehension.variables-let-go" (.ref a) ce:Sem Value) _ _ _
 unfold PySem.passOn
 refine wpAny_bind (wpAny_field (s:={s1 with gens:=G,heap:=h'}) t1' t3 t4 ?_)
 rw [if_neg (show ¬((Value.ref T == Value.none)=true) from by simp)]
 have fin:wpAny (model X.prog X.w) X.A (setFlight (.ref a) ce.frame) (fun _ s4=>wpAny (model X.prog X.w) X.A (throw (.ref a):Sem Value) (fun _ _=>False) X.xe s4) X.xe {s1 with gens:=G,heap:=h'}:=by
  rw [hce,hf]
  refine HandSPX.setFlight_onZ (s:={s1 with gens:=G,heap:=h'}) hh' fun h4 hh4 up4=>wpAny_throw ?_
  refine tk _ _ ⟨a,B,_,pins,σ,H',cls,d,rfl,I,nb,up2.trans up4, .inr (.inr ?_),na,rfl.trans ?_,hG,w⟩
  ·rw [hs];exact hh4
  ·exact os
 first
  | exact wpAny_bind (wpAny_pure (wpAny_bind fin))
  | exact wpAny_bind fin
end
end DL
set_option maxHeartbeats 4000000
namespace DL
open PySem PySem.Spec PyProof.Rows L2 GenW RZ
def wLcN (wn:WN):WE:=fun ds M Q Xc=>wn ds M (fun q M1=>q.1.length≤sizeLine∧match q.2 with
 | none=>Q (.lst q.1) M1
 | some x=>Xc x M1) Xc
theorem RelM.no {K:PySem.W.Frag} {H:Hp} {N:Mem} {a:Addr} (R:RelM K H N) (h:H a=none):N a=none:=by
 cases e:N a with
 | none=>rfl
 | some o=>
  have q:=R a o e
  cases o with
  | lst ds=>obtain ⟨_,q,_⟩:=q;rw [h] at q;cases q
  | dct ks ds=>obtain ⟨_,q,_⟩:=q;rw [h] at q;cases q
  | dtt ks ds=>obtain ⟨_,q,_⟩:=q;rw [h] at q;cases q
  | ins C ns ds=>obtain ⟨_,_,q,_⟩:=q;rw [h] at q;cases q
  | tab q'=>obtain ⟨_,q,_⟩:=q;rw [h] at q;cases q
theorem upd_clean {H:Hp} {D:Addr} {u:HO} (hD:H D=none):Clean H (upd H D u):=fun a o e _=>by
 rw [upd_ne (fun z=>by rw [z,hD] at e;cases e)]
 exact e
theorem upd_ext {H:Hp} {N:Mem} {D:Addr} {u:HO} (hD:H D=none):Ext H N (upd H D u) N:=fun a o e m _=>⟨⟨o,by rw [upd_ne (fun z=>by rw [z,hD] at e;cases e)];exact e, .same⟩,m⟩
theorem inv_track {X:Cx} {pins:List (Addr×Obj)} {σ:L2.St} {H:Hp} {s:Shared} {L:Nat} {D:Addr} {u:HO} (I:Inv X pins σ H s) (lo:Low X pins L) (hL:L≤D) (hD:H D=none) (ok:ObjOk X.prog X.w (upd H D u) s.heap D u):Inv X pins σ (upd H D u) s:=by
 have sm:∀{b:Addr} {o:HO},H b=some o→upd H D u b=some o:=fun {b o} e=>upd_clean' hD e
 refine I.call' (ch:= [D]) rfl ⟨fun b o e _ _ _=>e,fun b o e _ _ _=>⟨o.slots,e⟩,fun b o _ n hc=>?_,fun b o e _=>⟨o,e⟩,fun _ _ q=>sm q,fun _ _ _ q=>sm q,fun _ ps q=>⟨#[],by rw [sm q];simp⟩⟩ (fun b o q=>?_) I.bare fun b hb=>?_
 ·rw [upd_ne (fun z=>hc (by rw [z];exact List.mem_singleton.mpr rfl))];exact n
 ·by_cases e:b=D
  ·subst e
   rw [upd_same] at q
   cases q
   exact ok
  ·rw [upd_ne e] at q
   exact (I.hok b o q).stay (fun _ _ _ y=>y) (fun _ y=>sm y) fun _ _ y=>sm y
 ·rw [List.mem_singleton.mp hb]
  exact ⟨.inr (Nat.le_trans lo.sz hL),fun z=>absurd (z ▸ lo.loc) (Nat.not_lt.mpr hL),fun x c e z=>absurd (z ▸ lo.cell x c e) (Nat.not_lt.mpr hL),fun p hp z=>absurd (z ▸ lo.pin p hp) (Nat.not_lt.mpr hL)⟩
where
 upd_clean' {H:Hp} {D b:Addr} {u o:HO} (hD:H D=none) (e:H b=some o):upd H D u b=some o:=by
  rw [upd_ne (fun z=>by rw [z,hD] at e;cases e)]
  exact e
section
variable {X : Cx} {W : WX} {x : Str} {p1 p2 pos pos' : Pos} {iter : Expr} {scope : Scope} {wn : WN} {k j : Nat} {pins : List (Addr × Obj)} {s : Shared} {σ : L2.St} {H : Hp} {Q : VK} {use : Option (Value → Sem Unit)} {Qf : Value → Shared → Prop}
theorem lcN_core (hc:X.calm=true) (hst:X.stack=X.env :: X.outer) (hf:X.env.frame=some X.env.locals) (tk:L2.Takes X W) (hr:Room j X.A) (hkj:k + 1≤j) (hn:JN X W k iter wn) (hkind:scope.kind= .function) (hloc:scope.names.lookup x=some .local) (hnf:∀y∈scope.names,y.2≠ .free) (hnames:∀y∈scope.names,y.2= .local→scope.names.lookup y.1=some .local)
  (hdb:(x == ("__debug__":Str))=false) (hs:∀v,foldedSetIterable iter X.env v=pure v) (I:Inv X pins σ H s) (h:liftE X.K W (wLcN wn) σ H Q)
  (hRR:∀(D C:Addr) (s':Shared) (m:Str→Option Value) (H':Hp),Inv X pins σ H' s'→Q (.ref D) H'→s'.heap.Ns C m→FpOk X pins H' C→∀ce:Env,ce.locals=C→compEnds (model X.prog X.w) X.A X.xe use Qf (.ref D) ce (.ok .next) s'):
  wpAny (model X.prog X.w) X.A (comprehension (.ListComp (.Name x p1) [⟨.Name x p2,iter, [],0⟩] scope pos) scope X.env pos' (newList []) false (eval iter X.env) use) Qf X.xe s:=by
 obtain ⟨ds,M,F0,Qd,Xd,hs0,_,hw,l1,l2⟩:=h
 have hfree:∀y∈scope.names,y.2= .free→∃c,X.env.cells.lookup y.1=some c:=fun y hy e=>absurd e (hnf y hy)
 refine comprehension_at (use:=use) rfl hs (closure_ok hfree) hkind hnames (wpAny_mono (hn.run pins s σ H ds M F0 _ Xd I hs0 hw l2) (fun u s2 h2=>?_) fun _ _ z=>z)
 obtain ⟨H1,s1,M1,ys,fin,I1,e1,r1,q1,nsx,L,a,gi,go,c,Gv,rfl,G⟩:=h2
 have hys:ys.length≤sizeLine:=q1.1
 have q1:=q1.2
 obtain ⟨N,hNe⟩:∃N,N=uni M1 F0:=⟨_,rfl⟩
 rw [← hNe] at G
 have R1:RelM X.K H1 N:=by rw [hNe];exact r1.rel
 have l1':∀(H':Hp) (v:V),Ext H1 N H' N→RelM X.K H' N→DV X.K H' N (.lst ys) v→fin=none→Q v H':=fun H' v e r dv ef=>by
  subst ef
  rw [hNe] at e r dv
  exact l1 v H' (.lst ys) M1 (e1.trans e) ⟨r,r1.dj⟩ dv q1
 have l2':∀(cls:Value) (dc:Option Addr) (H':Hp) (x0:Exn),Ext H1 N H' N→RelM X.K H' N→ExV X.K H' N cls dc x0→fin=some x0→W cls dc σ H':=fun cls dc H' x0 e r v ef=>by
  subst ef
  rw [hNe] at e r v
  exact l2 cls dc H' x0 M1 (e1.trans e) ⟨r,r1.dj⟩ v q1
 obtain ⟨pv0,gv0⟩:=G.first
 have PR:=G.prom
 have I2:Inv X pins σ H1 s2:=I1.call' (ch:= []) G.os (Un.kept G.keep) (I1.hok.kept G.keep) G.bare fun b z=>by cases z
 have lo:Low X pins L:=low_of I1 G.low
 have hfr:X.A.in1.frames=some X.stack:=I1.ok.frames
 have haD:a < s2.heap.objs.size:=Heap.lt_size G.at_
 have hLs:L < s2.heap.objs.size:=PR.lt 0 0 pv0 s2 H1 N (gv0 0)
 refine wpAny_pyIter_gen (G.gen _ G.at_) ?_
 refine wpAny_newObj_type (newEnv_comp ?_) (by show 0≤sizeLine;decide)
 obtain ⟨D,hD⟩:∃D,D=s2.heap.objs.size:=⟨_,rfl⟩
 rw [← hD]
 generalize hs3:({s2 with heap:=s2.heap.push {cls:= .type "list",data:= .seq ([]:List Value).toArray}}:Shared)=s3
 have h3:s3.heap=s2.heap.push {cls:= .type "list",data:= .seq ([]:List Value).toArray}:=by rw [← hs3]
 obtain ⟨C,hC⟩:∃C,C=s3.heap.objs.size:=⟨_,rfl⟩
 have hCe:C=D + 1:=by rw [hC,h3,Heap.size_push,hD]
 have kp3:∀b o,s2.heap.get? b=some o→s3.heap.get? b=some o:=fun b o e=>by rw [h3];exact Heap.get?_push_of_some _ e
 have I3:Inv X pins σ H1 s3:=by rw [← hs3];exact I2.kept (t':=s2.toks) fun b o e=>Heap.get?_push_of_some _ e
 generalize hs4:({s3 with heap:=pushCells (s3.heap.push {cls:= .type "dict",data:= .dict #[]}) scope.names}:Shared)=s4
 have h4:s4.heap=pushCells (s3.heap.push {cls:= .type "dict",data:= .dict #[]}) scope.names:=by rw [← hs4]
 have kp4:∀b o,(s3.heap.push {cls:= .type "dict",data:= .dict #[]}).get? b=some o→s4.heap.get? b=some o:=fun b o e=>by rw [h4];exact pushCells_keeps _ _ _ _ e
 have kp34:∀b o,s3.heap.get? b=some o→s4.heap.get? b=some o:=fun b o e=>kp4 b o (Heap.get?_push_of_some _ e)
 have I4:Inv X pins σ H1 s4:=by rw [← hs4];exact I3.kept (t':=s3.toks) fun b o e=>pushCells_keeps _ _ _ _ (Heap.get?_push_of_some _ e)
 have hns4:s4.heap.Ns C fun _=>none:=by rw [hC];exact Heap.Ns.keeps (Heap.Ns.new ..) kp4
 have hD4:s4.heap.get? D=some {cls:= .type "list",data:= .seq (#[]:Array Value)}:=kp34 _ _ (by rw [h3,hD];exact Heap.get?_push_size _ rfl)
 have nC1:H1 C=none:=I3.hok.fresh (Nat.le_of_eq hC.symm)
 have nD1:H1 D=none:=I2.hok.fresh (Nat.le_of_eq hD.symm)
 have fpC:FpOk X pins H1 C:=I3.fpOk (Nat.le_of_eq hC.symm) nC1
 have hLD:L≤D:=by rw [hD];exact Nat.le_of_lt hLs
 have hLC:L≤C:=by rw [hCe];exact Nat.le_succ_of_le hLD
 have hCD:C≠D:=by rw [hCe];exact Nat.succ_ne_self D
 have g4:s4.gens=s2.gens:=by rw [← hs4,← hs3]
 rw [← hC]
 show codeAny _ _ (.compStart (.ListComp (.Name x p1) [⟨.Name x p2,iter, [],0⟩] scope pos) 0 (.ref a) (.ref D) (compEnvC scope (cellsFrom (C + 1) scope.names (cloFrom X.env.cells scope.names [])) C X.env)) (compEnds (model X.prog X.w) X.A X.xe use Qf (.ref D) (compEnvC scope (cellsFrom (C + 1) scope.names (cloFrom X.env.cells scope.names [])) C X.env)) s4
 generalize hce:compEnvC scope (cellsFrom (C + 1) scope.names (cloFrom X.env.cells scope.names [])) C X.env=ce
 have ceL:ce.locals=C:=by rw [← hce];rfl
 have ceF:ce.frame=X.env.frame:=by rw [← hce];rfl
 have ceK:ce.scope.kind= .function:=by rw [← hce];exact hkind
 have cex:ce.kindOf x=some .local:=by rw [← hce];exact lookup_relabel_local hloc
 have noErr:∀(e:Value) (s':Shared),notedBy (model X.prog X.w) X.A ce (CompFails (model X.prog X.w) X.A X.xe ce) e s'→notedBy (model X.prog X.w) X.A ce (fun e s'=>compEnds (model X.prog X.w) X.A X.xe use Qf (.ref D) ce (.error e) s') e s':=fun e s' z=>by
  cases use <;> exact z
 have loop:codeAny (model X.prog X.w) X.A (.compLoop (.ListComp (.Name x p1) [⟨.Name x p2,iter, [],0⟩] scope pos) 0 (.ref a) (.ref D) ce) (compEnds (model X.prog X.w) X.A X.xe use Qf (.ref D) ce) s4:=by
  refine compLoop_any (fun n s'=>∃(i:Nat) (H':Hp) (pv:List Addr) (gs:GenState) (τ0:Addr) (xs:List V) (its:Array Value) (cD:Nat) (m:Str→Option Value),n + i=ys.length∧Inv X pins σ H' s'∧H' C=none∧H' D=none∧RelM X.K H' N∧Ext H1 N H' N∧s'.heap.Ns C m∧s'.heap.get? D=some {cls:= .type "list",data:= .seq its cD}∧
   Vals xs its.toList∧DVs X.K H' N (ys.take i) xs∧s'.gens[gi]?=some gs∧C∉pv∧D∉pv∧∀τ,(i=0∨τ=τ0)→Gv τ i pv s' H' N∧
   gs.Goes (model X.prog X.w) X.A.in1 (RVw (ys.length + 2) (VwG X.prog X.w X.K X.mg X.base X.stack L (Gv τ)) (EndG X.prog X.w X.K X.stack L a go ys fin)) (YVw (ys.length + 2) (VwG X.prog X.w X.K X.mg X.base X.stack L (Gv τ)) (ItemP X.prog X.w X.K X.mg X.base X.stack L ys Gv τ)) (n + 2) (.send .none) (s'.setGen gi .running))
   ?_ ys.length ⟨0,H1,pv0, .fresh c,0, [], #[],0,fun _=>none,Nat.add_zero _,I4,nC1,nD1,R1,Ext.rfl',hns4,hD4, .nil,rfl,by rw [g4];exact G.fresh,fun z=>?_,fun z=>?_,fun τ _=>⟨PR.keep _ _ _ _ _ _ _ _ _ (gv0 τ) (fun b _ o e=>kp34 b o (kp3 b o e)) (fun b hb=>(PR.obj _ _ _ _ _ _ (gv0 τ) b hb).2.2.1) fun d v y=>y,rfl,?_⟩⟩
  ·rintro n s5 ⟨i,H5,pv,gs,τ0,xs,its,cD,m,hni,I5,nC,nD,R5,e5,hns,hD5,rits,dvs,hgs5,hCp,hDp,fam⟩
   obtain ⟨oC,es,ep,hoC,hrC⟩:=id hns
   have lt5:L < s5.heap.objs.size:=Nat.lt_of_le_of_lt hLD (Heap.lt_size hD5)
   have gndp:Gnd X.prog X.w X.K X.mg X.base X.stack L (s5.setGen gi .running) (onH H5 C D oC {cls:= .type "list",data:= .seq its cD}) N:=(gnd_on I5 lo lt5 R5 hLC hLD nC nD hoC hD5).waken
   have gvp:∀τ,(i=0∨τ=τ0)→VwG X.prog X.w X.K X.mg X.base X.stack L (Gv τ) i (s5.setGen gi .running) (onH H5 C D oC {cls:= .type "list",data:= .seq its cD},N):=fun τ ht=>
    ⟨gndp,pv,PR.same _ _ _ _ _ _ _ (PR.keep _ _ _ _ _ _ _ _ _ (fam τ ht).1 (fun _ _ _ e=>e) (fun b hb=>by
     show onH H5 C D oC {cls:= .type "list",data:= .seq its cD} b=none
     rw [onH_ne (b:=b) (fun z:b=C=>hCp (z ▸ hb)) (fun z:b=D=>hDp (z ▸ hb))]
     exact (PR.obj _ _ _ _ _ _ (fam τ ht).1 b hb).2.2.1) fun d v y=>DV.off (onH_clean nC nD) d v y) rfl⟩
   have I5':Inv X pins σ H5 (s5.setGen gi .running):=Inv.gens I5 (allBare_setGen I5.bare rfl)
   have hgl5:gi < s5.gens.size:=(Array.getElem?_eq_some_iff.mp hgs5).1
   refine wpAny_mono (E:=notedBy (model X.prog X.w) X.A ce (CompFails (model X.prog X.w) X.A X.xe ce)) (wpAny_gsz (n:=gi + 1) hgl5 (next_fam (ι:={τ:Addr // i=0∨τ=τ0}) ⟨τ0, .inr rfl⟩ (I5.ok.hd hc) I5.nolimit hr.depth (G.gen _ (PR.gen _ _ _ _ _ _ (fam τ0 (.inr rfl)).1)) hgs5 (fun τ=>(fam τ.1 τ.2).2) (fun v s₁ gs' hbare hsusp hyv hsz=>?_) fun r s₁ hrv=>?_)) (fun _ _ z=>z) noErr
   ·obtain ⟨τ1,ht1,ht2⟩:∃τ1:Addr,(i=0∨τ1=τ0)∧(i=0→0 < s₁.heap.objs.size→s₁.heap.objs.size=τ1 + 1):=by
     by_cases hi:i=0
     ·exact ⟨s₁.heap.objs.size - 1, .inl hi,fun _ h=>(Nat.succ_pred_eq_of_pos h).symm⟩
     ·exact ⟨τ0, .inr rfl,fun h=>absurd h hi⟩
    obtain ⟨H6,x6,d,af,hd,rv,dv,hpos,hrest⟩:=hyv ⟨τ1,ht1⟩ i (onH H5 C D oC {cls:= .type "list",data:= .seq its cD},N) (by omega) (gvp τ1 ht1)
    obtain ⟨pv',gv6,nxt⟩:=hrest fun hi=>ht2 hi hpos
    have hgs6:(s₁.setGen gi gs').gens[gi]?=some gs':=setGen_at (by
     have z:(s₁.setGen gi gs').gens.size=s₁.gens.size:=setGen_size _ _ _
     have hsz':gi + 1≤(s₁.setGen gi gs').gens.size:=hsz
     omega)
    obtain ⟨I6,h6C,h6D,eC6,eD6⟩:=inv_backF (s2:=s₁.setGen gi gs') I5' lo hCD hLC hLD nC nD af (fun b o e=>e) rfl (allBare_setGen af.bare hbare)
    have cl:=offH_clean h6C h6D
    have R6:RelM X.K (offH H6 C D) N:=RelM.off cl af.rel
    have e6:Ext H5 N (offH H6 C D) N:=ext_off nC nD af.ext
    have hil:i < ys.length:=(List.getElem?_eq_some_iff.mp hd).1
    obtain ⟨n,rfl⟩:∃n',n=n' + 1:=⟨n - 1,by omega⟩
    obtain ⟨og,nm,qn,ho,hcl,hdt,_⟩:=G.gen _ (PR.gen _ _ _ _ _ _ gv6)
    have hCp':C∉pv':=fun z=>by
     have:=(PR.obj _ _ _ _ _ _ gv6 C z).2.2.1
     rw [h6C] at this
     cases this
    have hDp':D∉pv':=fun z=>by
     have:=(PR.obj _ _ _ _ _ _ gv6 D z).2.2.1
     rw [h6D] at this
     cases this
    have hns6:(s₁.setGen gi gs').heap.Ns C m:=⟨oC,es,ep,eC6,hrC⟩
    have out:∀b,L≤b→b≠X.env.locals∧(b∈X.ex∨X.s_0.heap.objs.size≤b)∧(∀x c,X.env.cells.lookup x=some c→c≠b)∧∀p∈X.pn ++ pins,p.1≠b:=fun b hb=>
     ⟨fun z=>absurd (z ▸ lo.loc) (Nat.not_lt.mpr hb), .inr (Nat.le_trans lo.sz hb),fun x c e z=>absurd (z ▸ lo.cell x c e) (Nat.not_lt.mpr hb),fun p hp z=>absurd (z ▸ lo.pin p hp) (Nat.not_lt.mpr hb)⟩
    obtain ⟨c1,c2,c3,c4⟩:=out C hLC
    obtain ⟨d1,d2,d3,d4⟩:=out D hLD
    show wpAny _ _ (letOwnedTupleGo (.Name x p2) (.ref a) v) _ _ _
    refine go_of (s:=s₁.setGen gi gs') ho hcl hdt (by decide) ?_
    refine wpAny_assign_Name (wpAny_storeName_local (env:=ce) cex (by rw [ceL];exact hns6) (fun h7 hn7 sb7=>?_) (by rw [ceK];rfl))
    rw [ceL] at hn7 sb7
    refine wpAny_tests_nil ?_
    rw [if_pos rfl]
    refine wpAny_Name (wpAny_loadName_local (env:=ce) ceK cex (by rw [ceL];exact hn7) (by rw [if_pos rfl]) ?_) hdb
    have eD7:h7.get? D=some {cls:= .type "list",data:= .seq its cD}:=(sb7.2 D (Ne.symm hCD)).trans eD6
    refine append_at (s:={s₁.setGen gi gs' with heap:=h7,toks:=(s₁.setGen gi gs').toks + 1}) eD7 (fun h8 sb8 eD8=>?_) (by
     have z1:=rits.length
     have z2:=dvs.len
     rw [List.length_take] at z2
     simp only [Array.length_toList] at z1
     omega)
    have I7:=I6.turned (t':=(s₁.setGen gi gs').toks + 1) (h':=h7) (it:=C) (fun b o hb e=>(sb7.2 b hb).trans e) offH_C c1 c2 c3 c4
    have I8:=I7.turned (t':=(s₁.setGen gi gs').toks + 1) (h':=h8) (it:=D) (fun b o hb e=>(sb8.2 b hb).trans e) offH_D d1 d2 d3 d4
    have hn8:h8.Ns C _:=hn7.sameBut sb8 hCD
    have gv8:Gv τ1 (i + 1) pv' {s₁.setGen gi gs' with heap:=h8,toks:=(s₁.setGen gi gs').toks + 1} (offH H6 C D) N:=PR.keep _ _ _ _ _ _ _ _ _ gv6 (fun b hb o e=>by
     have z1:b≠C:=fun z=>hCp' (z ▸ hb)
     have z2:b≠D:=fun z=>hDp' (z ▸ hb)
     exact (sb8.2 b z2).trans ((sb7.2 b z1).trans e)) (fun b hb=>offH_none (PR.obj _ _ _ _ _ _ gv6 b hb).2.2.1) fun d v y=>DV.off cl d v y
    refine ⟨n,Nat.lt_succ_self n,i + 1,offH H6 C D,pv',gs',τ1,xs ++ [x6],its.push v,cD + 1,_,by omega,I8,offH_C,offH_D,R6,e5.trans e6,hn8,eD8,?_,?_,hgs6,hCp',hDp',fun τ hτ=>?_⟩
    ·rw [Array.toList_push]
     exact rits.append (.cons rv .nil)
    ·rw [List.take_add_one,hd]
     exact DVs.app (DVs.ext R5 e6 _ _ dvs) ⟨_,_,rfl,DV.off cl _ _ dv,rfl⟩
    ·obtain rfl:τ=τ1:=hτ.elim (fun z=>absurd z (Nat.succ_ne_zero _)) id
     refine ⟨gv8,nxt _ (offH H6 C D,N) ⟨(gnd_of I8 lo ?_ R6).waken,pv',PR.same _ _ _ _ _ _ _ gv8 rfl⟩⟩
     exact Nat.lt_of_le_of_lt hLD (Heap.lt_size (h:=h8) eD8)
   ·rcases hrv ⟨τ0, .inr rfl⟩ i (onH H5 C D oC {cls:= .type "list",data:= .seq its cD},N) (by omega) (gvp τ0 (.inr rfl)) with ⟨rfl,hff,hie,H6,af⟩ | ⟨ee,x0,rfl,hff,hie,hago,cx⟩
    ·refine .inl ⟨rfl,fun h' hk hsz=>?_⟩
     obtain ⟨I6,h6C,h6D,eC6,eD6⟩:=inv_backF (s2:={s₁.setGen gi .finished with heap:=h'}) I5' lo hCD hLC hLD nC nD af hk rfl (allBare_setGen (s:=s₁) af.bare rfl)
     have cl:=offH_clean h6C h6D
     have R6:RelM X.K (offH H6 C D) N:=RelM.off cl af.rel
     have e6:Ext H5 N (offH H6 C D) N:=ext_off nC nD af.ext
     have dv6:=DVs.ext R5 e6 _ _ dvs
     rw [hie,List.take_length] at dv6
     have nDo:offH H6 C D D=none:=offH_D
     have I7:Inv X pins σ (upd (offH H6 C D) D (.lst xs)) {s₁.setGen gi .finished with heap:=h'}:=inv_track I6 lo hLD nDo ⟨by rw [dv6.len];exact hys,its.toList,cD,rits,by
      show h'.get? D=_
      rw [hk _ _ eD6]⟩
     have R7:RelM X.K (upd (offH H6 C D) D (.lst xs)) N:=RelM.off (upd_clean nDo) R6
     have e7:Ext (offH H6 C D) N (upd (offH H6 C D) D (.lst xs)) N:=upd_ext nDo
     refine hRR D C {s₁.setGen gi .finished with heap:=h'} m (upd (offH H6 C D) D (.lst xs)) I7 (l1' _ _ (e5.trans (e6.trans e7)) R7 ⟨D,xs,rfl,upd_same,RelM.no R6 nDo,DVs.off (upd_clean nDo) _ _ dv6⟩ hff) ⟨oC,es,ep,hk _ _ eC6,hrC⟩ ⟨?_,fpC.2⟩ ce ceL
     rw [upd_ne hCD]
     exact offH_C
    ·obtain ⟨C',ns',es',ex,hsub⟩:=nsx _ hff
     have ag:AllBare s₁.gens:=by
      obtain ⟨_,_,_,_,_,_,_,_,_,_,_,ag,_⟩:=cx
      exact ag
     obtain ⟨ax,B,D0,H',cls,dc,eu,Ix,nb,up,hDC,fl,hBC,na,os,w,eC6⟩:=xe_parts (G:=(s₁.setGen gi .finished).gens) (W:=W) I5' lo hCD hLC hLD nC nD (allBare_setGen (s:=s₁) ag rfl) (fun cls dc H4 hh h4C h4D=>l2' cls dc (offH H4 C D) x0 (e5.trans (ext_off nC nD hh.1)) (RelM.off (offH_clean h4C h4D) hh.2.1) (ExV.off (offH_clean h4C h4D) hh.2.2) hff) cx
     subst eu
     refine .inr ⟨.ref ax,rfl,G.gen _ hago,notStop_of (K:=X.K) (fun cls dc H' hh=>?_) (Ix.kIn.keeps up) cx,fun hsz=>?_⟩
     ·obtain ⟨_,_,hv⟩:=hh
      rw [ex] at hv
      rw [hv.1]
      exact hsub
     ·exact comp_out hst hf tk ceF ceL Ix nb up hDC fl hBC na os w eC6 ⟨oC,es,ep,eC6,hrC⟩ (allBare_setGen (s:=s₁) ag rfl)
  ·obtain ⟨_,⟨o,e,_⟩,_⟩:=PR.obj _ _ _ _ _ _ (gv0 0) C z
   exact absurd (Heap.lt_size e) (Nat.not_lt.mpr (by rw [hCe,hD];exact Nat.le_succ _))
  ·obtain ⟨_,⟨o,e,_⟩,_⟩:=PR.obj _ _ _ _ _ _ (gv0 0) D z
   exact absurd (Heap.lt_size e) (Nat.not_lt.mpr (Nat.le_of_eq hD.symm))
  ·refine PR.wake τ X.A.in1 ((hr.mono hkj).in1) hfr _ (H1,N) ⟨(gnd_of I4 lo ?_ R1).waken,pv0,PR.same _ _ _ _ _ _ _ (PR.keep _ _ _ _ _ _ _ _ _ (gv0 τ) (fun b _ o e=>kp34 b o (kp3 b o e)) (fun b hb=>(PR.obj _ _ _ _ _ _ (gv0 τ) b hb).2.2.1) fun d v y=>y) rfl⟩
   have z:=Heap.lt_size hD4
   exact Nat.lt_of_le_of_lt hLD z
 exact codeAny_compStart_list loop (wpAny_pyIter_gen (G.gen _ (kp34 _ _ (kp3 _ _ G.at_))) loop)
end
end DL
set_option maxHeartbeats 4000000
namespace DL
open PySem PySem.Spec PyProof.Rows L2 GenW RZ
section
variable {X : Cx} {W : WX} {x y : Str} {i : Nat} {p1 p2 py pos spos : Pos} {iter : Expr} {scope : Scope} {wn : WN} {k j : Nat}
theorem j_lcN (hc:X.calm=true) (hst:X.stack=X.env :: X.outer) (hf:X.env.frame=some X.env.locals) (tk:L2.Takes X W) (hr:Room j X.A) (hkj:k + 1≤j) (hn:JN X W k iter wn) (hkind:scope.kind= .function:=by rfl) (hloc:scope.names.lookup x=some .local:=by rfl) (hnf:∀y∈scope.names,y.2≠ .free:=by decide) (hnames:∀y∈scope.names,y.2= .local→scope.names.lookup y.1=some .local:=by decide)
  (hdb:(x == ("__debug__":Str))=false:=by decide) (hs:∀v,foldedSetIterable iter X.env v=pure v:=by intro _;rfl):JE X W (.ListComp (.Name x p1) [⟨.Name x p2,iter, [],0⟩] scope pos) (wLcN wn):=by
 refine ⟨fun pins s σ H Q I h=>?_⟩
 rw [eval_ListComp]
 refine lcN_core hc hst hf tk hr hkj hn hkind hloc hnf hnames hdb hs I h fun D C s' m H' I' q hn' f ce e=>?_
 subst e
 obtain ⟨f0,f1,f2,f3,f4,f5⟩:=f
 exact ⟨m,hn',fun h'' sb=>⟨.ref D,H',I'.turned (t':=s'.toks) (fun b o hb e=>(sb.2 b hb).trans e) f0 f1 f3 f4 f5,rfl,q⟩⟩
theorem js_setLcN (hN:X.N.Nodup) (hc:X.calm=true) (hst:X.stack=X.env :: X.outer) (hf:X.env.frame=some X.env.locals) (tk:L2.Takes X W) (hr:Room j X.A) (hkj:k + 1≤j) (hn:JN X W k iter wn)
  (hy:X.N[i]?=some y:=by rfl) (hyl:X.env.scope.names.lookup y=some .local:=by rfl) (hsw:swapsWith (.ListComp (.Name x p1) [⟨.Name x p2,iter, [],0⟩] scope pos) (some (.Name y py)) spos.line X.env=pure true:=by first | exact sw_true rfl rfl rfl rfl | rfl)
  (hkind:scope.kind= .function:=by rfl) (hloc:scope.names.lookup x=some .local:=by rfl) (hnf:∀y∈scope.names,y.2≠ .free:=by decide) (hnames:∀y∈scope.names,y.2= .local→scope.names.lookup y.1=some .local:=by decide)
  (hdb:(x == ("__debug__":Str))=false:=by decide) (hs:∀v,foldedSetIterable iter X.env v=pure v:=by intro _;rfl):JS X W (.Assign [.Name y py] (.ListComp (.Name x p1) [⟨.Name x p2,iter, [],0⟩] scope pos) spos) (wAsg (wLcN wn) (gN i)):=by
 refine ps_mono (t:=tAsg (liftE X.K W (wLcN wn)) (gName i)) ⟨fun pins s σ H D I h=>?_⟩ fun D σ H h=>
  bindSE (wa:=wLcN wn) (f:=fun d E ds M=>E.nx (ds.set i (some d)) M) h fun v d H1 h=>by
   obtain ⟨ds,M,F,E,hs,hv,hw,l⟩:=h
   obtain ⟨_,_,e1,h1,_⟩:=hv
   cases e1
   exact l.nx _ H1 _ M Ext.rfl' ⟨hs.1,Sl.set hs.2 h1⟩ hw
 rw [exec_Assign_Name_used _ _ _ _ hsw]
 refine wpAny_bind (wpAny_standAt (wpAny_bind ?_))
 show wpAny _ X.A (do let _ ← comprehension (.ListComp (.Name x p1) [⟨.Name x p2,iter, [],0⟩] scope pos) scope X.env (firstIterPos [⟨.Name x p2,iter, [],0⟩] pos) (newList []) false (eval iter X.env) (some (assign (.Name y py) X.env))) _ _ s
 have h:liftE X.K W (wLcN wn) σ H (fun x H1=>gName i x σ H1 D.nx):=h
 refine wpAny_bind (thn (lcN_core (Qf:=fun _ s'=>SP X pins D .next s') hc hst hf tk hr hkj hn hkind hloc hnf hnames hdb hs I h fun L C s' m H' I' q hn' f ce e=>?_) fun _ s' hq=>wpAny_pure (wpAny_pure hq))
 subst e
 show wpAny _ _ (assign (.Name y py) X.env (.ref L)) _ _ _
 refine wpAny_assign_Name (store_ok2 (v:=V.ref L) I' hN hy (.inl hyl) rfl (fun s2 I2 ⟨a,sb,ha⟩=>?_) (.inr hyl))
 obtain ⟨f0,f1,f2,f3,f4,f5⟩:=f
 have haC:ce.locals≠a:=by
  rcases ha with z | z
  ·rw [z];exact f1
  ·exact fun e=>f4 y a z e.symm
 refine ⟨m,hn'.sameBut sb haC,fun h3 sb3=>?_⟩
 exact ⟨_,H',I2.turned (t':=s2.toks) (fun b o hb e=>(sb3.2 b hb).trans e) f0 f1 f3 f4 f5,q⟩
end
abbrev gzTG (h:Heap) (o1:Obj) (a:Addr):Heap:=(h.push o1).push {cls:= .type "tuple",data:= .seq #[.ref h.objs.size, .ref a]}
abbrev gzOG (h:Heap) (o1:Obj) (a:Addr):Heap:=(gzTG h o1 a).push {cls:= .type "tuple",data:= .seq #[.none, .none]}
abbrev gzZG (h:Heap) (o1:Obj) (a:Addr):Heap:=(gzOG h o1 a).push {cls:= .type "zip",data:= .fields #[.none, .bool false, .bool false, .ref (h.push o1).objs.size, .ref (gzTG h o1 a).objs.size]}
theorem meets_zip_newG {v1:Value} {o1:Obj} {H1:Heap→Prop} {a:Addr} {g:Nat} (B1:Begins v1 o1 H1):
  Meets (Builtin.«zip.__new__» ⟨[.type "zip",v1, .ref a], []⟩) (fun _ R s=>(H1 s.heap∧s.heap.IsGen a g)∧
   R (.ok (.ret (.ref (gzOG s.heap o1 a).objs.size))) {s with heap:=gzZG s.heap o1 a}):=
 .of_wp fun prog w A R s h=>by
  obtain ⟨hp,g',d,tk,os⟩:=s;obtain ⟨⟨h1,h2⟩,h⟩:=h
  have hsub:=sub_zip
  have q1:∀{A':Around} {E:Value→Shared→Prop} {Q:Value→Shared→Prop},Q (.ref hp.objs.size) ⟨(hp.push o1),g',d,tk,os⟩→wpAny (model prog w) A' (pyIter v1) Q E ⟨hp,g',d,tk,os⟩:=
   fun q=>B1.iter prog w _ _ ⟨hp,g',d,tk,os⟩ _ (B1.keeps _ _ h1 fun b o' e=>e) q
  have q2:∀{A':Around} {E:Value→Shared→Prop} {Q:Value→Shared→Prop},Q (.ref a) ⟨(hp.push o1),g',d,tk,os⟩→wpAny (model prog w) A' (pyIter (.ref a)) Q E ⟨(hp.push o1),g',d,tk,os⟩:=
   fun q=>wpAny_pyIter_gen (s:=⟨(hp.push o1),g',d,tk,os⟩) (g:=g) (by
    obtain ⟨o,nm,qn,e,r⟩:=h2
    exact ⟨o,nm,qn,Heap.get?_push_of_some _ e,r⟩) q
  wp_walk using q1,q2
  exact ⟨_,rfl,h⟩
section
variable {prog : Program} {w : World} {A : Around} {E : Value → Shared → Prop} {s : Shared}
theorem zip_beginsG {v1:Value} {o1:Obj} {H1:Heap→Prop} {a:Addr} {g:Nat} {Q:Value→Shared→Prop} (B1:Begins v1 o1 H1) (h1:H1 s.heap) (h2:s.heap.IsGen a g)
  (h:∀h',IsZip h' (s.heap.objs.size + 3) (s.heap.objs.size + 1) (s.heap.objs.size + 2) .none→IsPair h' (s.heap.objs.size + 1) (.ref s.heap.objs.size) (.ref a)→
   IsPair h' (s.heap.objs.size + 2) .none .none→h'.get? s.heap.objs.size=some o1→(∀c o,s.heap.get? c=some o→h'.get? c=some o)→Q (.ref (s.heap.objs.size + 3)) {s with heap:=h'}):
  wpAny (model prog w) A (call (.type "zip") [v1, .ref a]) Q E s:=by
 refine callType_new F.called_zip (by decide) (F.typeCall_zip_2 _ _) (F.newCall_zip_2 _ _) (fun obj=>F.args_object_init_3 obj _ _) F.entry_zip_new
  (meets_zip_newG (g:=g) B1) ⟨⟨h1,h2⟩,?_⟩
 have z1:(s.heap.push o1).objs.size=s.heap.objs.size + 1:=by rw [Heap.size_push]
 have zT:(gzTG s.heap o1 a).objs.size=s.heap.objs.size + 2:=by rw [Heap.size_push,z1]
 have zO:(gzOG s.heap o1 a).objs.size=s.heap.objs.size + 3:=by rw [Heap.size_push,zT]
 have gZ:(gzZG s.heap o1 a).get? (gzOG s.heap o1 a).objs.size=some {cls:= .type "zip",data:= .fields #[.none, .bool false, .bool false, .ref (s.heap.push o1).objs.size, .ref (gzTG s.heap o1 a).objs.size]}:=Heap.get?_push_size _ rfl
 have gO:(gzZG s.heap o1 a).get? (gzTG s.heap o1 a).objs.size=some {cls:= .type "tuple",data:= .seq #[.none, .none]}:=Heap.get?_push_of_some _ (Heap.get?_push_size _ rfl)
 have gT:(gzZG s.heap o1 a).get? (s.heap.push o1).objs.size=some {cls:= .type "tuple",data:= .seq #[.ref s.heap.objs.size, .ref a]}:=Heap.get?_push_of_some _ (Heap.get?_push_of_some _ (Heap.get?_push_size _ rfl))
 have g1:(gzZG s.heap o1 a).get? s.heap.objs.size=some o1:=Heap.get?_push_of_some _ (Heap.get?_push_of_some _ (Heap.get?_push_of_some _ (Heap.get?_push_size _ B1.free)))
 rw [zO,zT,z1] at gZ
 rw [zT] at gO
 rw [z1] at gT
 show _∧_
 rw [zO]
 exact ⟨⟨_,gZ,rfl⟩,h _ gZ gT gO g1 fun c o e=>Heap.get?_push_of_some _ (Heap.get?_push_of_some _ (Heap.get?_push_of_some _ (Heap.get?_push_of_some _ e)))⟩
theorem zipG_stop {z TI TO i1 l1:Addr} {x2:Value} {k1:Nat} {xs:Array Value} {a b:Value} {Q:Option Value→Shared→Prop} (hh:A.handled=none) (i1z:i1≠z) (l1z:l1≠z)
  (hz:IsZip s.heap z TI TO .none) (hTI:IsPair s.heap TI (.ref i1) x2) (hTO:IsPair s.heap TO a b) (h1:s.heap.IsListIter i1 l1 k1) (hl1:s.heap.IsList l1 xs) (hx:xs[k1]?=none)
  (hQ:∀h',(∀c o,c≠z→c≠i1→s.heap.get? c=some o→h'.get? c=some o)→Q none {s with heap:=h'}):wpAny (model prog w) A (pyNext (.ref z)) Q E s:=by
 have hT:s.TypeIs (.ref z) "zip":=⟨_,hz,rfl⟩
 unfold pyNext
 refine wpAny_bind (wpAny_attempt (wpAny_callSpecial?_slot (name:=Str.ofString "__next__") hT F.slot_zip_next
  (wpAny_call_entry F.slot_zip_next hT F.entry_zip_next ?_ (F.args_zip_next_1 _))))
 show wpAny _ _ (field (.ref z) 2 >>= _) _ _ _
 refine wpAny_bind (wpAny_field hz rfl (x:= .bool false) rfl ?_)
 show wpAny _ _ (field (.ref z) 3 >>= _) _ _ _
 refine wpAny_bind (wpAny_field hz rfl (x:= .ref TI) rfl ?_)
 refine wpAny_bind (wpAny_seqItems hTI rfl ?_)
 show wpAny _ _ (Builtin.SmallTypes.ownedTupleIsFree (.ref z) >>= _) _ _ _
 refine wpAny_bind ?_
 unfold Builtin.SmallTypes.ownedTupleIsFree
 refine wpAny_bind (wpAny_field hz rfl (x:= .none) rfl (wpAny_pure ?_))
 simp only [if_true]
 refine wpAny_bind (wpAny_rule ?_)
 refine wpAny_bind (wpAny_field hz rfl (x:= .ref TO) rfl ?_)
 refine wpAny_bind (wpAny_setField_rec hz (by simp) fun h₁ hz₁ hs₁=>?_)
 replace hz₁:IsZip h₁ z TI TO .ellipsis:=hz₁
 refine wpAny_bind ?_
 simp only [List.zipIdx_cons,List.zipIdx_nil,List.forIn_cons,List.forIn_nil]
 refine wpAny_bind (wpAny_bind (wpAny_onRaise ?_))
 show wpAny _ _ (Builtin.SmallTypes.nextOf (.ref i1) >>= _) _ _ _
 refine wpAny_bind (wpAny_nextOf_list_end hh (h1.extBut hs₁.extBut i1z) (hl1.extBut hs₁.extBut l1z) hx fun h₂ e hs₂ he=>?_)
 obtain ⟨oe,hoe,hce⟩:=he
 have hz₂:IsZip h₂ z TI TO .ellipsis:=hs₂ _ _ i1z.symm hz₁
 have hez:e≠z:=fun x=>by subst x;rw [hz₂] at hoe;cases hoe;simp at hce
 refine wpAny_setField_rec hz₂ (by simp) fun h₃ _ hs₃=>?_
 refine wpAny_bind (wpAny_isInstance (T:="StopIteration") (b:=true) ⟨oe,hs₃.extBut _ _ hez hoe,hce⟩ isSubtype_stop ?_)
 exact wpAny_pure (hQ _ fun c o c1 c2 x=>hs₃.extBut _ _ c1 (hs₂ _ _ c2 (hs₁.extBut _ _ c1 x)))
end
def It0 (K:PySem.W.Frag) (l:Addr):It:=⟨fun _ _=>False,fun _ _ _ _=>False,fun _ H=>SqL K H l []⟩
theorem turn_zipG {P:Program} {w:World} {K:PySem.W.Frag} {tg:Expr} {l z TI TO i1:Addr} {x2:Value} (i1z:i1≠z) (lz:l≠z):
  Turn P w K tg (It0 K l) [z,TI,TO,i1] z (fun i h=>IsZip h z TI TO .none∧IsPair h TI (.ref i1) x2∧IsPair h TO .none .none∧h.IsListIter i1 l 0) where
 mem:=by simp
 obj:=fun i h st c hc=>by
  obtain ⟨hz,hTI,hTO,⟨o1,e1,_,d1⟩⟩:=st
  have e':c=z∨c=TI∨c=TO∨c=i1:=by simpa using hc
  rcases e' with q | q | q | q
  ·rw [q];exact ⟨_,hz,fun v q=>nomatch q⟩
  ·rw [q];exact ⟨_,hTI,fun v q=>nomatch q⟩
  ·rw [q];exact ⟨_,hTO,fun v q=>nomatch q⟩
  ·rw [q];exact ⟨o1,e1,fun v q=>by rw [d1] at q;cases q⟩
 keep:=fun i h h' st k=>by
  obtain ⟨hz,hTI,hTO,h1⟩:=st
  exact ⟨k z (by simp) _ hz,k TI (by simp) _ hTI,k TO (by simp) _ hTO,h1.at fun o q=>k i1 (by simp) o q⟩
 item:=fun X hP hw hK hc i pins s σ H E I hf st hg=>hg.elim
 done:=by
  intro X hP hw hK hc i pins s σ H E I hf st hg
  subst hP hw hK
  obtain ⟨hz,hTI,hTO,h1⟩:=st
  obtain ⟨its,rv,p,_⟩:=I.list (show SqL X.K H l [] from hg)
  cases rv
  exact zipG_stop (I.ok.hd hc) i1z lz hz hTI hTO h1 p.isList (by simp) fun h' hk=>⟨rfl,I.turnedL (t':=s.toks) (ch:= [z,TI,TO,i1]) (fun c o hb q=>
   hk c o (fun q'=>hb (by simp [q'])) (fun q'=>hb (by simp [q'])) q) hf⟩
 self:=fun A i s Q E st h=>wpAny_pyIter_zip st.1 h
def wiZipN (we:WE) (wn:WN):WI:=fun ds M Q Xc=>we ds M (fun d M1=>d= .lst []∧wn ds M1 (fun _ M2=>Q [] M2) Xc) Xc
section
variable {X : Cx} {W : WX} {e1 e2 tg : Expr} {p pos : Pos} {we : WE} {wn : WN} {k : Nat}
theorem ji_zipN (hm:X.mg "zip"=none) (he:JE X W e1 we) (hn:JN X W k e2 wn) (hg:Gl X "zip":=by rfl) (hs1:starEach [e1,e2] X.env=(false,eval e1 X.env) :: starEach [e2] X.env:=by rfl) (hs2:starEach [e2] X.env= [(false,eval e2 X.env)]:=by rfl):
  JI X W tg (.Call (.Name "zip" p) [e1,e2] [] pos) (wiZipN we wn):=by
 refine ⟨fun pins s σ H R I h=>?_⟩
 obtain ⟨ds,M,F0,Qd,Xd,hs0,hw,l1,l2⟩:=h
 refine Call_ (ld_blt I hg hm PyProof.Rows.boot_zip (PyProof.Rows.callWith_type1 ?_ hs1 (by rw [hs2];rfl)))
 rw [hs1,hs2]
 show wpAny _ _ (spliced [(false,eval e1 X.env),(false,eval e2 X.env)]) _ _ s
 refine Calls.spliced_cons (thn (he.run pins s σ H (fun v H1=>∃M1,Ext H (uni M F0) H1 (uni M1 F0)∧Rm X.K H1 M1 F0∧DV X.K H1 (uni M1 F0) (.lst []) v∧wn ds M1 (fun _ M2=>Qd [] M2) Xd) I
  ⟨ds,M,F0,_,Xd,hs0,rfl,hw,fun v H1 d M1 e r dv q=>by
   obtain ⟨q1,q2⟩:=q
   subst q1
   exact ⟨M1,e,r,dv,q2⟩,l2⟩) ?_)
 rintro u1 s1 ⟨v1,H1,I1,rx,M1,x1,r1,dv1,q⟩
 obtain ⟨l,xs,rfl,hl,hnl,dvs⟩:=dv1
 cases (show xs= [] from dvs)
 obtain rfl:u1=Value.ref l:=rx
 refine Calls.spliced_cons (wpAny_mono (hn.run pins s1 σ H1 ds M1 F0 _ Xd I1 (hs0.ext x1 r1) q (l2.ext x1)) (fun u2 s3 h2=>Calls.spliced_nil ?_) fun _ _ z=>z)
 obtain ⟨H2,s2,M2,ys,fin,I2,x2,r2,q2,nsx,L,a,gi,go,c,Gv,rfl,G⟩:=h2
 have I3:Inv X pins σ H2 s3:=I2.call' (ch:= []) G.os (Un.kept G.keep) (I2.hok.kept G.keep) G.bare fun b z=>by cases z
 obtain ⟨hl2,hnl2⟩:=x2.at hl hnl plain_lst
 obtain ⟨its,rv,p1,_⟩:=I3.list (SqL.of hl2)
 have lt:l < s3.heap.objs.size:=p1.lt
 refine zip_beginsG (g:=gi) (begins_list l its.toArray) p1.isList (G.gen _ G.at_) fun h' hz hTI hTO h1 hk=>wpAny_pyIter_zip hz ?_
 have I4:Inv X pins σ H2 {s3 with heap:=h'}:=I3.kept (t':=s3.toks) hk
 have fresh:∀c,c∈ [s3.heap.objs.size + 3,s3.heap.objs.size + 1,s3.heap.objs.size + 2,s3.heap.objs.size]→FpOk X pins H2 c:=fun c hcm=>by
  have hle:s3.heap.objs.size≤c:=by
   simp only [List.mem_cons,List.not_mem_nil,or_false] at hcm
   rcases hcm with z | z | z | z
   ·rw [z];exact Nat.le_add_right _ _
   ·rw [z];exact Nat.le_add_right _ _
   ·rw [z];exact Nat.le_add_right _ _
   ·rw [z];exact Nat.le_refl _
  exact I3.fpOk hle (I3.hok.fresh hle)
 refine ⟨s3.heap.objs.size + 3, [s3.heap.objs.size + 3,s3.heap.objs.size + 1,s3.heap.objs.size + 2,s3.heap.objs.size],_,It0 X.K l,H2,rfl,I4,turn_zipG (x2:= .ref a) (Nat.ne_of_lt (Nat.lt_add_of_pos_right (by decide))) (Nat.ne_of_lt (Nat.lt_of_lt_of_le lt (Nat.le_add_right _ _))),⟨hz,hTI,hTO,⟨_,h1,rfl,rfl⟩⟩,fresh,?_⟩
 refine l1 _ H2 [] M2 (x1.trans x2) r2 (fun i H3 N3 e3 r3=>⟨fun _=>SqL.of (e3.at hl2 hnl2 plain_lst).1,fun d hd=>by cases hd⟩) q2
end
end DL
set_option maxHeartbeats 4000000
namespace DL
open PySem PySem.Spec PyProof.Rows L2 GenW RZ
def fPre (st:Stmt):List Stmt:=(defBody st).dropLast
def fYe (st:Stmt):Expr:=match (defBody st).getLast? with
 | some (.Expr (.YieldFrom e _) _)=>e
 | _=> .Name "" ⟨0,0,0,0⟩
section
variable {P : Program} {w : World} {K : PySem.W.Frag} {mg : Str → Option Value} {base : Heap} {k : Nat} {x qual : Str} {st : Stmt} {f : Addr} {Ns ps ks : List Str} {n m : Nat} {ord : List Nat} {gsp : SpGD} {yp pos : Pos} {pre : List Stmt} {e : Expr} {wpre : WS} {wye : WE}
theorem GnF.mkFrom (D:DefAt K x qual st ps f) (S:GScope Ns ps (defScope st)) (hc:∀n,cellsFrom n (defScope st).names []= []) (hbody:defBody st=pre ++ [.Expr (.YieldFrom e yp) pos]) (hin:∀(L:Addr) (cd:Value),interactive (envOfC qual (defScope st) L f cd)=false) (hsw:∀(L:Addr) (cd:Value),swapsWith (.YieldFrom e yp) none pos.line (envOfC qual (defScope st) L f cd)=pure false)
  (hb:∀(cd:Value) (A:Around) (outer:List Env) (L:Addr) (s0:Shared) (H0:Hp) (E:XK) (pn:List (Addr×Obj)),Room k (A.deeper (envOfC qual (defScope st) L f cd))→L2.Takes (gtx P w K mg base Ns qual (defScope st) f cd A outer L s0 H0 E pn) (WD E)→
   JSs (gtx P w K mg base Ns qual (defScope st) f cd A outer L s0 H0 E pn) (WD E) pre wpre∧JE (gtx P w K mg base Ns qual (defScope st) f cd A outer L s0 H0 E pn) (WD E) e wye)
  (ns:∀ds ys fin,gsp ds ys fin→NsX K fin)
  (spec:∀ds ys fin,gsp ds ys fin→ds.length=ps.length∧wpre {nx:=fun ds3 M3=>wye ds3 M3 (fun y M4=>fin=none∧y= .lst ys∧M4=m0) (fun x M4=>fin=some x∧ys= []∧M4=m0),rt:=fun _ _=>False,ex:=fun x _ M4=>fin=some x∧ys= []∧M4=m0} (startD Ns ds) m0):
  GnF P w K mg base (k + 1) f gsp:=by
 obtain ⟨fd,F,hbd⟩:=D.ex
 exact ⟨⟨fd,ps,hbd,GnC.mkFrom F S hc hbody hin hsw hb spec⟩,F.kp,ns⟩
theorem GnFK.mkFrom (D:DefAt K x qual st ps f) (S:GScope Ns ps (defScope st)) (hp:0 < ps.length)
  (hbk:∀(kV doc pm:Value) (an:Option Addr) (cdv ct:Value) (us ws:List Value),us.length=n→ws.length=m→
   bindArgs (PySem.W.fnOf x qual (defArgs st) (defBody st) (defScope st) .none kV doc pm an cdv ct) ⟨us,ks.zip ws⟩=pure (ps.zip (gOrd n m ord us ws)))
  (hc:∀n,cellsFrom n (defScope st).names []= []) (hbody:defBody st=pre ++ [.Expr (.YieldFrom e yp) pos]) (hin:∀(L:Addr) (cd:Value),interactive (envOfC qual (defScope st) L f cd)=false) (hsw:∀(L:Addr) (cd:Value),swapsWith (.YieldFrom e yp) none pos.line (envOfC qual (defScope st) L f cd)=pure false)
  (hb:∀(cd:Value) (A:Around) (outer:List Env) (L:Addr) (s0:Shared) (H0:Hp) (E:XK) (pn:List (Addr×Obj)),Room k (A.deeper (envOfC qual (defScope st) L f cd))→L2.Takes (gtx P w K mg base Ns qual (defScope st) f cd A outer L s0 H0 E pn) (WD E)→
   JSs (gtx P w K mg base Ns qual (defScope st) f cd A outer L s0 H0 E pn) (WD E) pre wpre∧JE (gtx P w K mg base Ns qual (defScope st) f cd A outer L s0 H0 E pn) (WD E) e wye)
  (ns:∀ds ys fin,gsp ds ys fin→NsX K fin)
  (spec:∀ds ys fin,gsp ds ys fin→ds.length=ps.length∧wpre {nx:=fun ds3 M3=>wye ds3 M3 (fun y M4=>fin=none∧y= .lst ys∧M4=m0) (fun x M4=>fin=some x∧ys= []∧M4=m0),rt:=fun _ _=>False,ex:=fun x _ M4=>fin=some x∧ys= []∧M4=m0} (startD Ns ds) m0):
  GnFK P w K mg base (k + 1) f gsp ks n m ord:=by
 obtain ⟨fd,F,hbd⟩:=D.ex
 refine ⟨⟨fd,ps,?_,GnC.mkFrom F S hc hbody hin hsw hb spec⟩,F.kp,ns⟩
 obtain ⟨oc,od,kV,doc,pm,an,cdv,ct,osl,rfl,lk,hcd⟩:=F.ex
 exact kb_mk hp fun us ws e1 e2 s=> .of_eq (hbk kV doc pm an cdv ct us ws e1 e2)
end
def wDclr (we:WE):WE:=fun ds M Q Xc=>we ds M (fun d M1=>∃a ks vs,d= .ref a∧M1 a=some (.dct ks vs)∧Q .non (mput M1 a (.dct [] []))) Xc
theorem j_dclr {X:Cx} {W:WX} {o:Expr} {we:WE} {apos cpos:Pos} (he:JE X W o we) (hbase:attributeBase o "clear" X.env (eval o X.env)=eval o X.env:=by rfl) (hline:(apos.endLine == cpos.line)=true:=by rfl):JE X W (.Call (.Attribute o "clear" apos) [] [] cpos) (wDclr we):=
 pe_mono (pe_dclear he hbase hline) fun σ H Q h=>bindE (wa:=we) (f:=fun d _ M (Q:KN) _=>∃a ks vs,d= .ref a∧M a=some (.dct ks vs)∧Q D.non (mput M a (.dct [] []))) h fun v d H1 h=>by
  obtain ⟨ds,M,F,Qd,Xd,hs,hv,⟨a,ks,vs,rfl,hM,q⟩,l1,_⟩:=h
  obtain ⟨_,_,e1,g1,_⟩:=hv
  cases e1
  cases (show v= .ref a from g1)
  obtain ⟨kvs,h1,h2,h3⟩:=hs.1.get hM
  refine ⟨.inr (.inr (.inl ⟨rfl, .inl ⟨kvs,h1⟩⟩)),a,kvs,rfl,rfl,h1,?_⟩
  exact l1 V.non _ D.non _ (hs.1.xset hM) (hs.1.set (u:= .dct [] []) hM ⟨[],upd_same,rfl,rfl⟩) rfl q
section
variable {ds : SD} {M : Mem} {Q : KN} {Xc : KX} {E : ED} {wa wk : WA} {we : WE} {wn : WN} {gsp : SpGD} {C : Addr} {ns : List Str} {mm : Nat} {ord : List Nat} {g : GD} {wb : WS} {Qn : List D × Option Exn → Mem → Prop} {Qi : List D → Mem → Prop}
theorem pGen:(wGen wa gsp ds M Qn Xc)=(wa ds M (fun xs M1=>∃ys fin,gsp xs ys fin∧Qn (ys,fin) M1) Xc):=propext Iff.rfl
theorem pGenM:(wGenM C ns gsp we wa ds M Qn Xc)=(we ds M (fun d M1=>insK C ns M1 d fun _=>wa ds M1 (fun xs M2=>∃ys fin,gsp (d :: xs) ys fin∧Qn (ys,fin) M2) Xc) Xc):=propext Iff.rfl
theorem pGenMK:(wGenMK C ns gsp mm ord we wk ds M Qn Xc)=(we ds M (fun d M1=>insK C ns M1 d fun _=>wk ds M1 (fun xs M2=>∃ys fin,gsp (gOrd 1 mm ord [d] xs) ys fin∧Qn (ys,fin) M2) Xc) Xc):=propext Iff.rfl
theorem pForN:(wForN wn g wb E ds M)=(wn ds M (fun q M1=>forG g wb q.2 E q.1 ds M1) (E.xc ds)):=propext Iff.rfl
theorem pLcN:(wLcN wn ds M Q Xc)=(wn ds M (fun q M1=>q.1.length≤sizeLine∧match q.2 with
 | none=>Q (.lst q.1) M1
 | some x=>Xc x M1) Xc):=propext Iff.rfl
theorem piZipN:(wiZipN we wn ds M Qi Xc)=(we ds M (fun d M1=>d= .lst []∧wn ds M1 (fun _ M2=>Qi [] M2) Xc) Xc):=propext Iff.rfl
theorem pDclr:(wDclr we ds M Q Xc)=(we ds M (fun d M1=>∃a ks vs,d= .ref a∧M1 a=some (.dct ks vs)∧Q .non (mput M1 a (.dct [] []))) Xc):=propext Iff.rfl
theorem forG_cons {fin:Option Exn} {d:D} {ys:List D}:forG g wb fin E (d :: ys) ds M=g d ds fun ds2=>wb {E with nx:=fun ds3 M3=>forG g wb fin E ys ds3 M3,ct:=fun ds3 M3=>forG g wb fin E ys ds3 M3,bk:=E.nx} ds2 M:=propext Iff.rfl
end
end DL
set_option maxHeartbeats 1000000
namespace DL.K05
open PySem PySem.Spec PyProof.Rows L2 RZ
def ns_Shape:List Str:= ["own_fields","own_sources"]
def k_DIGITS:D:= .str "0123456789"
def k_LETTERS:D:= .str "abcdefghijklmnopqrstuvwxyz"
def k_MAX_WORD:D:= .int 8
def k_OWN_COLUMNS:D:= .tup [.str "moment", .str "source"]
def top (i:Nat):Stmt:=PySem.Challenge.pw_mergesight_k05_sheets_and_walks.main.body.getD i (.Pass ⟨0,0,0,0⟩)
abbrev s_is_number:Stmt:=(top 5)
abbrev N_is_number:List Str:= ["value"]
abbrev P_is_number:List Str:= ["value"]
theorem st_is_number (a0:D):startD N_is_number [a0]= [some a0]:=rfl
theorem sc_is_number:FnScope N_is_number P_is_number (defScope s_is_number):=⟨rfl,rfl,rfl,by decide +kernel,rfl,by decide +kernel,by decide +kernel⟩
abbrev s_is_listed:Stmt:=(top 6)
abbrev N_is_listed:List Str:= ["value"]
abbrev P_is_listed:List Str:= ["value"]
theorem st_is_listed (a0:D):startD N_is_listed [a0]= [some a0]:=rfl
theorem sc_is_listed:FnScope N_is_listed P_is_listed (defScope s_is_listed):=⟨rfl,rfl,rfl,by decide +kernel,rfl,by decide +kernel,by decide +kernel⟩
abbrev s_is_made_of:Stmt:=(top 7)
abbrev N_is_made_of:List Str:= ["value","signs","most","sign"]
abbrev P_is_made_of:List Str:= ["value","signs","most"]
theorem st_is_made_of (a0:D) (a1:D) (a2:D):startD N_is_made_of [a0,a1,a2]= [some a0,some a1,some a2,none]:=rfl
theorem sc_is_made_of:FnScope N_is_made_of P_is_made_of (defScope s_is_made_of):=⟨rfl,rfl,rfl,by decide +kernel,rfl,by decide +kernel,by decide +kernel⟩
abbrev s_is_plain_name:Stmt:=(top 8)
abbrev N_is_plain_name:List Str:= ["value"]
abbrev P_is_plain_name:List Str:= ["value"]
theorem st_is_plain_name (a0:D):startD N_is_plain_name [a0]= [some a0]:=rfl
theorem sc_is_plain_name:FnScope N_is_plain_name P_is_plain_name (defScope s_is_plain_name):=⟨rfl,rfl,rfl,by decide +kernel,rfl,by decide +kernel,by decide +kernel⟩
abbrev s_is_plain_word:Stmt:=(top 9)
abbrev N_is_plain_word:List Str:= ["value"]
abbrev P_is_plain_word:List Str:= ["value"]
theorem st_is_plain_word (a0:D):startD N_is_plain_word [a0]= [some a0]:=rfl
theorem sc_is_plain_word:FnScope N_is_plain_word P_is_plain_word (defScope s_is_plain_word):=⟨rfl,rfl,rfl,by decide +kernel,rfl,by decide +kernel,by decide +kernel⟩
abbrev s_unlike:Stmt:=(top 10)
abbrev N_unlike:List Str:= ["values"]
abbrev P_unlike:List Str:= ["values"]
theorem st_unlike (a0:D):startD N_unlike [a0]= [some a0]:=rfl
theorem sc_unlike:FnScope N_unlike P_unlike (defScope s_unlike):=⟨rfl,rfl,rfl,by decide +kernel,rfl,by decide +kernel,by decide +kernel⟩
abbrev s_are_names:Stmt:=(top 21)
abbrev N_are_names:List Str:= ["value","most","name"]
abbrev P_are_names:List Str:= ["value","most"]
theorem st_are_names (a0:D) (a1:D):startD N_are_names [a0,a1]= [some a0,some a1,none]:=rfl
theorem sc_are_names:FnScope N_are_names P_are_names (defScope s_are_names):=⟨rfl,rfl,rfl,by decide +kernel,rfl,by decide +kernel,by decide +kernel⟩
abbrev s_leaves:Stmt:=(top 22)
abbrev N_leaves:List Str:= ["tree","found","waiting","item"]
abbrev P_leaves:List Str:= ["tree"]
theorem st_leaves (a0:D):startD N_leaves [a0]= [some a0,none,none,none]:=rfl
theorem sc_leaves:FnScope N_leaves P_leaves (defScope s_leaves):=⟨rfl,rfl,rfl,by decide +kernel,rfl,by decide +kernel,by decide +kernel⟩
abbrev s_Shape___init__:Stmt:=(inClass (top 23) 2)
abbrev N_Shape___init__:List Str:= ["self","fields","sources","name"]
abbrev P_Shape___init__:List Str:= ["self","fields","sources"]
theorem st_Shape___init__ (a0:D) (a1:D) (a2:D):startD N_Shape___init__ [a0,a1,a2]= [some a0,some a1,some a2,none]:=rfl
theorem sc_Shape___init__:FnScope N_Shape___init__ P_Shape___init__ (defScope s_Shape___init__):=⟨rfl,rfl,rfl,by decide +kernel,rfl,by decide +kernel,by decide +kernel⟩
abbrev s_Shape_columns:Stmt:=(inClass (top 23) 6)
abbrev N_Shape_columns:List Str:= ["self"]
abbrev P_Shape_columns:List Str:= ["self"]
theorem st_Shape_columns (a0:D):startD N_Shape_columns [a0]= [some a0]:=rfl
theorem sc_Shape_columns:FnScope N_Shape_columns P_Shape_columns (defScope s_Shape_columns):=⟨rfl,rfl,rfl,by decide +kernel,rfl,by decide +kernel,by decide +kernel⟩
abbrev s_Shape_is_row:Stmt:=(inClass (top 23) 7)
abbrev N_Shape_is_row:List Str:= ["self","value","word"]
abbrev P_Shape_is_row:List Str:= ["self","value"]
theorem st_Shape_is_row (a0:D) (a1:D):startD N_Shape_is_row [a0,a1]= [some a0,some a1,none]:=rfl
theorem sc_Shape_is_row:FnScope N_Shape_is_row P_Shape_is_row (defScope s_Shape_is_row):=⟨rfl,rfl,rfl,by decide +kernel,rfl,by decide +kernel,by decide +kernel⟩
abbrev s_Shape_is_pile:Stmt:=(inClass (top 23) 8)
abbrev N_Shape_is_pile:List Str:= ["self","value","row"]
abbrev P_Shape_is_pile:List Str:= ["self","value"]
theorem st_Shape_is_pile (a0:D) (a1:D):startD N_Shape_is_pile [a0,a1]= [some a0,some a1,none]:=rfl
theorem sc_Shape_is_pile:FnScope N_Shape_is_pile P_Shape_is_pile (defScope s_Shape_is_pile):=⟨rfl,rfl,rfl,by decide +kernel,rfl,by decide +kernel,by decide +kernel⟩
abbrev s_Shape_is_tree:Stmt:=(inClass (top 23) 9)
abbrev N_Shape_is_tree:List Str:= ["self","value"]
abbrev P_Shape_is_tree:List Str:= ["self","value"]
theorem st_Shape_is_tree (a0:D) (a1:D):startD N_Shape_is_tree [a0,a1]= [some a0,some a1]:=rfl
theorem sc_Shape_is_tree:FnScope N_Shape_is_tree P_Shape_is_tree (defScope s_Shape_is_tree):=⟨rfl,rfl,rfl,by decide +kernel,rfl,by decide +kernel,by decide +kernel⟩
abbrev s_Shape_need_row:Stmt:=(inClass (top 23) 10)
abbrev N_Shape_need_row:List Str:= ["self","row"]
abbrev P_Shape_need_row:List Str:= ["self","row"]
theorem st_Shape_need_row (a0:D) (a1:D):startD N_Shape_need_row [a0,a1]= [some a0,some a1]:=rfl
theorem sc_Shape_need_row:FnScope N_Shape_need_row P_Shape_need_row (defScope s_Shape_need_row):=⟨rfl,rfl,rfl,by decide +kernel,rfl,by decide +kernel,by decide +kernel⟩
abbrev s_Shape_need_pile:Stmt:=(inClass (top 23) 11)
abbrev N_Shape_need_pile:List Str:= ["self","rows"]
abbrev P_Shape_need_pile:List Str:= ["self","rows"]
theorem st_Shape_need_pile (a0:D) (a1:D):startD N_Shape_need_pile [a0,a1]= [some a0,some a1]:=rfl
theorem sc_Shape_need_pile:FnScope N_Shape_need_pile P_Shape_need_pile (defScope s_Shape_need_pile):=⟨rfl,rfl,rfl,by decide +kernel,rfl,by decide +kernel,by decide +kernel⟩
abbrev s_Shape_need_tree:Stmt:=(inClass (top 23) 12)
abbrev N_Shape_need_tree:List Str:= ["self","tree"]
abbrev P_Shape_need_tree:List Str:= ["self","tree"]
theorem st_Shape_need_tree (a0:D) (a1:D):startD N_Shape_need_tree [a0,a1]= [some a0,some a1]:=rfl
theorem sc_Shape_need_tree:FnScope N_Shape_need_tree P_Shape_need_tree (defScope s_Shape_need_tree):=⟨rfl,rfl,rfl,by decide +kernel,rfl,by decide +kernel,by decide +kernel⟩
abbrev s_Shape_sheet:Stmt:=(inClass (top 23) 13)
abbrev N_Shape_sheet:List Str:= ["self","row"]
abbrev P_Shape_sheet:List Str:= ["self","row"]
theorem st_Shape_sheet (a0:D) (a1:D):startD N_Shape_sheet [a0,a1]= [some a0,some a1]:=rfl
theorem sc_Shape_sheet:FnScope N_Shape_sheet P_Shape_sheet (defScope s_Shape_sheet):=⟨rfl,rfl,rfl,by decide +kernel,rfl,by decide +kernel,by decide +kernel⟩
abbrev s_Shape_rows_in:Stmt:=(inClass (top 23) 14)
abbrev N_Shape_rows_in:List Str:= ["self","tree"]
abbrev P_Shape_rows_in:List Str:= ["self","tree"]
theorem st_Shape_rows_in (a0:D) (a1:D):startD N_Shape_rows_in [a0,a1]= [some a0,some a1]:=rfl
theorem sc_Shape_rows_in:GScope N_Shape_rows_in P_Shape_rows_in (defScope s_Shape_rows_in):=⟨rfl,rfl,rfl,by decide +kernel,rfl,by decide +kernel,by decide +kernel⟩
abbrev s_turned_pair:Stmt:=(top 24)
abbrev N_turned_pair:List Str:= ["tree"]
abbrev P_turned_pair:List Str:= ["tree"]
theorem st_turned_pair (a0:D):startD N_turned_pair [a0]= [some a0]:=rfl
theorem sc_turned_pair:FnScope N_turned_pair P_turned_pair (defScope s_turned_pair):=⟨rfl,rfl,rfl,by decide +kernel,rfl,by decide +kernel,by decide +kernel⟩
abbrev s_Shape_turned:Stmt:=(inClass (top 23) 15)
abbrev N_Shape_turned:List Str:= ["self","tree"]
abbrev P_Shape_turned:List Str:= ["self","tree"]
theorem st_Shape_turned (a0:D) (a1:D):startD N_Shape_turned [a0,a1]= [some a0,some a1]:=rfl
theorem sc_Shape_turned:FnScope N_Shape_turned P_Shape_turned (defScope s_Shape_turned):=⟨rfl,rfl,rfl,by decide +kernel,rfl,by decide +kernel,by decide +kernel⟩
abbrev s_Shape_chain:Stmt:=(inClass (top 23) 16)
abbrev N_Shape_chain:List Str:= ["self","rows","tree","row"]
abbrev P_Shape_chain:List Str:= ["self","rows"]
theorem st_Shape_chain (a0:D) (a1:D):startD N_Shape_chain [a0,a1]= [some a0,some a1,none,none]:=rfl
theorem sc_Shape_chain:FnScope N_Shape_chain P_Shape_chain (defScope s_Shape_chain):=⟨rfl,rfl,rfl,by decide +kernel,rfl,by decide +kernel,by decide +kernel⟩
abbrev s__law_opened:Stmt:=(top 26)
abbrev N__law_opened:List Str:= ["_law_script"]
abbrev P__law_opened:List Str:= ["_law_script"]
theorem st__law_opened (a0:D):startD N__law_opened [a0]= [some a0]:=rfl
theorem sc__law_opened:FnScope N__law_opened P__law_opened (defScope s__law_opened):=⟨rfl,rfl,rfl,by decide +kernel,rfl,by decide +kernel,by decide +kernel⟩
abbrev s__law_pull:Stmt:=(top 27)
abbrev N__law_pull:List Str:= ["_law_bag","_law_many","_law_cell","_law_digit","_law_seed"]
abbrev P__law_pull:List Str:= ["_law_bag","_law_many"]
theorem st__law_pull (a0:D) (a1:D):startD N__law_pull [a0,a1]= [some a0,some a1,none,none,none]:=rfl
theorem sc__law_pull:FnScope N__law_pull P__law_pull (defScope s__law_pull):=⟨rfl,rfl,rfl,by decide +kernel,rfl,by decide +kernel,by decide +kernel⟩
abbrev s__law_any:Stmt:=(top 28)
abbrev N__law_any:List Str:= ["_law_bag","_law_things"]
abbrev P__law_any:List Str:= ["_law_bag","_law_things"]
theorem st__law_any (a0:D) (a1:D):startD N__law_any [a0,a1]= [some a0,some a1]:=rfl
theorem sc__law_any:FnScope N__law_any P__law_any (defScope s__law_any):=⟨rfl,rfl,rfl,by decide +kernel,rfl,by decide +kernel,by decide +kernel⟩
abbrev s__law_mixed:Stmt:=(top 29)
abbrev N__law_mixed:List Str:= ["_law_bag","_law_things","_law_found","_law_thing"]
abbrev P__law_mixed:List Str:= ["_law_bag","_law_things"]
theorem st__law_mixed (a0:D) (a1:D):startD N__law_mixed [a0,a1]= [some a0,some a1,none,none]:=rfl
theorem sc__law_mixed:FnScope N__law_mixed P__law_mixed (defScope s__law_mixed):=⟨rfl,rfl,rfl,by decide +kernel,rfl,by decide +kernel,by decide +kernel⟩
abbrev s__law_like:Stmt:=(top 30)
abbrev N__law_like:List Str:= ["_law_found","_law_due","_law_one","_law_other","_law_key"]
abbrev P__law_like:List Str:= ["_law_found","_law_due"]
theorem st__law_like (a0:D) (a1:D):startD N__law_like [a0,a1]= [some a0,some a1,none,none,none]:=rfl
theorem sc__law_like:FnScope N__law_like P__law_like (defScope s__law_like):=⟨rfl,rfl,rfl,by decide +kernel,rfl,by decide +kernel,by decide +kernel⟩
abbrev s__law_field:Stmt:=(top 31)
abbrev N__law_field:List Str:= ["_law_e"]
abbrev P__law_field:List Str:= ["_law_e"]
theorem st__law_field (a0:D):startD N__law_field [a0]= [some a0]:=rfl
theorem sc__law_field:FnScope N__law_field P__law_field (defScope s__law_field):=⟨rfl,rfl,rfl,by decide +kernel,rfl,by decide +kernel,by decide +kernel⟩
abbrev s__law_stems:Stmt:=(top 33)
abbrev N__law_stems:List Str:= ["_law_bag","_law_many","_law_most","_law_letters","_law_left","_law_signs","_law_stem","_law_at","_law_tail","_law_even","_law_found","_law_sign","_law_k","_law_name"]
abbrev P__law_stems:List Str:= ["_law_bag","_law_many","_law_most"]
theorem st__law_stems (a0:D) (a1:D) (a2:D):startD N__law_stems [a0,a1,a2]= [some a0,some a1,some a2,none,none,none,none,none,none,none,none,none,none,none]:=rfl
theorem sc__law_stems:FnScope N__law_stems P__law_stems (defScope s__law_stems):=⟨rfl,rfl,rfl,by decide +kernel,rfl,by decide +kernel,by decide +kernel⟩
abbrev s__law_words:Stmt:=(top 34)
abbrev N__law_words:List Str:= ["_law_bag","_law_many","_law_signs","_law_left","_law_some","_law_stem","_law_at","_law_tail","_law_even","_law_sign","_law_k"]
abbrev P__law_words:List Str:= ["_law_bag","_law_many"]
theorem st__law_words (a0:D) (a1:D):startD N__law_words [a0,a1]= [some a0,some a1,none,none,none,none,none,none,none,none,none]:=rfl
theorem sc__law_words:FnScope N__law_words P__law_words (defScope s__law_words):=⟨rfl,rfl,rfl,by decide +kernel,rfl,by decide +kernel,by decide +kernel⟩
abbrev s__law_ground:Stmt:=(top 35)
abbrev N__law_ground:List Str:= ["_law_bag","_law_fields","_law_sources"]
abbrev P__law_ground:List Str:= ["_law_bag","_law_fields","_law_sources"]
theorem st__law_ground (a0:D) (a1:D) (a2:D):startD N__law_ground [a0,a1,a2]= [some a0,some a1,some a2]:=rfl
theorem sc__law_ground:FnScope N__law_ground P__law_ground (defScope s__law_ground):=⟨rfl,rfl,rfl,by decide +kernel,rfl,by decide +kernel,by decide +kernel⟩
abbrev s__law_shape:Stmt:=(top 36)
abbrev N__law_shape:List Str:= ["_law_ground_here"]
abbrev P__law_shape:List Str:= ["_law_ground_here"]
theorem st__law_shape (a0:D):startD N__law_shape [a0]= [some a0]:=rfl
theorem sc__law_shape:FnScope N__law_shape P__law_shape (defScope s__law_shape):=⟨rfl,rfl,rfl,by decide +kernel,rfl,by decide +kernel,by decide +kernel⟩
abbrev s__law_row:Stmt:=(top 37)
abbrev N__law_row:List Str:= ["_law_bag","_law_ground_here","_law_moment","_law_values","_law_name"]
abbrev P__law_row:List Str:= ["_law_bag","_law_ground_here","_law_moment"]
theorem st__law_row (a0:D) (a1:D) (a2:D):startD N__law_row [a0,a1,a2]= [some a0,some a1,some a2,none,none]:=rfl
theorem sc__law_row:FnScope N__law_row P__law_row (defScope s__law_row):=⟨rfl,rfl,rfl,by decide +kernel,rfl,by decide +kernel,by decide +kernel⟩
abbrev s__law_rows:Stmt:=(top 38)
abbrev N__law_rows:List Str:= ["_law_bag","_law_ground_here","_law_many","_law_moment","_law_found","_law_k"]
abbrev P__law_rows:List Str:= ["_law_bag","_law_ground_here","_law_many"]
theorem st__law_rows (a0:D) (a1:D) (a2:D):startD N__law_rows [a0,a1,a2]= [some a0,some a1,some a2,none,none,none]:=rfl
theorem sc__law_rows:FnScope N__law_rows P__law_rows (defScope s__law_rows):=⟨rfl,rfl,rfl,by decide +kernel,rfl,by decide +kernel,by decide +kernel⟩
abbrev s__law_tree:Stmt:=(top 39)
abbrev N__law_tree:List Str:= ["_law_bag","_law_items","_law_left","_law_at"]
abbrev P__law_tree:List Str:= ["_law_bag","_law_items"]
theorem st__law_tree (a0:D) (a1:D):startD N__law_tree [a0,a1]= [some a0,some a1,none,none]:=rfl
theorem sc__law_tree:FnScope N__law_tree P__law_tree (defScope s__law_tree):=⟨rfl,rfl,rfl,by decide +kernel,rfl,by decide +kernel,by decide +kernel⟩
abbrev s__law_turned:Stmt:=(top 40)
abbrev N__law_turned:List Str:= ["_law_tree_z"]
abbrev P__law_turned:List Str:= ["_law_tree_z"]
theorem st__law_turned (a0:D):startD N__law_turned [a0]= [some a0]:=rfl
theorem sc__law_turned:FnScope N__law_turned P__law_turned (defScope s__law_turned):=⟨rfl,rfl,rfl,by decide +kernel,rfl,by decide +kernel,by decide +kernel⟩
abbrev s_law:Stmt:=(top 41)
abbrev N_law:List Str:= ["_law_script","_law_bag","_law_ground_here","_law_shape_here","_law_turn","_law_rows_here","_law_tree_z","_law_row_here","_law_due","_law_chain","_law_one","_law_first","_law_late","_law_bad","_law_asked"]
abbrev P_law:List Str:= ["_law_script"]
theorem st_law (a0:D):startD N_law [a0]= [some a0,none,none,none,none,none,none,none,none,none,none,none,none,none,none]:=rfl
theorem sc_law:FnScope N_law P_law (defScope s_law):=⟨rfl,rfl,rfl,by decide +kernel,rfl,by decide +kernel,by decide +kernel⟩
abbrev s_InvalidRow___init__:Stmt:=(inClass (top 15) 0)
theorem ns_InvalidRow:NdefX.NScope ["self","given","__class__"] ["self","given"] ["__class__"] (defScope s_InvalidRow___init__):=NdefX.nscope_by (by decide +kernel)
abbrev s_InvalidPile___init__:Stmt:=(inClass (top 16) 0)
theorem ns_InvalidPile:NdefX.NScope ["self","__class__"] ["self"] ["__class__"] (defScope s_InvalidPile___init__):=NdefX.nscope_by (by decide +kernel)
abbrev s_InvalidTree___init__:Stmt:=(inClass (top 17) 0)
theorem ns_InvalidTree:NdefX.NScope ["self","__class__"] ["self"] ["__class__"] (defScope s_InvalidTree___init__):=NdefX.nscope_by (by decide +kernel)
abbrev s__law_try:Stmt:=(top 32)
abbrev N__law_try:List Str:= ["_law_ask","_law_e"]
abbrev P__law_try:List Str:= ["_law_ask"]
theorem sc__law_try:FnScope N__law_try P__law_try (defScope s__law_try):=⟨rfl,rfl,rfl,by decide +kernel,rfl,by decide +kernel,by decide +kernel⟩
structure Ad where
 f_is_number:Addr
 f_is_listed:Addr
 f_is_made_of:Addr
 f_is_plain_name:Addr
 f_is_plain_word:Addr
 f_unlike:Addr
 f_are_names:Addr
 f_leaves:Addr
 f_Shape___init__:Addr
 f_Shape_columns:Addr
 f_Shape_is_row:Addr
 f_Shape_is_pile:Addr
 f_Shape_is_tree:Addr
 f_Shape_need_row:Addr
 f_Shape_need_pile:Addr
 f_Shape_need_tree:Addr
 f_Shape_sheet:Addr
 f_Shape_rows_in:Addr
 f_turned_pair:Addr
 f_Shape_turned:Addr
 f_Shape_chain:Addr
 f__law_opened:Addr
 f__law_pull:Addr
 f__law_any:Addr
 f__law_mixed:Addr
 f__law_like:Addr
 f__law_field:Addr
 f__law_stems:Addr
 f__law_words:Addr
 f__law_ground:Addr
 f__law_shape:Addr
 f__law_row:Addr
 f__law_rows:Addr
 f__law_tree:Addr
 f__law_turned:Addr
 f_law:Addr
 c_Shape:Addr
 q_Shape_columns:Addr
 c_InvalidRow:Addr
 f_InvalidRow___init__:Addr
 c_InvalidPile:Addr
 f_InvalidPile___init__:Addr
 c_InvalidTree:Addr
 f_InvalidTree___init__:Addr
 f__law_try:Addr
 c_SightError:Addr
 c_Missing:Addr
 c_NothingLeft:Addr
 lc:Addr
 lt:Addr
def xcs (A:Ad):List Value:= [.ref A.c_SightError, .ref A.c_Missing, .ref A.c_NothingLeft]
def xt (A:Ad):List XRow:= [(A.c_InvalidRow,"InvalidRow", ["given"]),(A.c_InvalidPile,"InvalidPile", []),(A.c_InvalidTree,"InvalidTree", [])]
abbrev lamq:Str:=(("law":Str) ++ ".<locals>.") ++ "<lambda>"
structure Txt (P:Program) (K:PySem.W.Frag) (mg:Str→Option Value) (A:Ad):Prop where
 n_all:mg "all"=none
 n_any:mg "any"=none
 n_bool:mg "bool"=none
 n_dict:mg "dict"=none
 n_int:mg "int"=none
 n_isinstance:mg "isinstance"=none
 n_len:mg "len"=none
 n_list:mg "list"=none
 n_range:mg "range"=none
 n_set:mg "set"=none
 n_str:mg "str"=none
 n_tuple:mg "tuple"=none
 n_zip:mg "zip"=none
 k_DIGITS:GK K mg "DIGITS" k_DIGITS
 k_LETTERS:GK K mg "LETTERS" k_LETTERS
 k_MAX_WORD:GK K mg "MAX_WORD" k_MAX_WORD
 k_OWN_COLUMNS:GK K mg "OWN_COLUMNS" k_OWN_COLUMNS
 g_is_number:mg "is_number"=some (.ref A.f_is_number)
 d_is_number:DefAt K "is_number" "is_number" s_is_number P_is_number A.f_is_number
 g_is_listed:mg "is_listed"=some (.ref A.f_is_listed)
 d_is_listed:DefAt K "is_listed" "is_listed" s_is_listed P_is_listed A.f_is_listed
 g_is_made_of:mg "is_made_of"=some (.ref A.f_is_made_of)
 d_is_made_of:DefAt K "is_made_of" "is_made_of" s_is_made_of P_is_made_of A.f_is_made_of
 g_is_plain_name:mg "is_plain_name"=some (.ref A.f_is_plain_name)
 d_is_plain_name:DefAt K "is_plain_name" "is_plain_name" s_is_plain_name P_is_plain_name A.f_is_plain_name
 g_is_plain_word:mg "is_plain_word"=some (.ref A.f_is_plain_word)
 d_is_plain_word:DefAt K "is_plain_word" "is_plain_word" s_is_plain_word P_is_plain_word A.f_is_plain_word
 g_unlike:mg "unlike"=some (.ref A.f_unlike)
 d_unlike:DefAt K "unlike" "unlike" s_unlike P_unlike A.f_unlike
 g_are_names:mg "are_names"=some (.ref A.f_are_names)
 d_are_names:DefAt K "are_names" "are_names" s_are_names P_are_names A.f_are_names
 g_leaves:mg "leaves"=some (.ref A.f_leaves)
 d_leaves:DefAt K "leaves" "leaves" s_leaves P_leaves A.f_leaves
 d_Shape___init__:DefAt K "__init__" "Shape.__init__" s_Shape___init__ P_Shape___init__ A.f_Shape___init__
 d_Shape_columns:DefAt K "columns" "Shape.columns" s_Shape_columns P_Shape_columns A.f_Shape_columns
 d_Shape_is_row:DefAt K "is_row" "Shape.is_row" s_Shape_is_row P_Shape_is_row A.f_Shape_is_row
 d_Shape_is_pile:DefAt K "is_pile" "Shape.is_pile" s_Shape_is_pile P_Shape_is_pile A.f_Shape_is_pile
 d_Shape_is_tree:DefAt K "is_tree" "Shape.is_tree" s_Shape_is_tree P_Shape_is_tree A.f_Shape_is_tree
 d_Shape_need_row:DefAt K "need_row" "Shape.need_row" s_Shape_need_row P_Shape_need_row A.f_Shape_need_row
 d_Shape_need_pile:DefAt K "need_pile" "Shape.need_pile" s_Shape_need_pile P_Shape_need_pile A.f_Shape_need_pile
 d_Shape_need_tree:DefAt K "need_tree" "Shape.need_tree" s_Shape_need_tree P_Shape_need_tree A.f_Shape_need_tree
 d_Shape_sheet:DefAt K "sheet" "Shape.sheet" s_Shape_sheet P_Shape_sheet A.f_Shape_sheet
 d_Shape_rows_in:DefAt K "rows_in" "Shape.rows_in" s_Shape_rows_in P_Shape_rows_in A.f_Shape_rows_in
 g_turned_pair:mg "turned_pair"=some (.ref A.f_turned_pair)
 d_turned_pair:DefAt K "turned_pair" "turned_pair" s_turned_pair P_turned_pair A.f_turned_pair
 d_Shape_turned:DefAt K "turned" "Shape.turned" s_Shape_turned P_Shape_turned A.f_Shape_turned
 d_Shape_chain:DefAt K "chain" "Shape.chain" s_Shape_chain P_Shape_chain A.f_Shape_chain
 g__law_opened:mg "_law_opened"=some (.ref A.f__law_opened)
 d__law_opened:DefAt K "_law_opened" "_law_opened" s__law_opened P__law_opened A.f__law_opened
 g__law_pull:mg "_law_pull"=some (.ref A.f__law_pull)
 d__law_pull:DefAt K "_law_pull" "_law_pull" s__law_pull P__law_pull A.f__law_pull
 g__law_any:mg "_law_any"=some (.ref A.f__law_any)
 d__law_any:DefAt K "_law_any" "_law_any" s__law_any P__law_any A.f__law_any
 g__law_mixed:mg "_law_mixed"=some (.ref A.f__law_mixed)
 d__law_mixed:DefAt K "_law_mixed" "_law_mixed" s__law_mixed P__law_mixed A.f__law_mixed
 g__law_like:mg "_law_like"=some (.ref A.f__law_like)
 d__law_like:DefAt K "_law_like" "_law_like" s__law_like P__law_like A.f__law_like
 g__law_field:mg "_law_field"=some (.ref A.f__law_field)
 d__law_field:DefAt K "_law_field" "_law_field" s__law_field P__law_field A.f__law_field
 g__law_stems:mg "_law_stems"=some (.ref A.f__law_stems)
 d__law_stems:DefAt K "_law_stems" "_law_stems" s__law_stems P__law_stems A.f__law_stems
 g__law_words:mg "_law_words"=some (.ref A.f__law_words)
 d__law_words:DefAt K "_law_words" "_law_words" s__law_words P__law_words A.f__law_words
 g__law_ground:mg "_law_ground"=some (.ref A.f__law_ground)
 d__law_ground:DefAt K "_law_ground" "_law_ground" s__law_ground P__law_ground A.f__law_ground
 g__law_shape:mg "_law_shape"=some (.ref A.f__law_shape)
 d__law_shape:DefAt K "_law_shape" "_law_shape" s__law_shape P__law_shape A.f__law_shape
 g__law_row:mg "_law_row"=some (.ref A.f__law_row)
 d__law_row:DefAt K "_law_row" "_law_row" s__law_row P__law_row A.f__law_row
 g__law_rows:mg "_law_rows"=some (.ref A.f__law_rows)
 d__law_rows:DefAt K "_law_rows" "_law_rows" s__law_rows P__law_rows A.f__law_rows
 g__law_tree:mg "_law_tree"=some (.ref A.f__law_tree)
 d__law_tree:DefAt K "_law_tree" "_law_tree" s__law_tree P__law_tree A.f__law_tree
 g__law_turned:mg "_law_turned"=some (.ref A.f__law_turned)
 d__law_turned:DefAt K "_law_turned" "_law_turned" s__law_turned P__law_turned A.f__law_turned
 g_law:mg "law"=some (.ref A.f_law)
 d_law:DefAt K "law" "law" s_law P_law A.f_law
 no_InvalidTree:PySem.W.subIn K (.ref A.c_InvalidTree) (.type "StopIteration")=some false
 g_Shape:mg "Shape"=some (.ref A.c_Shape)
 cl_Shape:Cls K A.c_Shape
 na_Shape_own_fields:NoAttr K A.c_Shape "own_fields"
 na_Shape_own_sources:NoAttr K A.c_Shape "own_sources"
 mk_Shape:Mk K A.c_Shape A.f_Shape___init__
 m_Shape_is_row:Meth K A.c_Shape "is_row" A.f_Shape_is_row
 m_Shape_is_pile:Meth K A.c_Shape "is_pile" A.f_Shape_is_pile
 m_Shape_is_tree:Meth K A.c_Shape "is_tree" A.f_Shape_is_tree
 m_Shape_need_row:Meth K A.c_Shape "need_row" A.f_Shape_need_row
 m_Shape_need_pile:Meth K A.c_Shape "need_pile" A.f_Shape_need_pile
 m_Shape_need_tree:Meth K A.c_Shape "need_tree" A.f_Shape_need_tree
 m_Shape_sheet:Meth K A.c_Shape "sheet" A.f_Shape_sheet
 m_Shape_rows_in:Meth K A.c_Shape "rows_in" A.f_Shape_rows_in
 m_Shape_turned:Meth K A.c_Shape "turned" A.f_Shape_turned
 m_Shape_chain:Meth K A.c_Shape "chain" A.f_Shape_chain
 p_Shape_columns:PropOf K A.c_Shape "columns" A.q_Shape_columns A.f_Shape_columns
 cv_Shape_FIELDS:CVk K A.c_Shape "FIELDS" (.int 5)
 cv_Shape_SOURCES:CVk K A.c_Shape "SOURCES" (.int 5)
 n_super:mg "super"=none
 g_InvalidRow:mg "InvalidRow"=some (.ref A.c_InvalidRow)
 x_InvalidRow:ExC P K "InvalidRow.__init__" s_InvalidRow___init__ A.c_InvalidRow A.f_InvalidRow___init__
 nf_InvalidRow_given:PySem.W.findIn K (.ref A.c_InvalidRow) "given"=some none
 nf_InvalidRow_tag:PySem.W.findIn K (.ref A.c_InvalidRow) "tag"=some none
 g_InvalidPile:mg "InvalidPile"=some (.ref A.c_InvalidPile)
 x_InvalidPile:ExC P K "InvalidPile.__init__" s_InvalidPile___init__ A.c_InvalidPile A.f_InvalidPile___init__
 nf_InvalidPile_tag:PySem.W.findIn K (.ref A.c_InvalidPile) "tag"=some none
 g_InvalidTree:mg "InvalidTree"=some (.ref A.c_InvalidTree)
 x_InvalidTree:ExC P K "InvalidTree.__init__" s_InvalidTree___init__ A.c_InvalidTree A.f_InvalidTree___init__
 nf_InvalidTree_tag:PySem.W.findIn K (.ref A.c_InvalidTree) "tag"=some none
 g_SightError:mg "SightError"=some (.ref A.c_SightError)
 g_Missing:mg "Missing"=some (.ref A.c_Missing)
 g_NothingLeft:mg "NothingLeft"=some (.ref A.c_NothingLeft)
 xm_InvalidRow:PySem.W.exmAny K (.ref A.c_InvalidRow) (xcs A)=some true
 xm_InvalidPile:PySem.W.exmAny K (.ref A.c_InvalidPile) (xcs A)=some true
 xm_InvalidTree:PySem.W.exmAny K (.ref A.c_InvalidTree) (xcs A)=some true
 g__law_try:mg "_law_try"=some (.ref A.f__law_try)
 d__law_try:DefAt K "_law_try" "_law_try" s__law_try P__law_try A.f__law_try
theorem xj_InvalidRow {P:Program} {w:World} {K:PySem.W.Frag} {mg:Str→Option Value} {base:Heap} {A:Ad} (T:Txt P K mg A):XJ P w K mg base A.c_InvalidRow A.f_InvalidRow___init__ ["given"] "InvalidRow":=
 exc_1 T.x_InvalidRow T.nf_InvalidRow_given T.nf_InvalidRow_tag ns_InvalidRow T.n_super rfl rfl (fun _ _ _=>⟨⟨_,rfl⟩,rfl,rfl⟩) rfl rfl (fun _ _ _ _ _ _ _ us h=>match us,h with | [_,_],_=>rfl) (by decide) (by decide)
theorem xj_InvalidPile {P:Program} {w:World} {K:PySem.W.Frag} {mg:Str→Option Value} {base:Heap} {A:Ad} (T:Txt P K mg A):XJ P w K mg base A.c_InvalidPile A.f_InvalidPile___init__ [] "InvalidPile":=
 exc_0 T.x_InvalidPile T.nf_InvalidPile_tag ns_InvalidPile T.n_super rfl rfl (fun _ _ _=>⟨⟨_,rfl⟩,rfl,rfl⟩) rfl rfl (fun _ _ _ _ _ _ _ us h=>match us,h with | [_],_=>rfl)
theorem xj_InvalidTree {P:Program} {w:World} {K:PySem.W.Frag} {mg:Str→Option Value} {base:Heap} {A:Ad} (T:Txt P K mg A):XJ P w K mg base A.c_InvalidTree A.f_InvalidTree___init__ [] "InvalidTree":=
 exc_0 T.x_InvalidTree T.nf_InvalidTree_tag ns_InvalidTree T.n_super rfl rfl (fun _ _ _=>⟨⟨_,rfl⟩,rfl,rfl⟩) rfl rfl (fun _ _ _ _ _ _ _ us h=>match us,h with | [_],_=>rfl)
theorem xt_ok {P:Program} {K:PySem.W.Frag} {mg:Str→Option Value} {A:Ad} (T:Txt P K mg A):∀r∈xt A,XCls K (xcs A) r.1:=by
 intro r h
 simp only [xt,List.mem_cons,List.not_mem_nil,or_false] at h
 rcases h with rfl | rfl | rfl
 ·exact ⟨T.xm_InvalidRow,T.x_InvalidRow.xf,T.nf_InvalidRow_tag⟩
 ·exact ⟨T.xm_InvalidPile,T.x_InvalidPile.xf,T.nf_InvalidPile_tag⟩
 ·exact ⟨T.xm_InvalidTree,T.x_InvalidTree.xf,T.nf_InvalidTree_tag⟩
def pl:D→Bool
 | .ref _=>false
 | .ins _ _ _=>false
 | .ty _=>false
 | .scr _=>false
 | .tpn _=>false
 | .exc _ _ _ _ _=>false
 | .dtt _ _=>false
 | _=>true
def isNum:D→Bool
 | .int _=>true
 | _=>false
def isSeq:D→Bool
 | .tup _=>true
 | .lst _=>true
 | _=>false
def sp_is_number (A:Ad):SpD:=fun ds M Q _=>∃d,ds= [d]∧pl d=true∧Q (.bl (isNum d)) M
def wb_is_number (A:Ad):WS:=
 (wRet (wAndV (wCB rIsD (wCons (wVar 0) (wCons (wC (.ty "int")) wNil))) (wNotV (wCB rIsD (wCons (wVar 0) (wCons (wC (.ty "bool")) wNil))))))
theorem bd_is_number {P:Program} {w:World} {K:PySem.W.Frag} {mg:Str→Option Value} {base:Heap} {A:Ad} (T:Txt P K mg A) (cdv:Value) (R:Around) (outer:List Env) (s:Shared) (H:Hp) (E:XK) (hr:Room 0 (R.deeper (envOfC "is_number" (defScope s_is_number) s.heap.objs.size A.f_is_number cdv)))
  (tk:Takes (cxOf (L2.CX P w) P w K mg base N_is_number "is_number" (defScope s_is_number) A.f_is_number cdv R outer s H E) (WD E)):JSs (cxOf (L2.CX P w) P w K mg base N_is_number "is_number" (defScope s_is_number) A.f_is_number cdv R outer s H E) (WD E) (defBody s_is_number) (wb_is_number A):=
 (js_one (js_ret (j_and (j_callB cd_isi T.n_isinstance bo_isinstance (j_cons (jv 0) (j_cons (j_bltn T.n_int bo_int) j_nil))) (j_one (j_not (j_callB cd_isi T.n_isinstance bo_isinstance (j_cons (jv 0) (j_cons (j_bltn T.n_bool bo_bool) j_nil))))))))
theorem rd_is_number (A:Ad):∀ds M Q Xc,sp_is_number A ds M Q Xc→ds.length=P_is_number.length∧wb_is_number A {nx:=fun _ M=>Fin Q .non M,rt:=Fin Q,ex:=fun x _ M=>Xc x M} (startD N_is_number ds) M:=by
 rintro _ M Q Xc ⟨d,rfl,hp,q⟩
 refine ⟨rfl,?_⟩
 rw [st_is_number]
 cases d <;> try exact absurd hp Bool.false_ne_true
 all_goals simp only [wb_is_number,↓pLcUO,↓pSrtSetO,↓pLstV,↓lvK_dct,↓pMakeD,↓rLenO_p,↓pOrX,↓rIsM_p,↓rMinL_p,↓rMax_p,↓rOr2_p,↓rOrs_p,↓pMakeKD,↓pDcU,↓zR,↓reduceIte,zV,wipeD]
 all_goals exact fin_of q
theorem ok_is_number {P:Program} {w:World} {K:PySem.W.Frag} {mg:Str→Option Value} {base:Heap} {A:Ad} (T:Txt P K mg A):FnJ P w K mg base 1 A.f_is_number (sp_is_number A):=
 FnJ.mkAt T.d_is_number sc_is_number (fun cdv R outer s H E hr tk=>bd_is_number T cdv R outer s H E hr tk) (rd_is_number A)
def sp_is_listed (A:Ad):SpD:=fun ds M Q _=>∃d,ds= [d]∧pl d=true∧Q (.bl (isSeq d)) M
def wb_is_listed (A:Ad):WS:=
 (wRet (wIsT ["list","tuple"] (wVar 0)))
theorem bd_is_listed {P:Program} {w:World} {K:PySem.W.Frag} {mg:Str→Option Value} {base:Heap} {A:Ad} (T:Txt P K mg A) (cdv:Value) (R:Around) (outer:List Env) (s:Shared) (H:Hp) (E:XK) (hr:Room 0 (R.deeper (envOfC "is_listed" (defScope s_is_listed) s.heap.objs.size A.f_is_listed cdv)))
  (tk:Takes (cxOf (L2.CX P w) P w K mg base N_is_listed "is_listed" (defScope s_is_listed) A.f_is_listed cdv R outer s H E) (WD E)):JSs (cxOf (L2.CX P w) P w K mg base N_is_listed "is_listed" (defScope s_is_listed) A.f_is_listed cdv R outer s H E) (WD E) (defBody s_is_listed) (wb_is_listed A):=
 (js_one (js_ret (j_isiT T.n_isinstance (jv 0) (pcs_cons (pe_bltn rfl T.n_list bo_list rfl) (pcs_cons (pe_bltn rfl T.n_tuple bo_tuple rfl) pcs_nil)))))
theorem rd_is_listed (A:Ad):∀ds M Q Xc,sp_is_listed A ds M Q Xc→ds.length=P_is_listed.length∧wb_is_listed A {nx:=fun _ M=>Fin Q .non M,rt:=Fin Q,ex:=fun x _ M=>Xc x M} (startD N_is_listed ds) M:=by
 rintro _ M Q Xc ⟨d,rfl,hp,q⟩
 refine ⟨rfl,?_⟩
 rw [st_is_listed]
 cases d <;> try exact absurd hp Bool.false_ne_true
 all_goals simp only [wb_is_listed,↓pLcUO,↓pSrtSetO,↓pLstV,↓lvK_dct,↓pMakeD,↓rLenO_p,↓pOrX,↓rIsM_p,↓rMinL_p,↓rMax_p,↓rOr2_p,↓rOrs_p,↓pMakeKD,↓pDcU,↓zR,↓reduceIte,zV,wipeD]
 all_goals exact fin_of q
theorem ok_is_listed {P:Program} {w:World} {K:PySem.W.Frag} {mg:Str→Option Value} {base:Heap} {A:Ad} (T:Txt P K mg A):FnJ P w K mg base 1 A.f_is_listed (sp_is_listed A):=
 FnJ.mkAt T.d_is_listed sc_is_listed (fun cdv R outer s H E hr tk=>bd_is_listed T cdv R outer s H E hr tk) (rd_is_listed A)
def allIn (x sg:Str):Bool:=x.cps.toList.all fun c=>decide (c∈sg.cps.toList)
def madeOf (sg:Str) (m:Int):D→Bool
 | .str x=>decide ((1:Int)≤x.length) && (decide ((x.length:Int)≤m) && allIn x sg)
 | _=>false
def short:D→Prop
 | .str x=>x.length < 90000
 | .lst xs=>xs.length < 3000
 | .tup xs=>xs.length < 3000
 | _=>True
def sp_is_made_of (A:Ad):SpD:=fun ds M Q _=>∃d sg m,ds= [d, .str sg, .int m]∧pl d=true∧short d∧Q (.bl (madeOf sg m d)) M
def wb_is_made_of (A:Ad):WS:=
 (wRet (wAndV (wCB rIsD (wCons (wVar 0) (wCons (wC (.ty "str")) wNil))) (wAndV (wChain (rInt0D fun i j=> .bl (decide (i≤j))) (rInt0D fun i j=> .bl (decide (i≤j))) (wC (.int 1)) (wCB rLenD (wCons (wVar 0) wNil)) (wVar 2)) (wCB (rAllD false) (wCons (wLc (wiStr (wVar 0)) (gN 3) wYes (wOp (rInD false) (wVar 3) (wVar 1)) [3]) wNil)))))
theorem bd_is_made_of {P:Program} {w:World} {K:PySem.W.Frag} {mg:Str→Option Value} {base:Heap} {A:Ad} (T:Txt P K mg A) (cdv:Value) (R:Around) (outer:List Env) (s:Shared) (H:Hp) (E:XK) (hr:Room 0 (R.deeper (envOfC "is_made_of" (defScope s_is_made_of) s.heap.objs.size A.f_is_made_of cdv)))
  (tk:Takes (cxOf (L2.CX P w) P w K mg base N_is_made_of "is_made_of" (defScope s_is_made_of) A.f_is_made_of cdv R outer s H E) (WD E)):JSs (cxOf (L2.CX P w) P w K mg base N_is_made_of "is_made_of" (defScope s_is_made_of) A.f_is_made_of cdv R outer s H E) (WD E) (defBody s_is_made_of) (wb_is_made_of A):=
 (js_one (js_ret (j_and (j_callB cd_isi T.n_isinstance bo_isinstance (j_cons (jv 0) (j_cons (j_bltn T.n_str bo_str) j_nil))) (j_and (j_chain od_le od_le j_int (j_callB cd_len T.n_len bo_len (j_cons (jv 0) j_nil)) (jv 2)) (j_one (j_callB (cd_all rfl) T.n_all bo_all (j_cons (j_lc (own:= [("sign",3)]) rfl sc_is_made_of.nd (ji_str (jv 0)) (blkOk_by (own:= [("sign",3)]) (N:=N_is_made_of) (sc:=defScope s_is_made_of) (by decide +kernel)) (fun _ _ _ _ _=>(jg_name (i:=3) sc_is_made_of.nd)) (fun _ _ _ _ _=>jts_nil) (fun _ _ _ _ _=>(j_cmp od_in (jv 3) (jv 1)))) j_nil)))))))
theorem rd_is_made_of (A:Ad):∀ds M Q Xc,sp_is_made_of A ds M Q Xc→ds.length=P_is_made_of.length∧wb_is_made_of A {nx:=fun _ M=>Fin Q .non M,rt:=Fin Q,ex:=fun x _ M=>Xc x M} (startD N_is_made_of ds) M:=by
 rintro _ M Q Xc ⟨d,sg,m,rfl,hp,hl,q⟩
 refine ⟨rfl,?_⟩
 rw [st_is_made_of]
 cases d <;> try exact absurd hp Bool.false_ne_true
 case str x=>
  have hx:x.length < 90000:=hl
  have:=sizeLine_big
  simp only [wb_is_made_of,↓pLcUO,↓pSrtSetO,↓pLstV,↓lvK_dct,↓pMakeD,↓rLenO_p,↓pOrX,↓rIsM_p,↓rMinL_p,↓rMax_p,↓rOr2_p,↓rOrs_p,↓pMakeKD,↓pDcU,↓zR,↓reduceIte,zV,wipeD]
  refine ⟨by omega,?_⟩
  have e:madeOf sg m (.str x)=(decide ((1:Int)≤x.length) && (decide ((x.length:Int)≤m) && allIn x sg)):=rfl
  rw [e] at q
  by_cases h1:(1:Int)≤x.length
  ·by_cases h2:(x.length:Int)≤m
   ·simp only [h1,h2,decide_true,↓reduceIte,Bool.true_and] at q ⊢
    have hz:x.cps.toList.length=x.length:=Array.length_toList
    refine lcR_mapL (fun c=> .str ⟨#[c]⟩) (fun c=> .bl (decide (c∈sg.cps.toList))) (fun _=>True) (fun c acc R _ h=>?_) x.cps.toList [] (fun _ _=>trivial) (by rw [hz];simp only [List.length_nil];omega) ?_
    ·simp only [↓pLcUO,↓pSrtSetO,↓pLstV,↓lvK_dct,↓pMakeD,↓rLenO_p,↓pOrX,↓rIsM_p,↓rMinL_p,↓rMax_p,↓rOr2_p,↓rOrs_p,↓pMakeKD,↓pDcU,↓zR,↓reduceIte,zV,wipeD,rInD,oneSign]
     exact h
    ·rw [List.nil_append]
     simp only [rAllD,bools_map,optK,Bool.false_eq_true,↓reduceIte]
     rw [List.all_map]
     exact fin_of q
   ·simp only [h1,h2,decide_true,decide_false,↓reduceIte,Bool.true_and,Bool.false_and,Bool.false_eq_true] at q ⊢
    exact fin_of q
  ·simp only [h1,decide_false,↓reduceIte,Bool.false_and,Bool.false_eq_true] at q ⊢
   exact fin_of q
 all_goals simp only [wb_is_made_of,↓pLcUO,↓pSrtSetO,↓pLstV,↓lvK_dct,↓pMakeD,↓rLenO_p,↓pOrX,↓rIsM_p,↓rMinL_p,↓rMax_p,↓rOr2_p,↓rOrs_p,↓pMakeKD,↓pDcU,↓zR,↓reduceIte,zV,wipeD]
 all_goals exact fin_of q
theorem ok_is_made_of {P:Program} {w:World} {K:PySem.W.Frag} {mg:Str→Option Value} {base:Heap} {A:Ad} (T:Txt P K mg A):FnJ P w K mg base 1 A.f_is_made_of (sp_is_made_of A):=
 FnJ.mkAt T.d_is_made_of sc_is_made_of (fun cdv R outer s H E hr tk=>bd_is_made_of T cdv R outer s H E hr tk) (rd_is_made_of A)
def LET:Str:="abcdefghijklmnopqrstuvwxyz"
def L36:Str:=("abcdefghijklmnopqrstuvwxyz":Str) ++ ("0123456789":Str)
def sp_is_plain_name (A:Ad):SpD:=fun ds M Q _=>∃d,ds= [d]∧pl d=true∧short d∧Q (.bl (madeOf LET 8 d)) M
def wb_is_plain_name (A:Ad):WS:=
 (wRet (wCall (sp_is_made_of A) (wCons (wVar 0) (wCons (wC k_LETTERS) (wCons (wC k_MAX_WORD) wNil)))))
theorem bd_is_plain_name {P:Program} {w:World} {K:PySem.W.Frag} {mg:Str→Option Value} {base:Heap} {A:Ad} (T:Txt P K mg A) (cdv:Value) (R:Around) (outer:List Env) (s:Shared) (H:Hp) (E:XK) (hr:Room 1 (R.deeper (envOfC "is_plain_name" (defScope s_is_plain_name) s.heap.objs.size A.f_is_plain_name cdv)))
  (tk:Takes (cxOf (L2.CX P w) P w K mg base N_is_plain_name "is_plain_name" (defScope s_is_plain_name) A.f_is_plain_name cdv R outer s H E) (WD E)):JSs (cxOf (L2.CX P w) P w K mg base N_is_plain_name "is_plain_name" (defScope s_is_plain_name) A.f_is_plain_name cdv R outer s H E) (WD E) (defBody s_is_plain_name) (wb_is_plain_name A):=
 (js_one (js_ret (j_call (ok_is_made_of T) hr (by decide) T.g_is_made_of tk (j_cons (jv 0) (j_cons (j_k T.k_LETTERS) (j_cons (j_k T.k_MAX_WORD) j_nil))))))
theorem rd_is_plain_name (A:Ad):∀ds M Q Xc,sp_is_plain_name A ds M Q Xc→ds.length=P_is_plain_name.length∧wb_is_plain_name A {nx:=fun _ M=>Fin Q .non M,rt:=Fin Q,ex:=fun x _ M=>Xc x M} (startD N_is_plain_name ds) M:=by
 rintro _ M Q Xc ⟨d,rfl,hp,hl,q⟩
 refine ⟨rfl,?_⟩
 rw [st_is_plain_name]
 simp only [wb_is_plain_name,↓pLcUO,↓pSrtSetO,↓pLstV,↓lvK_dct,↓pMakeD,↓rLenO_p,↓pOrX,↓rIsM_p,↓rMinL_p,↓rMax_p,↓rOr2_p,↓rOrs_p,↓pMakeKD,↓pDcU,↓zR,↓reduceIte,zV,wipeD]
 exact ⟨d,LET,8,rfl,hp,hl,fin_of q⟩
theorem ok_is_plain_name {P:Program} {w:World} {K:PySem.W.Frag} {mg:Str→Option Value} {base:Heap} {A:Ad} (T:Txt P K mg A):FnJ P w K mg base 2 A.f_is_plain_name (sp_is_plain_name A):=
 FnJ.mkAt T.d_is_plain_name sc_is_plain_name (fun cdv R outer s H E hr tk=>bd_is_plain_name T cdv R outer s H E hr tk) (rd_is_plain_name A)
def sp_is_plain_word (A:Ad):SpD:=fun ds M Q _=>∃d,ds= [d]∧pl d=true∧short d∧Q (.bl (madeOf L36 8 d)) M
def wb_is_plain_word (A:Ad):WS:=
 (wRet (wCall (sp_is_made_of A) (wCons (wVar 0) (wCons (wOp rAddD (wC k_LETTERS) (wC k_DIGITS)) (wCons (wC k_MAX_WORD) wNil)))))
theorem bd_is_plain_word {P:Program} {w:World} {K:PySem.W.Frag} {mg:Str→Option Value} {base:Heap} {A:Ad} (T:Txt P K mg A) (cdv:Value) (R:Around) (outer:List Env) (s:Shared) (H:Hp) (E:XK) (hr:Room 1 (R.deeper (envOfC "is_plain_word" (defScope s_is_plain_word) s.heap.objs.size A.f_is_plain_word cdv)))
  (tk:Takes (cxOf (L2.CX P w) P w K mg base N_is_plain_word "is_plain_word" (defScope s_is_plain_word) A.f_is_plain_word cdv R outer s H E) (WD E)):JSs (cxOf (L2.CX P w) P w K mg base N_is_plain_word "is_plain_word" (defScope s_is_plain_word) A.f_is_plain_word cdv R outer s H E) (WD E) (defBody s_is_plain_word) (wb_is_plain_word A):=
 (js_one (js_ret (j_call (ok_is_made_of T) hr (by decide) T.g_is_made_of tk (j_cons (jv 0) (j_cons (j_op od_add (j_k T.k_LETTERS) (j_k T.k_DIGITS)) (j_cons (j_k T.k_MAX_WORD) j_nil))))))
theorem rd_is_plain_word (A:Ad):∀ds M Q Xc,sp_is_plain_word A ds M Q Xc→ds.length=P_is_plain_word.length∧wb_is_plain_word A {nx:=fun _ M=>Fin Q .non M,rt:=Fin Q,ex:=fun x _ M=>Xc x M} (startD N_is_plain_word ds) M:=by
 rintro _ M Q Xc ⟨d,rfl,hp,hl,q⟩
 refine ⟨rfl,?_⟩
 rw [st_is_plain_word]
 simp only [wb_is_plain_word,↓pLcUO,↓pSrtSetO,↓pLstV,↓lvK_dct,↓pMakeD,↓rLenO_p,↓pOrX,↓rIsM_p,↓rMinL_p,↓rMax_p,↓rOr2_p,↓rOrs_p,↓pMakeKD,↓pDcU,↓zR,↓reduceIte,zV,wipeD,k_LETTERS,k_DIGITS]
 exact ⟨by decide +kernel,d,L36,8,rfl,hp,hl,fin_of q⟩
theorem ok_is_plain_word {P:Program} {w:World} {K:PySem.W.Frag} {mg:Str→Option Value} {base:Heap} {A:Ad} (T:Txt P K mg A):FnJ P w K mg base 2 A.f_is_plain_word (sp_is_plain_word A):=
 FnJ.mkAt T.d_is_plain_word sc_is_plain_word (fun cdv R outer s H E hr tk=>bd_is_plain_word T cdv R outer s H E hr tk) (rd_is_plain_word A)
def dist (ks:List Key):Bool:=decide ((metK ks ks.length).length=ks.length)
theorem dist_iff {ks:List Key}:dist ks=true↔ks.Nodup:=by
 unfold dist
 rw [decide_eq_true_iff]
 have h:=metK_nodup ks ks.length (Nat.le_refl _)
 rw [List.take_length] at h
 exact h
theorem keysD_len:∀{ds:List D} {ks:List Key},keysD ds=some ks→ks.length=ds.length
 | [],ks,h=>by cases h;rfl
 | d :: ds,ks,h=>by
  unfold keysD at h
  split at h
  ·cases q:keysD ds with
   | none=>rw [q] at h;cases h
   | some js=>rw [q] at h;cases h;rw [List.length_cons,List.length_cons,keysD_len q]
  ·cases h
def sp_unlike (A:Ad):SpD:=fun ds M Q _=>∃xs ks,(ds= [.lst xs]∨ds= [.tup xs])∧keysD xs=some ks∧ks.length < 4000∧Q (.bl (dist ks)) M
def wb_unlike (A:Ad):WS:=
 (wRet (wOp (rEqD false) (wLenSet (wVar 0)) (wCB rLenD (wCons (wVar 0) wNil))))
theorem bd_unlike {P:Program} {w:World} {K:PySem.W.Frag} {mg:Str→Option Value} {base:Heap} {A:Ad} (T:Txt P K mg A) (cdv:Value) (R:Around) (outer:List Env) (s:Shared) (H:Hp) (E:XK) (hr:Room 0 (R.deeper (envOfC "unlike" (defScope s_unlike) s.heap.objs.size A.f_unlike cdv)))
  (tk:Takes (cxOf (L2.CX P w) P w K mg base N_unlike "unlike" (defScope s_unlike) A.f_unlike cdv R outer s H E) (WD E)):JSs (cxOf (L2.CX P w) P w K mg base N_unlike "unlike" (defScope s_unlike) A.f_unlike cdv R outer s H E) (WD E) (defBody s_unlike) (wb_unlike A):=
 (js_one (js_ret (j_cmp (od_eq hr.units) (j_lenSet rfl T.n_len T.n_set (jv 0)) (j_callB cd_len T.n_len bo_len (j_cons (jv 0) j_nil)))))
theorem rd_unlike (A:Ad):∀ds M Q Xc,sp_unlike A ds M Q Xc→ds.length=P_unlike.length∧wb_unlike A {nx:=fun _ M=>Fin Q .non M,rt:=Fin Q,ex:=fun x _ M=>Xc x M} (startD N_unlike ds) M:=by
 rintro ds M Q Xc ⟨xs,ks,hd,hk,hl,q⟩
 have e:decide (((metK ks ks.length).length:Int)=(ks.length:Int))=dist ks:=by
  unfold dist
  simp only [Int.ofNat_inj]
 rcases hd with rfl | rfl
 all_goals
  refine ⟨rfl,?_⟩
  rw [st_unlike]
  simp only [wb_unlike,↓pGen,↓pGenM,↓pGenMK,↓pForN,↓pLcN,↓piZipN,↓pDclr,↓pLcUO,↓pSrtSetO,↓pLstV,↓lvK_dct,↓pMakeD,↓rLenO_p,↓pOrX,↓rIsM_p,↓rMinL_p,↓rMax_p,↓rOr2_p,↓rOrs_p,↓pMakeKD,↓pDcU,↓zR,↓reduceIte,zV,wipeD,hk]
  refine ⟨hl,?_⟩
  rw [← keysD_len hk,e]
  exact fin_of q
theorem ok_unlike {P:Program} {w:World} {K:PySem.W.Frag} {mg:Str→Option Value} {base:Heap} {A:Ad} (T:Txt P K mg A):FnJ P w K mg base 1 A.f_unlike (sp_unlike A):=
 FnJ.mkAt T.d_unlike sc_unlike (fun cdv R outer s H E hr tk=>bd_unlike T cdv R outer s H E hr tk) (rd_unlike A)
structure NamesOk (xs:List Str):Prop where
 lo:1≤xs.length
 hi:xs.length≤5
 nd:xs.Nodup
 ok:∀x∈xs,madeOf LET 8 (.str x)=true
theorem made_len {sg x:Str} {m:Int} (h:madeOf sg m (.str x)=true):(1:Int)≤x.length∧(x.length:Int)≤m∧allIn x sg=true:=by
 have e:madeOf sg m (.str x)=(decide ((1:Int)≤x.length) && (decide ((x.length:Int)≤m) && allIn x sg)):=rfl
 rw [e,Bool.and_eq_true,Bool.and_eq_true] at h
 exact ⟨of_decide_eq_true h.1,of_decide_eq_true h.2.1,h.2.2⟩
theorem keysD_strs:∀xs:List Str,keysD (xs.map D.str)=some (xs.map Sum.inr)
 | []=>rfl
 | x :: xs=>by
  show (keysD (xs.map D.str)).map (Sum.inr x :: ·)=_
  rw [keysD_strs xs]
  rfl
theorem dist_strs {xs:List Str} (h:xs.Nodup):dist (xs.map Sum.inr)=true:=dist_iff.mpr (List.Pairwise.map _ (fun a b hn e=>hn (Sum.inr.inj e)) h)
def sp_are_names (A:Ad):SpD:=fun ds M Q _=>∃xs,ds= [.lst (xs.map D.str), .int 5]∧NamesOk xs∧Q (.bl true) M
def wb_are_names (A:Ad):WS:=
 (wSeq (wIf (wOrT (wNotT (wTest (wCall (sp_is_listed A) (wCons (wVar 0) wNil)))) (wNotT (wTest (wChain (rInt0D fun i j=> .bl (decide (i≤j))) (rInt0D fun i j=> .bl (decide (i≤j))) (wC (.int 1)) (wCB rLenD (wCons (wVar 0) wNil)) (wVar 1)))))
 (wRet (wC (.bl false)))
 wNx)
 (wRet (wAndV (wCB (rAllD false) (wCons (wLc (wiSeq (wVar 0)) (gN 2) wYes (wCall (sp_is_plain_name A) (wCons (wVar 2) wNil)) [2]) wNil)) (wCall (sp_unlike A) (wCons (wVar 0) wNil)))))
theorem bd_are_names {P:Program} {w:World} {K:PySem.W.Frag} {mg:Str→Option Value} {base:Heap} {A:Ad} (T:Txt P K mg A) (cdv:Value) (R:Around) (outer:List Env) (s:Shared) (H:Hp) (E:XK) (hr:Room 2 (R.deeper (envOfC "are_names" (defScope s_are_names) s.heap.objs.size A.f_are_names cdv)))
  (tk:Takes (cxOf (L2.CX P w) P w K mg base N_are_names "are_names" (defScope s_are_names) A.f_are_names cdv R outer s H E) (WD E)):JSs (cxOf (L2.CX P w) P w K mg base N_are_names "are_names" (defScope s_are_names) A.f_are_names cdv R outer s H E) (WD E) (defBody s_are_names) (wb_are_names A):=
 (js_cons (js_if (jt_bool (jt_or (jt_not (jt_val (j_call (ok_is_listed T) hr (by decide) T.g_is_listed tk (j_cons (jv 0) j_nil)))) (jt_or1 (jt_not (jt_chain od_le od_le j_int (j_callB cd_len T.n_len bo_len (j_cons (jv 0) j_nil)) (jv 1))))))
 (js_one (js_ret j_bl))
 js_nil)
 (js_one (js_ret (j_and (j_callB (cd_all rfl) T.n_all bo_all (j_cons (j_lc (own:= [("name",2)]) rfl sc_are_names.nd (ji_seq (jv 0)) (blkOk_by (own:= [("name",2)]) (N:=N_are_names) (sc:=defScope s_are_names) (by decide +kernel)) (fun _ _ _ _ _=>(jg_name (i:=2) sc_are_names.nd)) (fun _ _ _ _ _=>jts_nil) (fun _ _ _ _ _=>(j_call (ok_is_plain_name T) hr (by decide) T.g_is_plain_name tkF (j_cons (jv 2) j_nil)))) j_nil)) (j_one (j_call (ok_unlike T) hr (by decide) T.g_unlike tk (j_cons (jv 0) j_nil)))))))
theorem rd_are_names (A:Ad):∀ds M Q Xc,sp_are_names A ds M Q Xc→ds.length=P_are_names.length∧wb_are_names A {nx:=fun _ M=>Fin Q .non M,rt:=Fin Q,ex:=fun x _ M=>Xc x M} (startD N_are_names ds) M:=by
 rintro _ M Q Xc ⟨xs,rfl,hn,q⟩
 refine ⟨rfl,?_⟩
 rw [st_are_names]
 have h1:(1:Int)≤xs.length:=by have:=hn.lo;omega
 have h2:(xs.length:Int)≤5:=by have:=hn.hi;omega
 have:=sizeLine_big
 simp only [wb_are_names,↓pLcUO,↓pSrtSetO,↓pLstV,↓lvK_dct,↓pMakeD,↓rLenO_p,↓pOrX,↓rIsM_p,↓rMinL_p,↓rMax_p,↓rOr2_p,↓rOrs_p,↓pMakeKD,↓pDcU,↓zR,↓reduceIte,zV,wipeD,sp_is_listed]
 first | refine ⟨_,rfl,rfl,?_⟩ | refine .inl ⟨_,rfl,rfl,?_⟩
 simp only [isSeq,List.length_map,h1,h2,↓pLcUO,↓pSrtSetO,↓pLstV,↓lvK_dct,↓pMakeD,↓rLenO_p,↓pOrX,↓rIsM_p,↓rMinL_p,↓rMax_p,↓rOr2_p,↓rOrs_p,↓pMakeKD,↓pDcU,↓zR,↓reduceIte,zV,wipeD,decide_true]
 refine lcR_mapL D.str (fun x=> .bl true) (fun x=>madeOf LET 8 (.str x)=true) (fun x acc R hx h=>?_) xs [] hn.ok (by simp only [List.length_nil];have:=hn.hi;omega) ?_
 ·simp only [↓pLcUO,↓pSrtSetO,↓pLstV,↓lvK_dct,↓pMakeD,↓rLenO_p,↓pOrX,↓rIsM_p,↓rMinL_p,↓rMax_p,↓rOr2_p,↓rOrs_p,↓pMakeKD,↓pDcU,↓zR,↓reduceIte,zV,wipeD,sp_is_plain_name]
  have hm:=made_len hx
  refine ⟨_,rfl,rfl,(by show x.length < 90000;omega),?_⟩
  rw [hx]
  exact h
 ·rw [List.nil_append]
  have e:(xs.map fun _=>true).all id=true:=by simp
  simp only [rAllD,bools_map,↓pLcUO,↓pSrtSetO,↓pLstV,↓lvK_dct,↓pMakeD,↓rLenO_p,↓pOrX,↓rIsM_p,↓rMinL_p,↓rMax_p,↓rOr2_p,↓rOrs_p,↓pMakeKD,↓pDcU,↓zR,↓reduceIte,zV,wipeD,e,sp_unlike]
  refine ⟨_,_, .inl rfl,keysD_strs xs,?_,?_⟩
  ·rw [List.length_map];have:=hn.hi;omega
  ·rw [dist_strs hn.nd]
   exact fin_of q
theorem ok_are_names {P:Program} {w:World} {K:PySem.W.Frag} {mg:Str→Option Value} {base:Heap} {A:Ad} (T:Txt P K mg A):FnJ P w K mg base 3 A.f_are_names (sp_are_names A):=
 FnJ.mkAt T.d_are_names sc_are_names (fun cdv R outer s H E hr tk=>bd_are_names T cdv R outer s H E hr tk) (rd_are_names A)
mutual
def Nc:D→Nat→Prop
 | .non,_=>True
 | .bl _,_=>True
 | .int _,_=>True
 | .str x,_=>x.length < 90000∧PyData.strOk x=true
 | .tup xs,n=>(0 < n∧xs.length < 3000)∧Ncs xs (n - 1)
 | .lst xs,n=>(0 < n∧xs.length < 3000)∧Ncs xs (n - 1)
 | _,_=>False
def Ncs:List D→Nat→Prop
 | [],_=>True
 | d :: ds,n=>Nc d n∧Ncs ds n
end
mutual
theorem Nc.dat:∀(d:D) (n:Nat),Nc d n→Dat d n
 | .non,n,_=>trivial
 | .bl _,n,_=>trivial
 | .int _,n,_=>trivial
 | .str x,n,h=>h.2
 | .tup xs,n,h=>⟨h.1.1,Ncs.dat xs (n - 1) h.2⟩
 | .lst xs,n,h=>⟨h.1.1,Ncs.dat xs (n - 1) h.2⟩
 | .ty _,n,h=>h.elim
 | .ref _,n,h=>h.elim
 | .dct _ _,n,h=>h.elim
 | .ins _ _ _,n,h=>h.elim
 | .scr _,n,h=>h.elim
 | .tpn _,n,h=>h.elim
 | .exc _ _ _ _ _,n,h=>h.elim
theorem Ncs.dat:∀(ds:List D) (n:Nat),Ncs ds n→Dats ds n
 | [],n,_=>trivial
 | d :: ds,n,h=>⟨Nc.dat d n h.1,Ncs.dat ds n h.2⟩
end
mutual
theorem Nc.mono:∀(d:D) (n m:Nat),n≤m→Nc d n→Nc d m
 | .non,n,m,_,_=>trivial
 | .bl _,n,m,_,_=>trivial
 | .int _,n,m,_,_=>trivial
 | .str x,n,m,_,h=>h
 | .tup xs,n,m,k,h=>⟨⟨by have:=h.1.1;omega,h.1.2⟩,Ncs.mono xs (n - 1) (m - 1) (by omega) h.2⟩
 | .lst xs,n,m,k,h=>⟨⟨by have:=h.1.1;omega,h.1.2⟩,Ncs.mono xs (n - 1) (m - 1) (by omega) h.2⟩
 | .ty _,n,m,_,h=>h.elim
 | .ref _,n,m,_,h=>h.elim
 | .dct _ _,n,m,_,h=>h.elim
 | .ins _ _ _,n,m,_,h=>h.elim
 | .scr _,n,m,_,h=>h.elim
 | .tpn _,n,m,_,h=>h.elim
 | .exc _ _ _ _ _,n,m,_,h=>h.elim
theorem Ncs.mono:∀(ds:List D) (n m:Nat),n≤m→Ncs ds n→Ncs ds m
 | [],n,m,_,_=>trivial
 | d :: ds,n,m,k,h=>⟨Nc.mono d n m k h.1,Ncs.mono ds n m k h.2⟩
end
theorem Ncs_iff {n:Nat}:∀{ds:List D},Ncs ds n↔∀d∈ds,Nc d n
 | []=>by simp [Ncs]
 | d :: ds=>by
  show (Nc d n∧Ncs ds n)↔_
  rw [Ncs_iff,List.forall_mem_cons]
theorem Nc.pl {d:D} {n:Nat} (h:Nc d n):pl d=true:=by cases d <;> first | rfl | exact h.elim
theorem Nc.short {d:D} {n:Nat} (h:Nc d n):short d:=by
 cases d <;> first | exact h.1 | exact h.1.2 | trivial
def leavesD:D→List D
 | .tup [a,b]=>leavesD a ++ leavesD b
 | d=> [d]
def nsz:D→Nat
 | .tup [a,b]=>nsz a + nsz b + 1
 | _=>1
def nszs (ds:List D):Nat:=(ds.map nsz).sum
def isPair:D→Bool
 | .tup [_,_]=>true
 | _=>false
theorem leaves_one {d:D} (h:isPair d=false):leavesD d= [d]:=by
 unfold leavesD
 split
 ·cases h
 ·rfl
theorem leaves_pos:∀d:D,1≤(leavesD d).length
 | .tup [a,b]=>by
  have:=leaves_pos a
  simp only [leavesD,List.length_append]
  omega
 | .tup []=>by simp [leavesD]
 | .tup [a]=>by simp [leavesD]
 | .tup (a :: b :: c :: ds)=>by simp [leavesD]
 | .non=>by simp [leavesD]
 | .bl _=>by simp [leavesD]
 | .int _=>by simp [leavesD]
 | .str _=>by simp [leavesD]
 | .ty _=>by simp [leavesD]
 | .ref _=>by simp [leavesD]
 | .lst _=>by simp [leavesD]
 | .dct _ _=>by simp [leavesD]
 | .dtt _ _=>by simp [leavesD]
 | .ins _ _ _=>by simp [leavesD]
 | .scr _=>by simp [leavesD]
 | .tpn _=>by simp [leavesD]
 | .exc _ _ _ _ _=>by simp [leavesD]
theorem nsz_pos:∀d:D,1≤nsz d:=fun d=>by
 unfold nsz
 split <;> omega
def flv (ws:List D):List D:=ws.reverse.flatMap leavesD
theorem flv_snoc (ws:List D) (d:D):flv (ws ++ [d])=leavesD d ++ flv ws:=by
 unfold flv
 rw [List.reverse_append,List.reverse_singleton,List.singleton_append,List.flatMap_cons]
theorem flv_len:∀ws:List D,ws.length≤(flv ws).length
 | []=>Nat.zero_le _
 | d :: ws=>by
  have h:=flv_len ws
  have:=leaves_pos d
  have e:flv (d :: ws)=flv ws ++ leavesD d:=by
   unfold flv
   rw [List.reverse_cons,List.flatMap_append,List.flatMap_singleton]
  rw [e,List.length_append,List.length_cons]
  omega
def sp_leaves (A:Ad):SpD:=fun ds M Q _=>∃d,ds= [d]∧Nc d 50∧(leavesD d).length < 3000∧Q (.lst (leavesD d)) M
def wb_leaves (A:Ad):WS:=
 (wSeq (wAsg (wLstO wNil) (gN 1))
 (wSeq (wAsg (wLstO (wCons (wVar 0) wNil)) (gN 2))
 (wSeq (wWhile (wTest (wOp (rEqVD true) (wVar 2) (wLst wNil)))
 (wSeq (wAsg (wBM "list" rPopD (wVar 2) wNil) (gN 3))
 (wIf (wAndT (wTest (wCB rIsD (wCons (wVar 3) (wCons (wC (.ty "tuple")) wNil)))) (wTest (wOp (rEqD false) (wCB rLenD (wCons (wVar 3) wNil)) (wC (.int 2)))))
 (wDrop (wBM "list" rExtD (wVar 2) (wCons (wLst (wCons (wOp rIxD (wVar 3) (wC (.int 1))) (wCons (wOp rIxD (wVar 3) (wC (.int 0))) wNil))) wNil)))
 (wDrop (wBM "list" rAppD (wVar 1) (wCons (wVar 3) wNil))))))
 (wRet (wVar 1)))))
theorem bd_leaves {P:Program} {w:World} {K:PySem.W.Frag} {mg:Str→Option Value} {base:Heap} {A:Ad} (T:Txt P K mg A) (cdv:Value) (R:Around) (outer:List Env) (s:Shared) (H:Hp) (E:XK) (hr:Room 0 (R.deeper (envOfC "leaves" (defScope s_leaves) s.heap.objs.size A.f_leaves cdv)))
  (tk:Takes (cxOf (L2.CX P w) P w K mg base N_leaves "leaves" (defScope s_leaves) A.f_leaves cdv R outer s H E) (WD E)):JSs (cxOf (L2.CX P w) P w K mg base N_leaves "leaves" (defScope s_leaves) A.f_leaves cdv R outer s H E) (WD E) (defBody s_leaves) (wb_leaves A):=
 (js_cons (js_set (i:=1) sc_leaves.nd (j_lstO j_nil))
 (js_cons (js_set (i:=2) sc_leaves.nd (j_lstO (j_cons (jv 0) j_nil)))
 (js_cons (js_while (passes_of rfl) (jt_cmp (od_neV hr.units) (jv 2) (j_lst j_nil))
 (js_cons (js_set (i:=3) sc_leaves.nd (j_bm0 PySem.F.plainAttrs_list PySem.F.slot_list_pop PySem.F.type_list_pop md_pop (jv 2)))
 (js_one (js_if (jt_bool (jt_and (jt_val (j_callB cd_isi T.n_isinstance bo_isinstance (j_cons (jv 3) (j_cons (j_bltn T.n_tuple bo_tuple) j_nil)))) (jt_and1 (jt_cmp (od_eq hr.units) (j_callB cd_len T.n_len bo_len (j_cons (jv 3) j_nil)) j_int))))
 (js_one (js_expr (j_bm PySem.F.plainAttrs_list PySem.F.slot_list_extend PySem.F.type_list_extend md_extend (jv 2) (j_cons (j_lst (j_cons (j_ix id_ix (jv 3) j_int) (j_cons (j_ix id_ix (jv 3) j_int) j_nil))) j_nil))))
 (js_one (js_expr (j_bm PySem.F.plainAttrs_list PySem.F.slot_list_append PySem.F.type_list_append md_append (jv 1) (j_cons (jv 3) j_nil))))))))
 (js_one (js_ret (jv 1))))))
theorem snoc_cases {α:Type} (xs:List α):xs= []∨∃ys y,xs=ys ++ [y]:=by
 cases h:xs.reverse with
 | nil=>exact .inl (List.reverse_eq_nil_iff.mp h)
 | cons y ys=>exact .inr ⟨ys.reverse,y,by rw [← List.reverse_cons,← h,List.reverse_reverse]⟩
theorem deq_nilL:∀xs:List D,deq (.lst xs) (.lst [])=decide (xs= [])
 | []=>rfl
 | d :: ds=>by
  rw [decide_eq_false (by simp)]
  rfl
structure LvI (tree:D) (a1 a2:Addr) (M:Mem) (m:Nat) (ds:SD) (N:Mem) (fnd ws:List D):Prop where
 sl:∃x,ds= [some tree,some (.ref a1),some (.ref a2),x]
 f:N a1=some (.lst fnd)
 w:N a2=some (.lst ws)
 o:∀b,b≠a1→b≠a2→N b=M b
 eq:fnd ++ flv ws=leavesD tree
 nc:Ncs ws 50
 mz:nszs ws=m
theorem rd_leaves (A:Ad):∀ds M Q Xc,sp_leaves A ds M Q Xc→ds.length=P_leaves.length∧wb_leaves A {nx:=fun _ M=>Fin Q .non M,rt:=Fin Q,ex:=fun x _ M=>Xc x M} (startD N_leaves ds) M:=by
 rintro _ M Q Xc ⟨d,rfl,hn,hl,q⟩
 refine ⟨rfl,?_⟩
 rw [st_leaves]
 have big:=sizeLine_big
 simp only [wb_leaves,↓pLcUO,↓pSrtSetO,↓pLstV,↓lvK_dct,↓pMakeD,↓rLenO_p,↓pOrX,↓rIsM_p,↓rMinL_p,↓rMax_p,↓rOr2_p,↓rOrs_p,↓pMakeKD,↓pDcU,↓zR,↓reduceIte,zV,wipeD]
 refine ⟨Nat.zero_le _,fun a1 h1=>⟨by omega,fun a2 h2=>?_⟩⟩
 have h21:a2≠a1:=fun e=>by subst e;rw [mput_same] at h2;cases h2
 rw [mput_ne h21] at h2
 refine ⟨fun m ds N=>∃fnd ws,LvI d a1 a2 M m ds N fnd ws,⟨_, [], [d],⟨none,rfl⟩,?_,mput_same,fun b b1 b2=>?_,?_,⟨hn,trivial⟩,rfl⟩,?_⟩
 ·rw [mput_ne (fun e=>h21 e.symm),mput_same]
 ·rw [mput_ne b2,mput_ne b1]
 ·simp [flv]
 rintro m ds N ⟨fnd,ws,⟨x,rfl⟩,hf,hw,ho,he,hc,hm⟩
 have hle:fnd.length + (flv ws).length=(leavesD d).length:=by rw [← he,List.length_append]
 have hwl:=flv_len ws
 have v1:viw N (.ref a2)= .lst ws:=by unfold viw;simp only [hw]
 have v2:viw N (.lst [])= .lst []:=rfl
 simp only [↓pLcUO,↓pSrtSetO,↓pLstV,↓lvK_dct,↓pMakeD,↓rLenO_p,↓pOrX,↓rIsM_p,↓rMinL_p,↓rMax_p,↓rOr2_p,↓rOrs_p,↓pMakeKD,↓pDcU,↓zR,↓reduceIte,zV,wipeD,rEqVD,v1,v2,deq_nilL]
 refine ⟨Nat.zero_le _,⟨by omega,Ncs.dat _ _ (Ncs.mono ws 50 59 (by omega) hc)⟩,⟨by omega,trivial⟩,?_⟩
 rcases snoc_cases ws with rfl | ⟨vs,y,rfl⟩
 ·simp only [decide_true,↓pLcUO,↓pSrtSetO,↓pLstV,↓lvK_dct,↓pMakeD,↓rLenO_p,↓pOrX,↓rIsM_p,↓rMinL_p,↓rMax_p,↓rOr2_p,↓rOrs_p,↓pMakeKD,↓pDcU,↓zR,↓reduceIte,zV,wipeD]
  have e1:fnd=leavesD d:=by rw [← he];simp [flv]
  subst e1
  refine fin_lst hf h1 (fun b o hb=>?_) q
  have b1:b≠a1:=fun e=>by subst e;rw [h1] at hb;cases hb
  have b2:b≠a2:=fun e=>by subst e;rw [h2] at hb;cases hb
  rw [ho b b1 b2]
  exact hb
 ·have ne:¬(vs ++ [y]= []):=by simp
  simp only [ne,decide_false,↓pLcUO,↓pSrtSetO,↓pLstV,↓lvK_dct,↓pMakeD,↓rLenO_p,↓pOrX,↓rIsM_p,↓rMinL_p,↓rMax_p,↓rOr2_p,↓rOrs_p,↓pMakeKD,↓pDcU,↓zR,↓reduceIte,zV,wipeD]
  have hc2:Ncs vs 50∧Nc y 50:=by
   rw [Ncs_iff] at hc
   exact ⟨Ncs_iff.mpr fun z hz=>hc z (List.mem_append_left _ hz),hc y (List.mem_append_right _ (List.mem_singleton.mpr rfl))⟩
  rw [flv_snoc] at he
  have hz:nszs (vs ++ [y])=nszs vs + nsz y:=by unfold nszs;rw [List.map_append,List.sum_append];simp
  have hyp:=nsz_pos y
  refine ⟨tyD_own hw,pop_own hw ?_⟩
  have ha1:mput N a2 (.lst vs) a1=some (.lst fnd):=by rw [mput_ne (fun e=>h21 e.symm)];exact hf
  have ha2:mput N a2 (.lst vs) a2=some (.lst vs):=mput_same
  have el:isPair y=false→tyD "list" (mput N a2 (.lst vs)) (.ref a1)∧rAppD (.ref a1) [y] (mput N a2 (.lst vs)) fun _ M1=>
    ∃m',m' < m∧∃fnd ws,LvI d a1 a2 M m' [some d,some (D.ref a1),some (D.ref a2),some y] M1 fnd ws:=fun hp=>by
   rw [leaves_one hp] at he
   refine ⟨tyD_own ha1,app_own ha1 (by omega) ⟨nszs vs,by omega,fnd ++ [y],vs,⟨_,rfl⟩,mput_same,?_,fun b b1 b2=>?_,?_,hc2.1,rfl⟩⟩
   ·rw [mput_ne h21];exact ha2
   ·rw [mput_ne b1,mput_ne b2];exact ho b b1 b2
   ·rw [List.append_assoc];exact he
  have ln2:∀zs:List D,isPair (.tup zs)=false→¬((zs.length:Int)=2):=fun zs hp=>by
   rcases zs with _ | ⟨a,_ | ⟨b,_ | ⟨c,r⟩⟩⟩
   ·simp
   ·simp
   ·cases hp
   ·simp only [List.length_cons];omega
  cases hy:isPair y with
  | true=>
   cases y <;> first | cases hy | skip
   rename_i zs
   rcases zs with _ | ⟨a,_ | ⟨b,_ | ⟨c,r⟩⟩⟩ <;> first | cases hy | skip
   have e1:atI [a,b] (1:Int)=some b:=rfl
   have e0:atI [a,b] (0:Int)=some a:=rfl
   have l2:decide ((([a,b]:List D).length:Int)=2)=true:=rfl
   simp only [↓pLcUO,↓pSrtSetO,↓pLstV,↓lvK_dct,↓pMakeD,↓rLenO_p,↓pOrX,↓rIsM_p,↓rMinL_p,↓rMax_p,↓rOr2_p,↓rOrs_p,↓pMakeKD,↓pDcU,↓zR,↓reduceIte,zV,wipeD,e1,e0]
   refine ⟨tyD_own ha2,by omega,ext_own ha2 ?_ ⟨nszs (vs ++ [b,a]),?_,fnd,vs ++ [b,a],⟨_,rfl⟩,?_,mput_same,fun c b1 b2=>?_,?_,?_,rfl⟩⟩
   ·rw [List.length_append,List.length_singleton] at hwl
    simp only [List.length_cons,List.length_nil]
    omega
   ·have e:nszs (vs ++ [b,a])=nszs vs + (nsz b + nsz a):=by unfold nszs;rw [List.map_append,List.sum_append];simp
    have e2:nsz (.tup [a,b])=nsz a + nsz b + 1:=by simp [nsz]
    omega
   ·rw [mput_ne (fun e=>h21 e.symm)];exact ha1
   ·rw [mput_ne b2,mput_ne b2];exact ho c b1 b2
   ·have e:vs ++ [b,a]=(vs ++ [b]) ++ [a]:=by simp
    have e2:leavesD (.tup [a,b])=leavesD a ++ leavesD b:=by simp [leavesD]
    rw [e,flv_snoc,flv_snoc,← List.append_assoc (leavesD a),← e2]
    exact he
   ·obtain ⟨_,k1,k2,_⟩:=hc2.2
    rw [Ncs_iff]
    intro z hz
    rcases List.mem_append.mp hz with hz | hz
    ·exact Ncs_iff.mp hc2.1 z hz
    ·rcases List.mem_cons.mp hz with rfl | hz
     ·exact Nc.mono _ _ _ (by decide) k2
     ·rw [List.mem_singleton.mp hz]
      exact Nc.mono _ _ _ (by decide) k1
  | false=>
   have hp:=hc2.2.pl
   cases y <;> try exact absurd hp Bool.false_ne_true
   case tup zs=>
    simp only [↓pLcUO,↓pSrtSetO,↓pLstV,↓lvK_dct,↓pMakeD,↓rLenO_p,↓pOrX,↓rIsM_p,↓rMinL_p,↓rMax_p,↓rOr2_p,↓rOrs_p,↓pMakeKD,↓pDcU,↓zR,↓reduceIte,zV,wipeD,ln2 zs hy,decide_false]
    exact el hy
   all_goals simp only [↓pLcUO,↓pSrtSetO,↓pLstV,↓lvK_dct,↓pMakeD,↓rLenO_p,↓pOrX,↓rIsM_p,↓rMinL_p,↓rMax_p,↓rOr2_p,↓rOrs_p,↓pMakeKD,↓pDcU,↓zR,↓reduceIte,zV,wipeD]
   all_goals exact el hy
theorem ok_leaves {P:Program} {w:World} {K:PySem.W.Frag} {mg:Str→Option Value} {base:Heap} {A:Ad} (T:Txt P K mg A):FnJ P w K mg base 1 A.f_leaves (sp_leaves A):=
 FnJ.mkAt T.d_leaves sc_leaves (fun cdv R outer s H E hr tk=>bd_leaves T cdv R outer s H E hr tk) (rd_leaves A)
abbrev RD (wb:WS) (Q:KN) (Xc:KX) (ds:SD) (M:Mem):Prop:=wb {nx:=fun _ M=>Fin Q .non M,rt:=Fin Q,ex:=fun x _ M=>Xc x M} ds M
theorem deq_str {x y:Str}:deq (.str x) (.str y)=decide (x=y):=by
 show (x == y)=_
 by_cases h:x=y
 ·subst h;simp
 ·simp [h]
theorem inD_strs {x:Str}:∀ss:List Str,inD (.str x) (ss.map D.str)=ss.any fun y=>decide (y=x)
 | []=>rfl
 | y :: ss=>by
  show (deq (.str y) (.str x) || inD (.str x) (ss.map D.str))=_
  rw [inD_strs ss,deq_str,List.any_cons]
theorem flat_map (ss:List Str):(ss.map D.str).all flatD=true:=by
 rw [List.all_map]
 exact List.all_eq_true.mpr fun _ _=>rfl
end DL.K05
set_option maxHeartbeats 1000000
namespace DL.K05
open PySem PySem.Spec PyProof.Rows L2 RZ
structure OwnOk (fs:List Str):Prop where
 m:("moment":Str)∉fs
 s:("source":Str)∉fs
def shp (A:Ad) (fs ss:List Str):D:= .ins A.c_Shape ns_Shape [.tup (fs.map .str), .tup (ss.map .str)]
def sp_Shape___init__ (A:Ad):SpD:=fun ds M Q _=>∃a fs ss,ds= [.ref a, .lst (fs.map D.str), .lst (ss.map D.str)]∧M a=some (.ins A.c_Shape [] [])∧NamesOk fs∧NamesOk ss∧OwnOk fs∧
 Q .non (mput M a (.ins A.c_Shape ns_Shape [.tup (fs.map .str), .tup (ss.map .str)]))
def wb_Shape___init__ (A:Ad):WS:=
 (wSeq (wIf (wOrT (wNotT (wTest (wCall (sp_are_names A) (wCons (wVar 1) (wCons (wCv A.c_Shape (.int 5) (wC (.ref A.c_Shape))) wNil))))) (wTest (wCB (rAllD true) (wCons (wLc (wiSeq (wVar 1)) (gN 3) wYes (wOp (rInD false) (wVar 3) (wC k_OWN_COLUMNS)) [3]) wNil))))
 wNever
 wNx)
 (wSeq (wIf (wNotT (wTest (wCall (sp_are_names A) (wCons (wVar 2) (wCons (wCv A.c_Shape (.int 5) (wC (.ref A.c_Shape))) wNil)))))
 wNever
 wNx)
 (wSeq (wFst A.c_Shape [] "own_fields" none (wCB rTupD (wCons (wVar 1) wNil)) (wVar 0))
 (wFst A.c_Shape ["own_fields"] "own_sources" none (wCB rTupD (wCons (wVar 2) wNil)) (wVar 0)))))
theorem bd_Shape___init__ {P:Program} {w:World} {K:PySem.W.Frag} {mg:Str→Option Value} {base:Heap} {A:Ad} (T:Txt P K mg A) (cdv:Value) (R:Around) (outer:List Env) (s:Shared) (H:Hp) (E:XK) (hr:Room 3 (R.deeper (envOfC "Shape.__init__" (defScope s_Shape___init__) s.heap.objs.size A.f_Shape___init__ cdv)))
  (tk:Takes (cxOf (L2.CX P w) P w K mg base N_Shape___init__ "Shape.__init__" (defScope s_Shape___init__) A.f_Shape___init__ cdv R outer s H E) (WD E)):JSs (cxOf (L2.CX P w) P w K mg base N_Shape___init__ "Shape.__init__" (defScope s_Shape___init__) A.f_Shape___init__ cdv R outer s H E) (WD E) (defBody s_Shape___init__) (wb_Shape___init__ A):=
 (js_cons (js_if (jt_bool (jt_or (jt_not (jt_val (j_call (ok_are_names T) hr (by decide) T.g_are_names tk (j_cons (jv 1) (j_cons (j_cv T.cv_Shape_FIELDS (j_glob (v:= .ref A.c_Shape) T.g_Shape rfl (fun _ _=>rfl))) j_nil))))) (jt_or1 (jt_val (j_callB (cd_any rfl) T.n_any bo_any (j_cons (j_lc (own:= [("name",3)]) rfl sc_Shape___init__.nd (ji_seq (jv 1)) (blkOk_by (own:= [("name",3)]) (N:=N_Shape___init__) (sc:=defScope s_Shape___init__) (by decide +kernel)) (fun _ _ _ _ _=>(jg_name (i:=3) sc_Shape___init__.nd)) (fun _ _ _ _ _=>jts_nil) (fun _ _ _ _ _=>(j_cmp od_in (jv 3) (j_k T.k_OWN_COLUMNS)))) j_nil))))))
 jss_never
 js_nil)
 (js_cons (js_if (jt_not (jt_val (j_call (ok_are_names T) hr (by decide) T.g_are_names tk (j_cons (jv 2) (j_cons (j_cv T.cv_Shape_SOURCES (j_glob (v:= .ref A.c_Shape) T.g_Shape rfl (fun _ _=>rfl))) j_nil)))))
 jss_never
 js_nil)
 (js_cons (js_fld (C:=A.c_Shape) (ns:= []) (o':=none) T.cl_Shape T.na_Shape_own_fields (by decide +kernel) (by decide +kernel) (jv 0) (j_callTy cd_tup T.n_tuple bo_tuple (j_cons (jv 1) j_nil)))
 (js_one (js_fld (C:=A.c_Shape) (ns:= ["own_fields"]) (o':=none) T.cl_Shape T.na_Shape_own_sources (by decide +kernel) (by decide +kernel) (jv 0) (j_callTy cd_tup T.n_tuple bo_tuple (j_cons (jv 2) j_nil)))))))
theorem rd_Shape___init__ (A:Ad):∀ds M Q Xc,sp_Shape___init__ A ds M Q Xc→ds.length=P_Shape___init__.length∧RD (wb_Shape___init__ A) Q Xc (startD N_Shape___init__ ds) M:=by
 rintro _ M Q Xc ⟨a,fs,ss,rfl,ha,hf,hs,ho,q⟩
 refine ⟨rfl,?_⟩
 rw [st_Shape___init__]
 have:=sizeLine_big
 simp only [RD,wb_Shape___init__,↓pLcUO,↓pSrtSetO,↓pLstV,↓lvK_dct,↓pMakeD,↓rLenO_p,↓pOrX,↓rIsM_p,↓rMinL_p,↓rMax_p,↓rOr2_p,↓rOrs_p,↓pMakeKD,↓pDcU,↓zR,↓reduceIte,zV,wipeD,sp_are_names]
 refine ⟨fs,rfl,hf,?_⟩
 refine lcR_mapL D.str (fun x=> .bl false) (fun x=>x≠("moment":Str)∧x≠("source":Str)) (fun x acc R hx h=>?_) fs [] (fun x hx=>⟨fun e=>ho.m (e ▸ hx),fun e=>ho.s (e ▸ hx)⟩) (by simp only [List.length_nil];have:=hf.hi;omega) ?_
 ·have e:inD (.str x) [.str "moment", .str "source"]=false:=by
   have e2:=inD_strs (x:=x) [("moment":Str),("source":Str)]
   rw [show inD (.str x) [.str "moment", .str "source"]=inD (.str x) ([("moment":Str),("source":Str)].map D.str) from rfl,e2]
   simp [Ne.symm hx.1,Ne.symm hx.2]
  simp only [↓pLcUO,↓pSrtSetO,↓pLstV,↓lvK_dct,↓pMakeD,↓rLenO_p,↓pOrX,↓rIsM_p,↓rMinL_p,↓rMax_p,↓rOr2_p,↓rOrs_p,↓pMakeKD,↓pDcU,↓zR,↓reduceIte,zV,wipeD,rInD,k_OWN_COLUMNS,e]
  exact ⟨rfl,rfl,h⟩
 ·rw [List.nil_append]
  have e:(fs.map fun _=>false).any id=false:=by simp
  simp only [rAllD,bools_map,↓pLcUO,↓pSrtSetO,↓pLstV,↓lvK_dct,↓pMakeD,↓rLenO_p,↓pOrX,↓rIsM_p,↓rMinL_p,↓rMax_p,↓rOr2_p,↓rOrs_p,↓pMakeKD,↓pDcU,↓zR,↓reduceIte,zV,wipeD,e]
  refine ⟨ss,rfl,hs,?_⟩
  simp only [↓pGen,↓pGenM,↓pGenMK,↓pForN,↓pLcN,↓piZipN,↓pDclr,↓pLcUO,↓pSrtSetO,↓pLstV,↓lvK_dct,↓pMakeD,↓rLenO_p,↓pOrX,↓rIsM_p,↓rMinL_p,↓rMax_p,↓rOr2_p,↓rOrs_p,↓pMakeKD,↓pDcU,↓zR,↓reduceIte,zV,wipeD,rTupN_p,fstK_own ha,fstK_own mput_same,putD,List.nil_append,List.cons_append,mput_mput,mput_same,moIns]
  exact fin_of q
theorem ok_Shape___init__ {P:Program} {w:World} {K:PySem.W.Frag} {mg:Str→Option Value} {base:Heap} {A:Ad} (T:Txt P K mg A):FnJ P w K mg base 4 A.f_Shape___init__ (sp_Shape___init__ A):=
 FnJ.mkAt T.d_Shape___init__ sc_Shape___init__ (fun cdv R outer s H E hr tk=>bd_Shape___init__ T cdv R outer s H E hr tk) (rd_Shape___init__ A)
def wordOk:D→Bool
 | .non=>true
 | d=>madeOf L36 8 d
def strIn (ss:List Str):D→Bool
 | .str x=>ss.any fun y=>decide (y=x)
 | _=>false
def valsOk (n:Nat):D→Bool
 | .tup ws=>decide (ws.length=n) && ws.all wordOk
 | _=>false
def isRow (n:Nat) (ss:List Str):D→Bool
 | .tup [m,s,v]=>isNum m && (strIn ss s && valsOk n v)
 | _=>false
def sp_Shape_is_row (A:Ad):SpD:=fun ds M Q _=>∃fs ss d,ds= [shp A fs ss,d]∧fs.length < 3000∧Nc d 50∧Q (.bl (isRow fs.length ss d)) M
def wb_Shape_is_row (A:Ad):WS:=
 (wSeq (wIf (wOrT (wNotT (wTest (wCB rIsD (wCons (wVar 1) (wCons (wC (.ty "tuple")) wNil))))) (wOrT (wTest (wOp (rEqD true) (wCB rLenD (wCons (wVar 1) wNil)) (wC (.int 3)))) (wNotT (wTest (wCall (sp_is_number A) (wCons (wOp rIxD (wVar 1) (wC (.int 0))) wNil))))))
 (wRet (wC (.bl false)))
 wNx)
 (wSeq (wIf (wOrT (wNotT (wTest (wCB rIsD (wCons (wOp rIxD (wVar 1) (wC (.int 1))) (wCons (wC (.ty "str")) wNil))))) (wTest (wOp (rInD true) (wOp rIxD (wVar 1) (wC (.int 1))) (wFld A.c_Shape ns_Shape 1 (wVar 0)))))
 (wRet (wC (.bl false)))
 wNx)
 (wSeq (wIf (wOrT (wNotT (wTest (wCB rIsD (wCons (wOp rIxD (wVar 1) (wC (.int 2))) (wCons (wC (.ty "tuple")) wNil))))) (wTest (wOp (rEqD true) (wCB rLenD (wCons (wOp rIxD (wVar 1) (wC (.int 2))) wNil)) (wCB rLenD (wCons (wFld A.c_Shape ns_Shape 0 (wVar 0)) wNil)))))
 (wRet (wC (.bl false)))
 wNx)
 (wRet (wCB (rAllD false) (wCons (wLc (wiSeq (wOp rIxD (wVar 1) (wC (.int 2)))) (gN 2) wYes (wOrV (wOp (rIsND false) (wVar 2) (wC .non)) (wCall (sp_is_plain_word A) (wCons (wVar 2) wNil))) [2]) wNil))))))
theorem bd_Shape_is_row {P:Program} {w:World} {K:PySem.W.Frag} {mg:Str→Option Value} {base:Heap} {A:Ad} (T:Txt P K mg A) (cdv:Value) (R:Around) (outer:List Env) (s:Shared) (H:Hp) (E:XK) (hr:Room 2 (R.deeper (envOfC "Shape.is_row" (defScope s_Shape_is_row) s.heap.objs.size A.f_Shape_is_row cdv)))
  (tk:Takes (cxOf (L2.CX P w) P w K mg base N_Shape_is_row "Shape.is_row" (defScope s_Shape_is_row) A.f_Shape_is_row cdv R outer s H E) (WD E)):JSs (cxOf (L2.CX P w) P w K mg base N_Shape_is_row "Shape.is_row" (defScope s_Shape_is_row) A.f_Shape_is_row cdv R outer s H E) (WD E) (defBody s_Shape_is_row) (wb_Shape_is_row A):=
 (js_cons (js_if (jt_bool (jt_or (jt_not (jt_val (j_callB cd_isi T.n_isinstance bo_isinstance (j_cons (jv 1) (j_cons (j_bltn T.n_tuple bo_tuple) j_nil))))) (jt_or (jt_cmp (od_ne hr.units) (j_callB cd_len T.n_len bo_len (j_cons (jv 1) j_nil)) j_int) (jt_or1 (jt_not (jt_val (j_call (ok_is_number T) hr (by decide) T.g_is_number tk (j_cons (j_ix id_ix (jv 1) j_int) j_nil))))))))
 (js_one (js_ret j_bl))
 js_nil)
 (js_cons (js_if (jt_bool (jt_or (jt_not (jt_val (j_callB cd_isi T.n_isinstance bo_isinstance (j_cons (j_ix id_ix (jv 1) j_int) (j_cons (j_bltn T.n_str bo_str) j_nil))))) (jt_or1 (jt_cmp od_notIn (j_ix id_ix (jv 1) j_int) (j_fld (C:=A.c_Shape) (ns:=ns_Shape) (i:=1) T.cl_Shape T.na_Shape_own_sources (by decide +kernel) (jv 0))))))
 (js_one (js_ret j_bl))
 js_nil)
 (js_cons (js_if (jt_bool (jt_or (jt_not (jt_val (j_callB cd_isi T.n_isinstance bo_isinstance (j_cons (j_ix id_ix (jv 1) j_int) (j_cons (j_bltn T.n_tuple bo_tuple) j_nil))))) (jt_or1 (jt_cmp (od_ne hr.units) (j_callB cd_len T.n_len bo_len (j_cons (j_ix id_ix (jv 1) j_int) j_nil)) (j_callB cd_len T.n_len bo_len (j_cons (j_fld (C:=A.c_Shape) (ns:=ns_Shape) (i:=0) T.cl_Shape T.na_Shape_own_fields (by decide +kernel) (jv 0)) j_nil))))))
 (js_one (js_ret j_bl))
 js_nil)
 (js_one (js_ret (j_callB (cd_all rfl) T.n_all bo_all (j_cons (j_lc (own:= [("word",2)]) rfl sc_Shape_is_row.nd (ji_seq (j_ix id_ix (jv 1) j_int)) (blkOk_by (own:= [("word",2)]) (N:=N_Shape_is_row) (sc:=defScope s_Shape_is_row) (by decide +kernel)) (fun _ _ _ _ _=>(jg_name (i:=2) sc_Shape_is_row.nd)) (fun _ _ _ _ _=>jts_nil) (fun _ _ _ _ _=>(j_or (j_cmp od_isN (jv 2) j_non) (j_one (j_call (ok_is_plain_word T) hr (by decide) T.g_is_plain_word tkF (j_cons (jv 2) j_nil)))))) j_nil)))))))
theorem rd_Shape_is_row (A:Ad):∀ds M Q Xc,sp_Shape_is_row A ds M Q Xc→ds.length=P_Shape_is_row.length∧RD (wb_Shape_is_row A) Q Xc (startD N_Shape_is_row ds) M:=by
 rintro _ M Q Xc ⟨fs,ss,d,rfl,hl,hn,q⟩
 refine ⟨rfl,?_⟩
 rw [st_Shape_is_row]
 have:=sizeLine_big
 have hp:=hn.pl
 cases d <;> try exact absurd hp Bool.false_ne_true
 case tup zs=>
  by_cases h3:(zs.length:Int)=3
  ·rcases zs with _ | ⟨m,_ | ⟨s,_ | ⟨v,_ | ⟨z,r⟩⟩⟩⟩
   ·cases h3
   ·cases h3
   ·cases h3
   ·have e0:atI [m,s,v] (0:Int)=some m:=rfl
    have e1:atI [m,s,v] (1:Int)=some s:=rfl
    have e2:atI [m,s,v] (2:Int)=some v:=rfl
    obtain ⟨nz,n1,n2,n3,nx⟩:=hn
    have el:(!decide ((([m,s,v]:List D).length:Int)=3))=false:=rfl
    have q1:Q (.bl (isNum m && (strIn ss s && valsOk fs.length v))) M:=q
    simp only [RD,wb_Shape_is_row,↓pLcUO,↓pSrtSetO,↓pLstV,↓lvK_dct,↓pMakeD,↓rLenO_p,↓pOrX,↓rIsM_p,↓rMinL_p,↓rMax_p,↓rOr2_p,↓rOrs_p,↓pMakeKD,↓pDcU,↓zR,↓reduceIte,zV,wipeD,el,e0,e1,e2,sp_is_number,shp]
    refine ⟨m,rfl,n1.pl,?_⟩
    cases hm:isNum m with
    | false=>
     rw [hm] at q1
     simp only [↓pLcUO,↓pSrtSetO,↓pLstV,↓lvK_dct,↓pMakeD,↓rLenO_p,↓pOrX,↓rIsM_p,↓rMinL_p,↓rMax_p,↓rOr2_p,↓rOrs_p,↓pMakeKD,↓pDcU,↓zR,↓reduceIte,zV,wipeD]
     exact fin_of q1
    | true=>
     rw [hm] at q1
     simp only [↓pLcUO,↓pSrtSetO,↓pLstV,↓lvK_dct,↓pMakeD,↓rLenO_p,↓pOrX,↓rIsM_p,↓rMinL_p,↓rMax_p,↓rOr2_p,↓rOrs_p,↓pMakeKD,↓pDcU,↓zR,↓reduceIte,zV,wipeD]
     have p2:=n2.pl
     cases s <;> try exact absurd p2 Bool.false_ne_true
     case str=>
      rename_i x
      have hin:inD (.str x) (ss.map D.str)=strIn ss (.str x):=inD_strs ss
      simp only [↓pLcUO,↓pSrtSetO,↓pLstV,↓lvK_dct,↓pMakeD,↓rLenO_p,↓pOrX,↓rIsM_p,↓rMinL_p,↓rMax_p,↓rOr2_p,↓rOrs_p,↓pMakeKD,↓pDcU,↓zR,↓reduceIte,zV,wipeD,rInD,hin]
      refine ⟨rfl,flat_map ss,?_⟩
      cases hs:strIn ss (.str x) with
      | false=>
       rw [hs] at q1
       simp only [↓pLcUO,↓pSrtSetO,↓pLstV,↓lvK_dct,↓pMakeD,↓rLenO_p,↓pOrX,↓rIsM_p,↓rMinL_p,↓rMax_p,↓rOr2_p,↓rOrs_p,↓pMakeKD,↓pDcU,↓zR,↓reduceIte,zV,wipeD]
       exact fin_of q1
      | true=>
       rw [hs] at q1
       simp only [↓pLcUO,↓pSrtSetO,↓pLstV,↓lvK_dct,↓pMakeD,↓rLenO_p,↓pOrX,↓rIsM_p,↓rMinL_p,↓rMax_p,↓rOr2_p,↓rOrs_p,↓pMakeKD,↓pDcU,↓zR,↓reduceIte,zV,wipeD]
       have p3:=n3.pl
       cases v <;> try exact absurd p3 Bool.false_ne_true
       case tup=>
        rename_i ws
        have e:valsOk fs.length (.tup ws)=(decide (ws.length=fs.length) && ws.all wordOk):=rfl
        have e3:decide ((ws.length:Int)=((fs.map D.str).length:Int))=decide (ws.length=fs.length):=by rw [List.length_map];simp only [Int.ofNat_inj]
        rw [e] at q1
        simp only [↓pLcUO,↓pSrtSetO,↓pLstV,↓lvK_dct,↓pMakeD,↓rLenO_p,↓pOrX,↓rIsM_p,↓rMinL_p,↓rMax_p,↓rOr2_p,↓rOrs_p,↓pMakeKD,↓pDcU,↓zR,↓reduceIte,zV,wipeD,e3]
        cases hw:decide (ws.length=fs.length) with
        | false=>
         rw [hw] at q1
         simp only [↓pLcUO,↓pSrtSetO,↓pLstV,↓lvK_dct,↓pMakeD,↓rLenO_p,↓pOrX,↓rIsM_p,↓rMinL_p,↓rMax_p,↓rOr2_p,↓rOrs_p,↓pMakeKD,↓pDcU,↓zR,↓reduceIte,zV,wipeD]
         exact fin_of q1
        | true=>
         rw [hw] at q1
         simp only [↓pLcUO,↓pSrtSetO,↓pLstV,↓lvK_dct,↓pMakeD,↓rLenO_p,↓pOrX,↓rIsM_p,↓rMinL_p,↓rMax_p,↓rOr2_p,↓rOrs_p,↓pMakeKD,↓pDcU,↓zR,↓reduceIte,zV,wipeD]
         have hwl:=n3.1.2
         refine (?_:lcR _ _ _ _ ws _ _ _)
         rw [← List.map_id ws]
         refine lcR_mapL id (fun x=> .bl (wordOk x)) (fun x=>Nc x 49) (fun x acc R hx h=>?_) ws [] (fun x hx=>Nc.mono _ _ _ (by decide) (Ncs_iff.mp n3.2 x hx)) (by simp only [List.length_nil];omega) ?_
         ·have px:=hx.pl
          cases x <;> try exact absurd px Bool.false_ne_true
          all_goals simp only [↓pLcUO,↓pSrtSetO,↓pLstV,↓lvK_dct,↓pMakeD,↓rLenO_p,↓pOrX,↓rIsM_p,↓rMinL_p,↓rMax_p,↓rOr2_p,↓rOrs_p,↓pMakeKD,↓pDcU,↓zR,↓reduceIte,zV,wipeD,id,sp_is_plain_word]
          case non=>exact h
          all_goals exact ⟨_,rfl,rfl,hx.short,h⟩
         ·rw [List.nil_append]
          simp only [rAllD,bools_map,↓pLcUO,↓pSrtSetO,↓pLstV,↓lvK_dct,↓pMakeD,↓rLenO_p,↓pOrX,↓rIsM_p,↓rMinL_p,↓rMax_p,↓rOr2_p,↓rOrs_p,↓pMakeKD,↓pDcU,↓zR,↓reduceIte,zV,wipeD]
          rw [List.all_map]
          exact fin_of q1
       all_goals simp only [↓pLcUO,↓pSrtSetO,↓pLstV,↓lvK_dct,↓pMakeD,↓rLenO_p,↓pOrX,↓rIsM_p,↓rMinL_p,↓rMax_p,↓rOr2_p,↓rOrs_p,↓pMakeKD,↓pDcU,↓zR,↓reduceIte,zV,wipeD]
       all_goals exact fin_of q1
     all_goals simp only [↓pLcUO,↓pSrtSetO,↓pLstV,↓lvK_dct,↓pMakeD,↓rLenO_p,↓pOrX,↓rIsM_p,↓rMinL_p,↓rMax_p,↓rOr2_p,↓rOrs_p,↓pMakeKD,↓pDcU,↓zR,↓reduceIte,zV,wipeD]
     all_goals exact fin_of q1
   ·simp only [List.length_cons] at h3;omega
  ·have e:isRow fs.length ss (.tup zs)=false:=by
    unfold isRow
    split
    ·rename_i e;cases e;exact absurd rfl h3
    ·rfl
   rw [e] at q
   simp only [RD,wb_Shape_is_row,↓pLcUO,↓pSrtSetO,↓pLstV,↓lvK_dct,↓pMakeD,↓rLenO_p,↓pOrX,↓rIsM_p,↓rMinL_p,↓rMax_p,↓rOr2_p,↓rOrs_p,↓pMakeKD,↓pDcU,↓zR,↓reduceIte,zV,wipeD,h3,decide_false]
   exact fin_of q
 all_goals simp only [RD,wb_Shape_is_row,↓pLcUO,↓pSrtSetO,↓pLstV,↓lvK_dct,↓pMakeD,↓rLenO_p,↓pOrX,↓rIsM_p,↓rMinL_p,↓rMax_p,↓rOr2_p,↓rOrs_p,↓pMakeKD,↓pDcU,↓zR,↓reduceIte,zV,wipeD]
 all_goals exact fin_of q
theorem ok_Shape_is_row {P:Program} {w:World} {K:PySem.W.Frag} {mg:Str→Option Value} {base:Heap} {A:Ad} (T:Txt P K mg A):FnJ P w K mg base 3 A.f_Shape_is_row (sp_Shape_is_row A):=
 FnJ.mkAt T.d_Shape_is_row sc_Shape_is_row (fun cdv R outer s H E hr tk=>bd_Shape_is_row T cdv R outer s H E hr tk) (rd_Shape_is_row A)
def momI:D→Int
 | .tup (.int i :: _)=>i
 | _=>0
def momK (r:D):Key:= .inl (momI r)
def pileOf (n:Nat) (ss:List Str) (rows:List D):Bool:= !decide (rows.length=0) && (rows.all (isRow n ss) && dist (rows.map momK))
def isPile (n:Nat) (ss:List Str):D→Bool
 | .lst rows=>pileOf n ss rows
 | .tup rows=>pileOf n ss rows
 | _=>false
theorem row_mom {n:Nat} {ss:List Str} {d:D} (h:isRow n ss d=true):∃s v,d= .tup [.int (momI d),s,v]:=by
 unfold isRow at h
 split at h
 ·rename_i m s v
  rw [Bool.and_eq_true] at h
  cases m <;> try exact absurd h.1 Bool.false_ne_true
  exact ⟨s,v,rfl⟩
 ·cases h
theorem keysD_ints:∀rows:List D,keysD (rows.map fun r=>D.int (momI r))=some (rows.map momK)
 | []=>rfl
 | r :: rows=>by
  show (keysD (rows.map fun r=>D.int (momI r))).map (momK r :: ·)=_
  rw [keysD_ints rows]
  rfl
def sp_Shape_is_pile (A:Ad):SpD:=fun ds M Q _=>∃fs ss d,ds= [shp A fs ss,d]∧fs.length < 3000∧Nc d 50∧Q (.bl (isPile fs.length ss d)) M
def wb_Shape_is_pile (A:Ad):WS:=
 (wSeq (wIf (wOrT (wNotT (wTest (wCall (sp_is_listed A) (wCons (wVar 1) wNil)))) (wOrT (wTest (wOp (rEqD false) (wCB rLenD (wCons (wVar 1) wNil)) (wC (.int 0)))) (wNotT (wTest (wCB (rAllD false) (wCons (wLc (wiSeq (wVar 1)) (gN 2) wYes (wMeth A.c_Shape ns_Shape (sp_Shape_is_row A) (wVar 0) (wCons (wVar 2) wNil)) [2]) wNil))))))
 (wRet (wC (.bl false)))
 wNx)
 (wRet (wCall (sp_unlike A) (wCons (wLc (wiSeq (wVar 1)) (gN 2) wYes (wOp rIxD (wVar 2) (wC (.int 0))) [2]) wNil))))
theorem bd_Shape_is_pile {P:Program} {w:World} {K:PySem.W.Frag} {mg:Str→Option Value} {base:Heap} {A:Ad} (T:Txt P K mg A) (cdv:Value) (R:Around) (outer:List Env) (s:Shared) (H:Hp) (E:XK) (hr:Room 3 (R.deeper (envOfC "Shape.is_pile" (defScope s_Shape_is_pile) s.heap.objs.size A.f_Shape_is_pile cdv)))
  (tk:Takes (cxOf (L2.CX P w) P w K mg base N_Shape_is_pile "Shape.is_pile" (defScope s_Shape_is_pile) A.f_Shape_is_pile cdv R outer s H E) (WD E)):JSs (cxOf (L2.CX P w) P w K mg base N_Shape_is_pile "Shape.is_pile" (defScope s_Shape_is_pile) A.f_Shape_is_pile cdv R outer s H E) (WD E) (defBody s_Shape_is_pile) (wb_Shape_is_pile A):=
 (js_cons (js_if (jt_bool (jt_or (jt_not (jt_val (j_call (ok_is_listed T) hr (by decide) T.g_is_listed tk (j_cons (jv 1) j_nil)))) (jt_or (jt_cmp (od_eq hr.units) (j_callB cd_len T.n_len bo_len (j_cons (jv 1) j_nil)) j_int) (jt_or1 (jt_not (jt_val (j_callB (cd_all rfl) T.n_all bo_all (j_cons (j_lc (own:= [("row",2)]) rfl sc_Shape_is_pile.nd (ji_seq (jv 1)) (blkOk_by (own:= [("row",2)]) (N:=N_Shape_is_pile) (sc:=defScope s_Shape_is_pile) (by decide +kernel)) (fun _ _ _ _ _=>(jg_name (i:=2) sc_Shape_is_pile.nd)) (fun _ _ _ _ _=>jts_nil) (fun _ _ _ _ _=>(j_meth (C:=A.c_Shape) (ns:=ns_Shape) (jv 0) T.cl_Shape T.m_Shape_is_row (by decide +kernel) (ok_Shape_is_row T) hr (by decide) tkF (j_cons (jv 2) j_nil)))) j_nil))))))))
 (js_one (js_ret j_bl))
 js_nil)
 (js_one (js_ret (j_call (ok_unlike T) hr (by decide) T.g_unlike tk (j_cons (j_lc (own:= [("row",2)]) rfl sc_Shape_is_pile.nd (ji_seq (jv 1)) (blkOk_by (own:= [("row",2)]) (N:=N_Shape_is_pile) (sc:=defScope s_Shape_is_pile) (by decide +kernel)) (fun _ _ _ _ _=>(jg_name (i:=2) sc_Shape_is_pile.nd)) (fun _ _ _ _ _=>jts_nil) (fun _ _ _ _ _=>(j_ix id_ix (jv 2) j_int))) j_nil)))))
theorem rd_Shape_is_pile (A:Ad):∀ds M Q Xc,sp_Shape_is_pile A ds M Q Xc→ds.length=P_Shape_is_pile.length∧RD (wb_Shape_is_pile A) Q Xc (startD N_Shape_is_pile ds) M:=by
 rintro _ M Q Xc ⟨fs,ss,d,rfl,hl,hn,q⟩
 refine ⟨rfl,?_⟩
 rw [st_Shape_is_pile]
 have:=sizeLine_big
 have hp:=hn.pl
 have key:∀rows:List D,(d= .lst rows∨d= .tup rows)→rows.length < 3000→Ncs rows 49→RD (wb_Shape_is_pile A) Q Xc [some (shp A fs ss),some d,none] M:=by
  intro rows hd hrl hrn
  have q1:Q (.bl (pileOf fs.length ss rows)) M:=by rcases hd with rfl | rfl <;> exact q
  have e1:isSeq d=true:=by rcases hd with rfl | rfl <;> rfl
  have e2:seqOf M d=some rows:=by rcases hd with rfl | rfl <;> rfl
  have e3:frzSeq d=some rows:=by rcases hd with rfl | rfl <;> rfl
  have e4:rLenD [d] M=fun Q=>Q (.int rows.length) M:=by rcases hd with rfl | rfl <;> rfl
  simp only [RD,wb_Shape_is_pile,wIf,wOrT,wSeq_p,seqE_nx,seqE_rt,wNotT,wTest,wCall,wCons,wNil,wVar,wGet,List.getElem?_cons_zero,List.getElem?_cons_succ,isBl,sp_is_listed,wOp,wCB,wC,e4]
  refine ⟨d,rfl,hp,?_⟩
  rw [e1]
  simp only [↓pLcUO,↓pSrtSetO,↓pLstV,↓lvK_dct,↓pMakeD,↓rLenO_p,↓pOrX,↓rIsM_p,↓rMinL_p,↓rMax_p,↓rOr2_p,↓rOrs_p,↓pMakeKD,↓pDcU,↓zR,↓reduceIte,zV,wipeD,e3,wMeth]
  have e5:decide ((rows.length:Int)=0)=decide (rows.length=0):=by
   by_cases h:rows.length=0
   ·simp [h]
   ·simp [h]
  rw [e5]
  cases h0:decide (rows.length=0) with
  | true=>
   have e:pileOf fs.length ss rows=false:=by unfold pileOf;rw [h0];rfl
   rw [e] at q1
   simp only [↓pLcUO,↓pSrtSetO,↓pLstV,↓lvK_dct,↓pMakeD,↓rLenO_p,↓pOrX,↓rIsM_p,↓rMinL_p,↓rMax_p,↓rOr2_p,↓rOrs_p,↓pMakeKD,↓pDcU,↓zR,↓reduceIte,zV,wipeD]
   exact fin_of q1
  | false=>
   simp only [↓pLcUO,↓pSrtSetO,↓pLstV,↓lvK_dct,↓pMakeD,↓rLenO_p,↓pOrX,↓rIsM_p,↓rMinL_p,↓rMax_p,↓rOr2_p,↓rOrs_p,↓pMakeKD,↓pDcU,↓zR,↓reduceIte,zV,wipeD]
   refine (?_:lcR _ _ _ _ rows _ _ _)
   rw [← List.map_id rows]
   refine lcR_mapL id (fun x=> .bl (isRow fs.length ss x)) (fun x=>Nc x 49) (fun x acc R hx h=>?_) rows [] (fun x hx=>Ncs_iff.mp hrn x hx) (by simp only [List.length_nil];omega) ?_
   ·simp only [↓pLcUO,↓pSrtSetO,↓pLstV,↓lvK_dct,↓pMakeD,↓rLenO_p,↓pOrX,↓rIsM_p,↓rMinL_p,↓rMax_p,↓rOr2_p,↓rOrs_p,↓pMakeKD,↓pDcU,↓zR,↓reduceIte,zV,wipeD,id,shp]
    exact ⟨fs,ss,x,rfl,hl,Nc.mono _ _ _ (by decide) hx,h⟩
   ·rw [List.nil_append]
    simp only [rAllD,bools_map,↓pLcUO,↓pSrtSetO,↓pLstV,↓lvK_dct,↓pMakeD,↓rLenO_p,↓pOrX,↓rIsM_p,↓rMinL_p,↓rMax_p,↓rOr2_p,↓rOrs_p,↓pMakeKD,↓pDcU,↓zR,↓reduceIte,zV,wipeD]
    rw [List.all_map]
    have e:pileOf fs.length ss rows=(rows.all (isRow fs.length ss) && dist (rows.map momK)):=by unfold pileOf;rw [h0];rfl
    rw [e] at q1
    show if (!(rows.all (isRow fs.length ss)))=true then _ else _
    cases hr:rows.all (isRow fs.length ss) with
    | false=>
     rw [hr] at q1
     simp only [↓pLcUO,↓pSrtSetO,↓pLstV,↓lvK_dct,↓pMakeD,↓rLenO_p,↓pOrX,↓rIsM_p,↓rMinL_p,↓rMax_p,↓rOr2_p,↓rOrs_p,↓pMakeKD,↓pDcU,↓zR,↓reduceIte,zV,wipeD]
     exact fin_of q1
    | true=>
     rw [hr] at q1
     simp only [↓pLcUO,↓pSrtSetO,↓pLstV,↓lvK_dct,↓pMakeD,↓rLenO_p,↓pOrX,↓rIsM_p,↓rMinL_p,↓rMax_p,↓rOr2_p,↓rOrs_p,↓pMakeKD,↓pDcU,↓zR,↓reduceIte,zV,wipeD]
     refine lcR_mapL id (fun x=> .int (momI x)) (fun x=>isRow fs.length ss x=true) (fun x acc R hx h=>?_) rows [] (fun x hx=>List.all_eq_true.mp hr x hx) (by simp only [List.length_nil];omega) ?_
     ·obtain ⟨s,v,e⟩:=row_mom hx
      have e0:atI [D.int (momI x),s,v] (0:Int)=some (.int (momI x)):=rfl
      have e6:rIxD (id x) (.int 0) M=fun Q=>Q (.int (momI x)) M:=by
       show rIxD x (.int 0) M=_
       conv=>lhs;rw [e]
       funext Q
       simp only [↓pLcUO,↓pSrtSetO,↓pLstV,↓lvK_dct,↓pMakeD,↓rLenO_p,↓pOrX,↓rIsM_p,↓rMinL_p,↓rMax_p,↓rOr2_p,↓rOrs_p,↓pMakeKD,↓pDcU,↓zR,↓reduceIte,zV,wipeD,e0]
      simp only [gN,wYes,wOp,wVar,wGet,wC,List.set_cons_zero,List.set_cons_succ,List.getElem?_cons_zero,List.getElem?_cons_succ,e6,↓reduceIte]
      exact h
     ·rw [List.nil_append]
      exact ⟨_,_, .inl rfl,keysD_ints rows,by rw [List.length_map];omega,fin_of q1⟩
 cases d <;> try exact absurd hp Bool.false_ne_true
 case lst rows=>exact key rows (.inl rfl) hn.1.2 hn.2
 case tup rows=>exact key rows (.inr rfl) hn.1.2 hn.2
 all_goals simp only [RD,wb_Shape_is_pile,↓pLcUO,↓pSrtSetO,↓pLstV,↓lvK_dct,↓pMakeD,↓rLenO_p,↓pOrX,↓rIsM_p,↓rMinL_p,↓rMax_p,↓rOr2_p,↓rOrs_p,↓pMakeKD,↓pDcU,↓zR,↓reduceIte,zV,wipeD,sp_is_listed]
 all_goals exact ⟨_,rfl,rfl,fin_of q⟩
theorem ok_Shape_is_pile {P:Program} {w:World} {K:PySem.W.Frag} {mg:Str→Option Value} {base:Heap} {A:Ad} (T:Txt P K mg A):FnJ P w K mg base 4 A.f_Shape_is_pile (sp_Shape_is_pile A):=
 FnJ.mkAt T.d_Shape_is_pile sc_Shape_is_pile (fun cdv R outer s H E hr tk=>bd_Shape_is_pile T cdv R outer s H E hr tk) (rd_Shape_is_pile A)
theorem leaves_nc:∀(d:D) (n:Nat),Nc d n→Ncs (leavesD d) n
 | .tup [a,b],n,h=>by
  obtain ⟨h0,h1,h2,_⟩:=h
  simp only [leavesD]
  rw [Ncs_iff]
  intro z hz
  rcases List.mem_append.mp hz with hz | hz
  ·exact Nc.mono _ _ _ (Nat.sub_le _ _) (Ncs_iff.mp (leaves_nc a (n - 1) h1) z hz)
  ·exact Nc.mono _ _ _ (Nat.sub_le _ _) (Ncs_iff.mp (leaves_nc b (n - 1) h2) z hz)
 | .tup [],n,h=>by simp only [leavesD];exact ⟨h,trivial⟩
 | .tup [a],n,h=>by simp only [leavesD];exact ⟨h,trivial⟩
 | .tup (a :: b :: c :: ds),n,h=>by simp only [leavesD];exact ⟨h,trivial⟩
 | .non,n,h=>by simp only [leavesD];exact ⟨h,trivial⟩
 | .bl _,n,h=>by simp only [leavesD];exact ⟨h,trivial⟩
 | .int _,n,h=>by simp only [leavesD];exact ⟨h,trivial⟩
 | .str _,n,h=>by simp only [leavesD];exact ⟨h,trivial⟩
 | .ty _,n,h=>h.elim
 | .ref _,n,h=>h.elim
 | .lst _,n,h=>by simp only [leavesD];exact ⟨h,trivial⟩
 | .dct _ _,n,h=>h.elim
 | .ins _ _ _,n,h=>h.elim
 | .scr _,n,h=>h.elim
 | .tpn _,n,h=>h.elim
 | .exc _ _ _ _ _,n,h=>h.elim
def isTree (n:Nat) (ss:List Str) (d:D):Bool:=pileOf n ss (leavesD d)
def sp_Shape_is_tree (A:Ad):SpD:=fun ds M Q _=>∃fs ss d,ds= [shp A fs ss,d]∧fs.length < 3000∧Nc d 49∧(leavesD d).length < 3000∧Q (.bl (isTree fs.length ss d)) M
def wb_Shape_is_tree (A:Ad):WS:=
 (wRet (wMeth A.c_Shape ns_Shape (sp_Shape_is_pile A) (wVar 0) (wCons (wCall (sp_leaves A) (wCons (wVar 1) wNil)) wNil)))
theorem bd_Shape_is_tree {P:Program} {w:World} {K:PySem.W.Frag} {mg:Str→Option Value} {base:Heap} {A:Ad} (T:Txt P K mg A) (cdv:Value) (R:Around) (outer:List Env) (s:Shared) (H:Hp) (E:XK) (hr:Room 4 (R.deeper (envOfC "Shape.is_tree" (defScope s_Shape_is_tree) s.heap.objs.size A.f_Shape_is_tree cdv)))
  (tk:Takes (cxOf (L2.CX P w) P w K mg base N_Shape_is_tree "Shape.is_tree" (defScope s_Shape_is_tree) A.f_Shape_is_tree cdv R outer s H E) (WD E)):JSs (cxOf (L2.CX P w) P w K mg base N_Shape_is_tree "Shape.is_tree" (defScope s_Shape_is_tree) A.f_Shape_is_tree cdv R outer s H E) (WD E) (defBody s_Shape_is_tree) (wb_Shape_is_tree A):=
 (js_one (js_ret (j_meth (C:=A.c_Shape) (ns:=ns_Shape) (jv 0) T.cl_Shape T.m_Shape_is_pile (by decide +kernel) (ok_Shape_is_pile T) hr (by decide) tk (j_cons (j_call (ok_leaves T) hr (by decide) T.g_leaves tk (j_cons (jv 1) j_nil)) j_nil))))
theorem rd_Shape_is_tree (A:Ad):∀ds M Q Xc,sp_Shape_is_tree A ds M Q Xc→ds.length=P_Shape_is_tree.length∧RD (wb_Shape_is_tree A) Q Xc (startD N_Shape_is_tree ds) M:=by
 rintro _ M Q Xc ⟨fs,ss,d,rfl,hl,hn,hz,q⟩
 refine ⟨rfl,?_⟩
 rw [st_Shape_is_tree]
 simp only [RD,wb_Shape_is_tree,↓pLcUO,↓pSrtSetO,↓pLstV,↓lvK_dct,↓pMakeD,↓rLenO_p,↓pOrX,↓rIsM_p,↓rMinL_p,↓rMax_p,↓rOr2_p,↓rOrs_p,↓pMakeKD,↓pDcU,↓zR,↓reduceIte,zV,wipeD,shp,sp_leaves]
 refine ⟨d,rfl,Nc.mono _ _ _ (by decide) hn,hz,?_⟩
 exact ⟨fs,ss,_,rfl,hl,⟨⟨by decide,hz⟩,leaves_nc d 49 hn⟩,fin_of q⟩
theorem ok_Shape_is_tree {P:Program} {w:World} {K:PySem.W.Frag} {mg:Str→Option Value} {base:Heap} {A:Ad} (T:Txt P K mg A):FnJ P w K mg base 5 A.f_Shape_is_tree (sp_Shape_is_tree A):=
 FnJ.mkAt T.d_Shape_is_tree sc_Shape_is_tree (fun cdv R outer s H E hr tk=>bd_Shape_is_tree T cdv R outer s H E hr tk) (rd_Shape_is_tree A)
def cols (fs:List Str):List Str:="moment" :: "source" :: fs
def sp_Shape_columns (A:Ad):SpD:=fun ds M Q _=>∃fs ss,ds= [shp A fs ss]∧fs.length < 3000∧Q (.tup ((cols fs).map D.str)) M
def wb_Shape_columns (A:Ad):WS:=
 (wRet (wOp rAddD (wC k_OWN_COLUMNS) (wFld A.c_Shape ns_Shape 0 (wVar 0))))
theorem bd_Shape_columns {P:Program} {w:World} {K:PySem.W.Frag} {mg:Str→Option Value} {base:Heap} {A:Ad} (T:Txt P K mg A) (cdv:Value) (R:Around) (outer:List Env) (s:Shared) (H:Hp) (E:XK) (hr:Room 0 (R.deeper (envOfC "Shape.columns" (defScope s_Shape_columns) s.heap.objs.size A.f_Shape_columns cdv)))
  (tk:Takes (cxOf (L2.CX P w) P w K mg base N_Shape_columns "Shape.columns" (defScope s_Shape_columns) A.f_Shape_columns cdv R outer s H E) (WD E)):JSs (cxOf (L2.CX P w) P w K mg base N_Shape_columns "Shape.columns" (defScope s_Shape_columns) A.f_Shape_columns cdv R outer s H E) (WD E) (defBody s_Shape_columns) (wb_Shape_columns A):=
 (js_one (js_ret (j_op od_add (j_k T.k_OWN_COLUMNS) (j_fld (C:=A.c_Shape) (ns:=ns_Shape) (i:=0) T.cl_Shape T.na_Shape_own_fields (by decide +kernel) (jv 0)))))
theorem rd_Shape_columns (A:Ad):∀ds M Q Xc,sp_Shape_columns A ds M Q Xc→ds.length=P_Shape_columns.length∧RD (wb_Shape_columns A) Q Xc (startD N_Shape_columns ds) M:=by
 rintro _ M Q Xc ⟨fs,ss,rfl,hl,q⟩
 refine ⟨rfl,?_⟩
 rw [st_Shape_columns]
 have:=sizeLine_big
 simp only [RD,wb_Shape_columns,↓pGen,↓pGenM,↓pGenMK,↓pForN,↓pLcN,↓piZipN,↓pDclr,↓pLcUO,↓pSrtSetO,↓pLstV,↓lvK_dct,↓pMakeD,↓rLenO_p,↓pOrX,↓rIsM_p,↓rMinL_p,↓rMax_p,↓rOr2_p,↓rOrs_p,↓pMakeKD,↓pDcU,↓zR,↓reduceIte,zV,wipeD,shp,k_OWN_COLUMNS,List.length_map]
 exact ⟨by omega,fin_of q⟩
theorem ok_Shape_columns {P:Program} {w:World} {K:PySem.W.Frag} {mg:Str→Option Value} {base:Heap} {A:Ad} (T:Txt P K mg A):FnJ P w K mg base 1 A.f_Shape_columns (sp_Shape_columns A):=
 FnJ.mkAt T.d_Shape_columns sc_Shape_columns (fun cdv R outer s H E hr tk=>bd_Shape_columns T cdv R outer s H E hr tk) (rd_Shape_columns A)
def rowD (m:Int) (s:Str) (vs:List D):D:= .tup [.int m, .str s, .tup vs]
abbrev xRow (A:Ad) (d:D):Exn:= .own A.c_InvalidRow ["tag","given"] [.str "InvalidRow",d]
theorem isRow_shape {n:Nat} {ss:List Str} {d:D} (h:isRow n ss d=true):∃m s vs,d=rowD m s vs∧vs.length=n:=by
 unfold isRow at h
 split at h
 ·rename_i m s v
  rw [Bool.and_eq_true,Bool.and_eq_true] at h
  obtain ⟨h1,h2,h3⟩:=h
  cases m <;> try exact absurd h1 Bool.false_ne_true
  cases s <;> try exact absurd h2 Bool.false_ne_true
  cases v <;> try exact absurd h3 Bool.false_ne_true
  rename_i m s vs
  have e:(decide (vs.length=n) && vs.all wordOk)=true:=h3
  rw [Bool.and_eq_true] at e
  exact ⟨m,s,vs,rfl,of_decide_eq_true e.1⟩
 ·cases h
def spx_need_row (A:Ad):SpD:=fun ds M Q Xc=>∃fs ss d,ds= [shp A fs ss,d]∧fs.length < 3000∧Nc d 50∧(isRow fs.length ss d=true→Q .non M)∧(isRow fs.length ss d=false→Xc (xRow A d) M)
abbrev sp_Shape_need_row:=spx_need_row
def wb_Shape_need_row (A:Ad):WS:=
 (wIf (wNotT (wTest (wMeth A.c_Shape ns_Shape (sp_Shape_is_row A) (wVar 0) (wCons (wVar 1) wNil))))
 (wRaise A.c_InvalidRow ["given"] "InvalidRow" (wCons (wVar 1) wNil))
 wNx)
theorem bd_Shape_need_row {P:Program} {w:World} {K:PySem.W.Frag} {mg:Str→Option Value} {base:Heap} {A:Ad} (T:Txt P K mg A) (cdv:Value) (R:Around) (outer:List Env) (s:Shared) (H:Hp) (E:XK) (hr:Room 4 (R.deeper (envOfC "Shape.need_row" (defScope s_Shape_need_row) s.heap.objs.size A.f_Shape_need_row cdv)))
  (tk:Takes (cxOf (L2.CX P w) P w K mg base N_Shape_need_row "Shape.need_row" (defScope s_Shape_need_row) A.f_Shape_need_row cdv R outer s H E) (WD E)):JSs (cxOf (L2.CX P w) P w K mg base N_Shape_need_row "Shape.need_row" (defScope s_Shape_need_row) A.f_Shape_need_row cdv R outer s H E) (WD E) (defBody s_Shape_need_row) (wb_Shape_need_row A):=
 (js_one (js_if (jt_not (jt_val (j_meth (C:=A.c_Shape) (ns:=ns_Shape) (jv 0) T.cl_Shape T.m_Shape_is_row (by decide +kernel) (ok_Shape_is_row T) hr (by decide) tk (j_cons (jv 1) j_nil))))
 (js_one (js_raise rfl (xj_InvalidRow T) hr (by decide) tk T.g_InvalidRow (by decide) (j_cons (jv 1) j_nil)))
 js_nil))
theorem rd_Shape_need_row (A:Ad):∀ds M Q Xc,sp_Shape_need_row A ds M Q Xc→ds.length=P_Shape_need_row.length∧RD (wb_Shape_need_row A) Q Xc (startD N_Shape_need_row ds) M:=by
 rintro _ M Q Xc ⟨fs,ss,d,rfl,hl,hn,q1,q2⟩
 refine ⟨rfl,?_⟩
 rw [st_Shape_need_row]
 simp only [RD,wb_Shape_need_row,↓pGen,↓pGenM,↓pGenMK,↓pForN,↓pLcN,↓piZipN,↓pDclr,↓pLcUO,↓pSrtSetO,↓pLstV,↓lvK_dct,↓pMakeD,↓rLenO_p,↓pOrX,↓rIsM_p,↓rMinL_p,↓rMax_p,↓rOr2_p,↓rOrs_p,↓pMakeKD,↓pDcU,↓zR,↓reduceIte,zV,wipeD,shp]
 refine ⟨fs,ss,d,rfl,hl,hn,?_⟩
 cases hr:isRow fs.length ss d with
 | true=>
  simp only [↓pGen,↓pGenM,↓pGenMK,↓pForN,↓pLcN,↓piZipN,↓pDclr,↓pLcUO,↓pSrtSetO,↓pLstV,↓lvK_dct,↓pMakeD,↓rLenO_p,↓pOrX,↓rIsM_p,↓rMinL_p,↓rMax_p,↓rOr2_p,↓rOrs_p,↓pMakeKD,↓pDcU,↓zR,↓reduceIte,zV,wipeD]
  exact fin_of (q1 hr)
 | false=>
  simp only [pRaise,↓pGen,↓pGenM,↓pGenMK,↓pForN,↓pLcN,↓piZipN,↓pDclr,↓pLcUO,↓pSrtSetO,↓pLstV,↓lvK_dct,↓pMakeD,↓rLenO_p,↓pOrX,↓rIsM_p,↓rMinL_p,↓rMax_p,↓rOr2_p,↓rOrs_p,↓pMakeKD,↓pDcU,↓zR,↓reduceIte,zV,wipeD]
  exact q2 hr
theorem ok_Shape_need_row {P:Program} {w:World} {K:PySem.W.Frag} {mg:Str→Option Value} {base:Heap} {A:Ad} (T:Txt P K mg A):FnJ P w K mg base 5 A.f_Shape_need_row (sp_Shape_need_row A):=
 FnJ.mkAt T.d_Shape_need_row sc_Shape_need_row (fun cdv R outer s H E hr tk=>bd_Shape_need_row T cdv R outer s H E hr tk) (rd_Shape_need_row A)
def shtO (fs:List Str) (m:Int) (s:Str) (vs:List D):MO:= .dct ((cols fs).map Sum.inr) (.int m :: .str s :: vs)
def spx_sheet (A:Ad):SpD:=fun ds M Q Xc=>∃fs ss d,ds= [shp A fs ss,d]∧NamesOk fs∧OwnOk fs∧Nc d 50∧(∀m s vs,d=rowD m s vs→vs.length=fs.length→isRow fs.length ss d=true→∀a,M a=none→Q (.ref a) (mput M a (shtO fs m s vs)))∧(isRow fs.length ss d=false→Xc (xRow A d) M)
abbrev sp_Shape_sheet:=spx_sheet
def wb_Shape_sheet (A:Ad):WS:=
 (wSeq (wDrop (wMeth A.c_Shape ns_Shape (sp_Shape_need_row A) (wVar 0) (wCons (wVar 1) wNil)))
 (wRet (wDzipO (wCons (wProp A.c_Shape ns_Shape (sp_Shape_columns A) (wVar 0)) (wCons (wOp rAddD (wTup (wCons (wOp rIxD (wVar 1) (wC (.int 0))) (wCons (wOp rIxD (wVar 1) (wC (.int 1))) wNil))) (wOp rIxD (wVar 1) (wC (.int 2)))) wNil)))))
theorem bd_Shape_sheet {P:Program} {w:World} {K:PySem.W.Frag} {mg:Str→Option Value} {base:Heap} {A:Ad} (T:Txt P K mg A) (cdv:Value) (R:Around) (outer:List Env) (s:Shared) (H:Hp) (E:XK) (hr:Room 5 (R.deeper (envOfC "Shape.sheet" (defScope s_Shape_sheet) s.heap.objs.size A.f_Shape_sheet cdv)))
  (tk:Takes (cxOf (L2.CX P w) P w K mg base N_Shape_sheet "Shape.sheet" (defScope s_Shape_sheet) A.f_Shape_sheet cdv R outer s H E) (WD E)):JSs (cxOf (L2.CX P w) P w K mg base N_Shape_sheet "Shape.sheet" (defScope s_Shape_sheet) A.f_Shape_sheet cdv R outer s H E) (WD E) (defBody s_Shape_sheet) (wb_Shape_sheet A):=
 (js_cons (js_expr (j_meth (C:=A.c_Shape) (ns:=ns_Shape) (jv 0) T.cl_Shape T.m_Shape_need_row (by decide +kernel) (ok_Shape_need_row T) hr (by decide) tk (j_cons (jv 1) j_nil)))
 (js_one (js_ret (j_dzipO rfl T.n_dict T.n_zip (j_cons (j_prop (C:=A.c_Shape) (ns:=ns_Shape) (jv 0) T.cl_Shape T.p_Shape_columns (ok_Shape_columns T) hr (by decide)) (j_cons (j_op od_add (j_tup (j_cons (j_ix id_ix (jv 1) j_int) (j_cons (j_ix id_ix (jv 1) j_int) j_nil))) (j_ix id_ix (jv 1) j_int)) j_nil))))))
theorem cols_ndx {fs:List Str} (hf:NamesOk fs) (ho:OwnOk fs):(cols fs).Nodup:=by
 refine List.nodup_cons.mpr ⟨fun h=>?_,List.nodup_cons.mpr ⟨ho.s,hf.nd⟩⟩
 rcases List.mem_cons.mp h with h | h
 ·exact absurd h (by decide +kernel)
 ·exact ho.m h
theorem keys_ndx {xs:List Str} (h:xs.Nodup):(xs.map (Sum.inr:Str→Key)).Nodup:=List.Pairwise.map _ (fun a b hn e=>hn (Sum.inr.inj e)) h
theorem rd_Shape_sheet (A:Ad):∀ds M Q Xc,sp_Shape_sheet A ds M Q Xc→ds.length=P_Shape_sheet.length∧RD (wb_Shape_sheet A) Q Xc (startD N_Shape_sheet ds) M:=by
 rintro _ M Q Xc ⟨fs,ss,d,rfl,hf,ho,hn,q1,q2⟩
 refine ⟨rfl,?_⟩
 rw [st_Shape_sheet]
 have big:=sizeLine_big
 have f5:=hf.hi
 simp only [RD,wb_Shape_sheet,↓pGen,↓pGenM,↓pGenMK,↓pForN,↓pLcN,↓piZipN,↓pDclr,↓pLcUO,↓pSrtSetO,↓pLstV,↓lvK_dct,↓pMakeD,↓rLenO_p,↓pOrX,↓rIsM_p,↓rMinL_p,↓rMax_p,↓rOr2_p,↓rOrs_p,↓pMakeKD,↓pDcU,↓zR,↓reduceIte,zV,wipeD,shp]
 refine ⟨fs,ss,_,rfl,by omega,hn,fun hr=>?_,fun hr=>by simp only [ED.xc,seqE_ex];exact q2 hr⟩
 obtain ⟨m,s,vs,rfl,hl⟩:=isRow_shape hr
 simp only [↓pGen,↓pGenM,↓pGenMK,↓pForN,↓pLcN,↓piZipN,↓pDclr,↓pLcUO,↓pSrtSetO,↓pLstV,↓lvK_dct,↓pMakeD,↓rLenO_p,↓pOrX,↓rIsM_p,↓rMinL_p,↓rMax_p,↓rOr2_p,↓rOrs_p,↓pMakeKD,↓pDcU,↓zR,↓reduceIte,zV,wipeD,rowD]
 refine ⟨fs,ss,rfl,by omega,by omega,by omega,?_⟩
 simp only [↓pGen,↓pGenM,↓pGenMK,↓pForN,↓pLcN,↓piZipN,↓pDclr,↓pLcUO,↓pSrtSetO,↓pLstV,↓lvK_dct,↓pMakeD,↓rLenO_p,↓pOrX,↓rIsM_p,↓rMinL_p,↓rMax_p,↓rOr2_p,↓rOrs_p,↓pMakeKD,↓pDcU,↓zR,↓reduceIte,zV,wipeD,keysD_strs]
 refine ⟨keys_ndx (cols_ndx hf ho),?_,?_,fun a ha=>fin_of (q1 m s vs rfl hl hr a ha)⟩
 ·simp only [List.length_map,cols,List.length_cons,List.length_append,List.length_nil,hl];omega
 ·simp only [List.length_map,cols,List.length_cons];omega
theorem ok_Shape_sheet {P:Program} {w:World} {K:PySem.W.Frag} {mg:Str→Option Value} {base:Heap} {A:Ad} (T:Txt P K mg A):FnJ P w K mg base 6 A.f_Shape_sheet (sp_Shape_sheet A):=
 FnJ.mkAt T.d_Shape_sheet sc_Shape_sheet (fun cdv R outer s H E hr tk=>bd_Shape_sheet T cdv R outer s H E hr tk) (rd_Shape_sheet A)
end DL.K05
set_option maxHeartbeats 1000000
namespace DL.K05
open PySem PySem.Spec PyProof.Rows L2 RZ
def wb__law_field (K:PySem.W.Frag) (A:Ad) (a dd C:Addr):WS:=
 (wSeq (wIf (wTest (wOp (rInD false) (wXf K a dd C "tag" (wVar 0)) (wTup (wCons (wC (.str "InvalidShape")) (wCons (wC (.str "ParseError")) wNil)))))
 (wRet (wTup (wCons (wXf K a dd C "at" (wVar 0)) wNil)))
 wNx)
 (wSeq (wIf (wTest (wOp (rInD false) (wXf K a dd C "tag" (wVar 0)) (wTup (wCons (wC (.str "InvalidRow")) (wCons (wC (.str "InvalidMost")) (wCons (wC (.str "InvalidDepth")) (wCons (wC (.str "InvalidLimit")) (wCons (wC (.str "InvalidName")) wNil))))))))
 (wRet (wTup (wCons (wXf K a dd C "given" (wVar 0)) wNil)))
 wNx)
 (wSeq (wIf (wTest (wOp (rInD false) (wXf K a dd C "tag" (wVar 0)) (wTup (wCons (wC (.str "DuplicateName")) (wCons (wC (.str "SameName")) (wCons (wC (.str "WrongKind")) (wCons (wC (.str "UnknownName")) wNil)))))))
 (wRet (wTup (wCons (wXf K a dd C "name" (wVar 0)) wNil)))
 wNx)
 (wSeq (wIf (wTest (wOp (rInD false) (wXf K a dd C "tag" (wVar 0)) (wTup (wCons (wC (.str "AlreadyMerged")) (wCons (wC (.str "NotMerged")) wNil)))))
 (wRet (wTup (wCons (wXf K a dd C "one" (wVar 0)) (wCons (wXf K a dd C "other" (wVar 0)) wNil))))
 wNx)
 (wSeq (wIf (wTest (wOp (rInD false) (wXf K a dd C "tag" (wVar 0)) (wTup (wCons (wC (.str "DuplicateMoment")) (wCons (wC (.str "UnknownMoment")) wNil)))))
 (wRet (wTup (wCons (wXf K a dd C "moment" (wVar 0)) wNil)))
 wNx)
 (wSeq (wIf (wTest (wOp (rInD false) (wXf K a dd C "tag" (wVar 0)) (wTup (wCons (wC (.str "Full")) (wCons (wC (.str "TooWide")) wNil)))))
 (wRet (wTup (wCons (wXf K a dd C "most" (wVar 0)) wNil)))
 wNx)
 (wSeq (wIf (wTest (wOp (rInD false) (wXf K a dd C "tag" (wVar 0)) (wTup (wCons (wC (.str "InvalidForm")) (wCons (wC (.str "InvalidDeed")) wNil)))))
 (wRet (wIfE (wTest (wOp (rEqD false) (wXf K a dd C "tag" (wVar 0)) (wC (.str "InvalidForm")))) (wTup (wCons (wXf K a dd C "path" (wVar 0)) wNil)) (wTup (wCons (wXf K a dd C "word" (wVar 0)) wNil))))
 wNx)
 (wRet (wIfE (wTest (wOp (rEqD false) (wXf K a dd C "tag" (wVar 0)) (wC (.str "InvalidPage")))) (wTup (wCons (wXf K a dd C "line" (wVar 0)) wNil)) (wTup wNil))))))))))
theorem bd__law_field {P:Program} {w:World} {K:PySem.W.Frag} {mg:Str→Option Value} {base:Heap} {A:Ad} (T:Txt P K mg A) (cdv:Value) (R:Around) (outer:List Env) (s:Shared) (H:Hp) (p:Addr×Obj) (a dd C:Addr) (hr:L2H.RoomH 0 (R.deeper (envOfC "_law_field" (defScope s__law_field) s.heap.objs.size A.f__law_field cdv))) (px:PinX p a dd C)
  :JSs (L2H.cxH CX0 P w K mg base N__law_field "_law_field" (defScope s__law_field) A.f__law_field cdv R outer s H E0 p) WF (defBody s__law_field) (wb__law_field K A a dd C):=
 have hp:p∈([p]:List (Addr×Obj)):=List.mem_cons_self
 (js_cons (js_if (jt_cmp od_in (j_xf hp px (jv 0)) (j_tup (j_cons j_str (j_cons j_str j_nil))))
 (js_one (js_ret (j_tup (j_cons (j_xf hp px (jv 0)) j_nil))))
 js_nil)
 (js_cons (js_if (jt_cmp od_in (j_xf hp px (jv 0)) (j_tup (j_cons j_str (j_cons j_str (j_cons j_str (j_cons j_str (j_cons j_str j_nil)))))))
 (js_one (js_ret (j_tup (j_cons (j_xf hp px (jv 0)) j_nil))))
 js_nil)
 (js_cons (js_if (jt_cmp od_in (j_xf hp px (jv 0)) (j_tup (j_cons j_str (j_cons j_str (j_cons j_str (j_cons j_str j_nil))))))
 (js_one (js_ret (j_tup (j_cons (j_xf hp px (jv 0)) j_nil))))
 js_nil)
 (js_cons (js_if (jt_cmp od_in (j_xf hp px (jv 0)) (j_tup (j_cons j_str (j_cons j_str j_nil))))
 (js_one (js_ret (j_tup (j_cons (j_xf hp px (jv 0)) (j_cons (j_xf hp px (jv 0)) j_nil)))))
 js_nil)
 (js_cons (js_if (jt_cmp od_in (j_xf hp px (jv 0)) (j_tup (j_cons j_str (j_cons j_str j_nil))))
 (js_one (js_ret (j_tup (j_cons (j_xf hp px (jv 0)) j_nil))))
 js_nil)
 (js_cons (js_if (jt_cmp od_in (j_xf hp px (jv 0)) (j_tup (j_cons j_str (j_cons j_str j_nil))))
 (js_one (js_ret (j_tup (j_cons (j_xf hp px (jv 0)) j_nil))))
 js_nil)
 (js_cons (js_if (jt_cmp od_in (j_xf hp px (jv 0)) (j_tup (j_cons j_str (j_cons j_str j_nil))))
 (js_one (js_ret (j_if (jt_cmp (od_eq hr.units) (j_xf hp px (jv 0)) j_str) (j_tup (j_cons (j_xf hp px (jv 0)) j_nil)) (j_tup (j_cons (j_xf hp px (jv 0)) j_nil)))))
 js_nil)
 (js_one (js_ret (j_if (jt_cmp (od_eq hr.units) (j_xf hp px (jv 0)) j_str) (j_tup (j_cons (j_xf hp px (jv 0)) j_nil)) (j_tup j_nil)))))))))))
theorem pXf {K:PySem.W.Frag} {a dd C:Addr} {f:Str} {we:WE} {ds:SD} {M:Mem} {Q:KN} {Xc:KX}:wXf K a dd C f we ds M Q Xc=we ds M (fun d M1=>∃ns xs i v,d= .exc a dd C ns xs∧XfC K C∧PySem.W.findIn K (.ref C) f=some none∧ns.findIdx? (· == f)=some i∧xs[i]?=some v∧Q v M1) Xc:=propext Iff.rfl
theorem xf_step {K:PySem.W.Frag} {a dd C:Addr} {ns:List Str} {xs:List D} {f:Str} {i:Nat} {v:D} {k:D→Prop} (hx:XfC K C) (h1:PySem.W.findIn K (.ref C) f=some none) (h2:ns.findIdx? (· == f)=some i) (h3:xs[i]?=some v) (h4:k v):
  ∃ns' xs' i v,D.exc a dd C ns xs= .exc a dd C ns' xs'∧XfC K C∧PySem.W.findIn K (.ref C) f=some none∧ns'.findIdx? (· == f)=some i∧xs'[i]?=some v∧k v:=⟨_,_,i,v,rfl,hx,h1,h2,h3,h4⟩
theorem rd__law_field {P:Program} {K:PySem.W.Frag} {mg:Str→Option Value} {A:Ad} (T:Txt P K mg A):∀a dd C ns xs M Q,spFd (xt A) C ns xs M Q→wb__law_field K A a dd C {nx:=fun _ M=>Fin Q .non M,rt:=Fin Q,ex:=fun _ _ _=>False} (startD N__law_field [.exc a dd C ns xs]) M:=by
 rintro a dd C ns ds M Q ⟨tag,fs,xs,hin,rfl,rfl,hl,q⟩
 have big:=sizeLine_big
 rw [st__law_field]
 simp only [xt,List.mem_cons,List.not_mem_nil,or_false,Prod.mk.injEq] at hin
 rcases hin with ⟨rfl,rfl,rfl⟩ | ⟨rfl,rfl,rfl⟩ | ⟨rfl,rfl,rfl⟩
 ·obtain ⟨y0,rfl⟩:∃y0,xs= [y0]:=by
   match xs,hl with
   | [y0],_=>exact ⟨y0,rfl⟩
  have hx:=T.x_InvalidRow.xf
  simp only [wb__law_field,pXf,↓pGen,↓pGenM,↓pGenMK,↓pForN,↓pLcN,↓piZipN,↓pDclr,↓pLcUO,↓pSrtSetO,↓pLstV,↓lvK_dct,↓pMakeD,↓rLenO_p,↓pOrX,↓rIsM_p,↓rMinL_p,↓rMax_p,↓rOr2_p,↓rOrs_p,↓pMakeKD,↓pDcU,↓zR,↓reduceIte,zV,wipeD]
  refine xf_step hx T.nf_InvalidRow_tag rfl rfl ?_
  refine ⟨by omega,rfl,rfl,?_⟩
  rw [if_neg (by decide)]
  refine xf_step hx T.nf_InvalidRow_tag rfl rfl ?_
  refine ⟨by omega,rfl,rfl,?_⟩
  rw [if_pos (by decide)]
  refine xf_step hx T.nf_InvalidRow_given rfl rfl ?_
  exact ⟨by omega,fin_of q⟩
 ·obtain rfl:xs= []:=List.eq_nil_of_length_eq_zero hl
  have hx:=T.x_InvalidPile.xf
  simp only [wb__law_field,pXf,↓pGen,↓pGenM,↓pGenMK,↓pForN,↓pLcN,↓piZipN,↓pDclr,↓pLcUO,↓pSrtSetO,↓pLstV,↓lvK_dct,↓pMakeD,↓rLenO_p,↓pOrX,↓rIsM_p,↓rMinL_p,↓rMax_p,↓rOr2_p,↓rOrs_p,↓pMakeKD,↓pDcU,↓zR,↓reduceIte,zV,wipeD]
  refine xf_step hx T.nf_InvalidPile_tag rfl rfl ?_
  refine ⟨by omega,rfl,rfl,?_⟩
  rw [if_neg (by decide)]
  refine xf_step hx T.nf_InvalidPile_tag rfl rfl ?_
  refine ⟨by omega,rfl,rfl,?_⟩
  rw [if_neg (by decide)]
  refine xf_step hx T.nf_InvalidPile_tag rfl rfl ?_
  refine ⟨by omega,rfl,rfl,?_⟩
  rw [if_neg (by decide)]
  refine xf_step hx T.nf_InvalidPile_tag rfl rfl ?_
  refine ⟨by omega,rfl,rfl,?_⟩
  rw [if_neg (by decide)]
  refine xf_step hx T.nf_InvalidPile_tag rfl rfl ?_
  refine ⟨by omega,rfl,rfl,?_⟩
  rw [if_neg (by decide)]
  refine xf_step hx T.nf_InvalidPile_tag rfl rfl ?_
  refine ⟨by omega,rfl,rfl,?_⟩
  rw [if_neg (by decide)]
  refine xf_step hx T.nf_InvalidPile_tag rfl rfl ?_
  refine ⟨by omega,rfl,rfl,?_⟩
  rw [if_neg (by decide)]
  refine xf_step hx T.nf_InvalidPile_tag rfl rfl ?_
  simp only [↓pGen,↓pGenM,↓pGenMK,↓pForN,↓pLcN,↓piZipN,↓pDclr,↓pLcUO,↓pSrtSetO,↓pLstV,↓lvK_dct,↓pMakeD,↓rLenO_p,↓pOrX,↓rIsM_p,↓rMinL_p,↓rMax_p,↓rOr2_p,↓rOrs_p,↓pMakeKD,↓pDcU,↓zR,↓reduceIte,zV,wipeD]
  rw [if_neg (by decide)]
  exact ⟨by omega,fin_of q⟩
 ·obtain rfl:xs= []:=List.eq_nil_of_length_eq_zero hl
  have hx:=T.x_InvalidTree.xf
  simp only [wb__law_field,pXf,↓pGen,↓pGenM,↓pGenMK,↓pForN,↓pLcN,↓piZipN,↓pDclr,↓pLcUO,↓pSrtSetO,↓pLstV,↓lvK_dct,↓pMakeD,↓rLenO_p,↓pOrX,↓rIsM_p,↓rMinL_p,↓rMax_p,↓rOr2_p,↓rOrs_p,↓pMakeKD,↓pDcU,↓zR,↓reduceIte,zV,wipeD]
  refine xf_step hx T.nf_InvalidTree_tag rfl rfl ?_
  refine ⟨by omega,rfl,rfl,?_⟩
  rw [if_neg (by decide)]
  refine xf_step hx T.nf_InvalidTree_tag rfl rfl ?_
  refine ⟨by omega,rfl,rfl,?_⟩
  rw [if_neg (by decide)]
  refine xf_step hx T.nf_InvalidTree_tag rfl rfl ?_
  refine ⟨by omega,rfl,rfl,?_⟩
  rw [if_neg (by decide)]
  refine xf_step hx T.nf_InvalidTree_tag rfl rfl ?_
  refine ⟨by omega,rfl,rfl,?_⟩
  rw [if_neg (by decide)]
  refine xf_step hx T.nf_InvalidTree_tag rfl rfl ?_
  refine ⟨by omega,rfl,rfl,?_⟩
  rw [if_neg (by decide)]
  refine xf_step hx T.nf_InvalidTree_tag rfl rfl ?_
  refine ⟨by omega,rfl,rfl,?_⟩
  rw [if_neg (by decide)]
  refine xf_step hx T.nf_InvalidTree_tag rfl rfl ?_
  refine ⟨by omega,rfl,rfl,?_⟩
  rw [if_neg (by decide)]
  refine xf_step hx T.nf_InvalidTree_tag rfl rfl ?_
  simp only [↓pGen,↓pGenM,↓pGenMK,↓pForN,↓pLcN,↓piZipN,↓pDclr,↓pLcUO,↓pSrtSetO,↓pLstV,↓lvK_dct,↓pMakeD,↓rLenO_p,↓pOrX,↓rIsM_p,↓rMinL_p,↓rMax_p,↓rOr2_p,↓rOrs_p,↓pMakeKD,↓pDcU,↓zR,↓reduceIte,zV,wipeD]
  rw [if_neg (by decide)]
  exact ⟨by omega,fin_of q⟩
theorem ok__law_field {P:Program} {w:World} {K:PySem.W.Frag} {mg:Str→Option Value} {base:Heap} {A:Ad} (T:Txt P K mg A):FnXJ P w K mg base 1 A.f__law_field (spFd (xt A)):=
 FnXJ.mkAt T.d__law_field sc__law_field (fun cdv R outer s H p a dd C hr px=>bd__law_field T cdv R outer s H p a dd C hr px) (rd__law_field T)
theorem tg {X:Cx} {A:Ad} {q:Str} (T:Txt X.prog X.K X.mg A) (hr:Room 70 X.A):∀cdv,LamX.GivesTo X N__law_try "_law_try" (defScope s__law_try) A.f__law_try cdv (defBody s__law_try) "_law_ask" q (TTry X.K (xcs A) (spFd (xt A))):=fun cdv=>
 try_gives (fun L=>hr.deeper _) (by decide) (ok__law_field T) T.g__law_field sc__law_try.nd rfl rfl rfl rfl rfl rfl T.g_SightError T.g_Missing T.g_NothingLeft (by decide) (by decide) (by decide) (by decide) (by decide) (by decide) (fun _=>rfl)
def bagO (cs:List Int) (i c s n:Int):MO:= .lst [.lst (cs.map D.int), .int i, .int c, .int s, .int n]
structure Bg0 (cs:List Int) (i c s n:Int):Prop where
 i0:0≤i
 c0:0≤c
 s0:0≤s
 s1:s < 2147483587
def Bg (o:MO):Prop:=∃cs i c s n,o=bagO cs i c s n∧Bg0 cs i c s n
def sp__law_opened (A:Ad):SpD:=fun ds M Q _=>∃ns d,ds= [d]∧ScrD ns d∧∀b o,M b=none→Bg o→Q (.ref b) (mput M b o)
def wb__law_opened (A:Ad):WS:=
 (wRet (wLstO (wCons (wCB rListD (wCons (wSl (wVar 0) wNo (wSome (wC (.int 63)))) wNil)) (wCons (wC (.int 0)) (wCons (wC (.int 0)) (wCons (wC (.int 5631)) (wCons (wC (.int 0)) wNil)))))))
theorem bd__law_opened {P:Program} {w:World} {K:PySem.W.Frag} {mg:Str→Option Value} {base:Heap} {A:Ad} (T:Txt P K mg A) (cdv:Value) (R:Around) (outer:List Env) (s:Shared) (H:Hp) (E:XK) (hr:Room 0 (R.deeper (envOfC "_law_opened" (defScope s__law_opened) s.heap.objs.size A.f__law_opened cdv)))
  (tk:Takes (cxOf (L2.CX P w) P w K mg base N__law_opened "_law_opened" (defScope s__law_opened) A.f__law_opened cdv R outer s H E) (WD E)):JSs (cxOf (L2.CX P w) P w K mg base N__law_opened "_law_opened" (defScope s__law_opened) A.f__law_opened cdv R outer s H E) (WD E) (defBody s__law_opened) (wb__law_opened A):=
 (js_one (js_ret (j_lstO (j_cons (j_callTy cd_list T.n_list bo_list (j_cons (j_sl (jv 0) jo_none (jo_some j_int)) j_nil)) (j_cons j_int (j_cons j_int (j_cons j_int (j_cons j_int j_nil))))))))
theorem rd__law_opened (A:Ad):∀ds M Q Xc,sp__law_opened A ds M Q Xc→ds.length=P__law_opened.length∧RD (wb__law_opened A) Q Xc (startD N__law_opened ds) M:=by
 rintro _ M Q Xc ⟨ns,d,rfl,hd,q⟩
 refine ⟨rfl,?_⟩
 rw [st__law_opened]
 have:=sizeLine_big
 rcases hd with rfl | rfl
 all_goals
  simp only [RD,wb__law_opened,↓pLcUO,↓pSrtSetO,↓pLstV,↓lvK_dct,↓pMakeD,↓rLenO_p,↓pOrX,↓rIsM_p,↓rMinL_p,↓rMax_p,↓rOr2_p,↓rOrs_p,↓pMakeKD,↓pDcU,↓zR,↓reduceIte,zV,wipeD,cutL_map]
  exact ⟨by omega,fun b hb=>fin_of (q b (bagO _ 0 0 5631 0) hb ⟨_,_,_,_,_,rfl,by decide,by decide,by decide,by decide⟩)⟩
theorem ok__law_opened {P:Program} {w:World} {K:PySem.W.Frag} {mg:Str→Option Value} {base:Heap} {A:Ad} (T:Txt P K mg A):FnJ P w K mg base 1 A.f__law_opened (sp__law_opened A):=
 FnJ.mkAt T.d__law_opened sc__law_opened (fun cdv R outer s H E hr tk=>bd__law_opened T cdv R outer s H E hr tk) (rd__law_opened A)
def sp__law_pull (A:Ad):SpD:=fun ds M Q _=>∃b many o,ds= [.ref b, .int many]∧M b=some o∧Bg o∧0 < many∧many < 1000000∧∀v o',0≤v→v < many→Bg o'→Q (.int v) (mput M b o')
def wb__law_pull_c1 (A:Ad):WS:=
 (wSeq (wSub (wOp rAddD (wOp rIxD (wVar 0) (wC (.int 4))) (wC (.int 1))) (wVar 0) (wC (.int 4)) rSetD)
 (wSeq (wAsg (wOp rIxD (wVar 0) (wC (.int 3))) (gN 4))
 (wSeq (wSub (wOp (rIntD (fun _ j=>0 < j) fun i j=> .int (i % j)) (wCB rIntCD (wCons (wOp rAddD (wOp rAddD (wOp rAddD (wOp (rIntD CMul fun i j=> .int (i * j)) (wVar 4) (wVar 4)) (wOp (rIntD CMul fun i j=> .int (i * j)) (wVar 4) (wC (.int 27011)))) (wOp (rIntD CMul fun i j=> .int (i * j)) (wOp rIxD (wVar 0) (wC (.int 4))) (wC (.int 1300021)))) (wC (.int 99929))) wNil)) (wC (.int 2147483587))) (wVar 0) (wC (.int 3)) rSetD)
 (wRet (wOp (rIntD (fun _ j=>0 < j) fun i j=> .int (i % j)) (wCB rIntCD (wCons (wOp rAddD (wOp (rIntD CDiv fun i j=> .int (i / j)) (wOp rIxD (wVar 0) (wC (.int 3))) (wC (.int 71))) (wOp (rIntD CMul fun i j=> .int (i * j)) (wOp (rIntD (fun _ j=>0 < j) fun i j=> .int (i % j)) (wCB rIntCD (wCons (wOp rIxD (wVar 0) (wC (.int 3))) wNil)) (wC (.int 7919))) (wC (.int 59)))) wNil)) (wVar 1))))))
def wb__law_pull_c0 (A:Ad):WS:=
 (wSeq (wIf (wTest (wOp (rInt0D fun i j=> .bl (decide (j < i))) (wOp rIxD (wVar 0) (wC (.int 2))) (wC (.int 0))))
 (wSeq (wAsg (wOp (rIntD (fun _ j=>0 < j) fun i j=> .int (i % j)) (wCB rIntCD (wCons (wOp rIxD (wVar 0) (wC (.int 2))) wNil)) (wVar 1)) (gN 3))
 (wSeq (wSub (wOp (rIntD CDiv fun i j=> .int (i / j)) (wOp rIxD (wVar 0) (wC (.int 2))) (wVar 1)) (wVar 0) (wC (.int 2)) rSetD)
 (wRet (wVar 3))))
 wNx)
 (wb__law_pull_c1 A))
def wb__law_pull (A:Ad):WS:=
 (wSeq (wIf (wAndT (wTest (wOp (rEqD false) (wOp rIxD (wVar 0) (wC (.int 2))) (wC (.int 0)))) (wTest (wOp (rInt0D fun i j=> .bl (decide (i < j))) (wOp rIxD (wVar 0) (wC (.int 1))) (wCB rLenD (wCons (wOp rIxD (wVar 0) (wC (.int 0))) wNil)))))
 (wSeq (wAsg (wOp rIxD (wOp rIxD (wVar 0) (wC (.int 0))) (wOp rIxD (wVar 0) (wC (.int 1)))) (gN 2))
 (wSeq (wSub (wOp rAddD (wOp rIxD (wVar 0) (wC (.int 1))) (wC (.int 1))) (wVar 0) (wC (.int 1)) rSetD)
 (wIf (wTest (wOp (rInt0D fun i j=> .bl (decide (j≤i))) (wVar 2) (wOp (rIntD CPow fun i j=> .int (i ^ j.toNat)) (wC (.int 10)) (wC (.int 18)))))
 (wSub (wVar 2) (wVar 0) (wC (.int 2)) rSetD)
 (wSub (wOp (rIntD (fun _ j=>0 < j) fun i j=> .int (i % j)) (wCB rIntCD (wCons (wOp rAddD (wOp rAddD (wOp (rIntD CMul fun i j=> .int (i * j)) (wOp rIxD (wVar 0) (wC (.int 3))) (wC (.int 44017))) (wOp (rIntD CMul fun i j=> .int (i * j)) (wOp (rIntD (fun _ j=>0 < j) fun i j=> .int (i % j)) (wCB rIntCD (wCons (wVar 2) wNil)) (wC (.int 2147483549))) (wC (.int 61129)))) (wC (.int 41))) wNil)) (wC (.int 2147483587))) (wVar 0) (wC (.int 3)) rSetD))))
 wNx)
 (wb__law_pull_c0 A))
theorem bd__law_pull {P:Program} {w:World} {K:PySem.W.Frag} {mg:Str→Option Value} {base:Heap} {A:Ad} (T:Txt P K mg A) (cdv:Value) (R:Around) (outer:List Env) (s:Shared) (H:Hp) (E:XK) (hr:Room 0 (R.deeper (envOfC "_law_pull" (defScope s__law_pull) s.heap.objs.size A.f__law_pull cdv)))
  (tk:Takes (cxOf (L2.CX P w) P w K mg base N__law_pull "_law_pull" (defScope s__law_pull) A.f__law_pull cdv R outer s H E) (WD E)):JSs (cxOf (L2.CX P w) P w K mg base N__law_pull "_law_pull" (defScope s__law_pull) A.f__law_pull cdv R outer s H E) (WD E) (defBody s__law_pull) (wb__law_pull A):=
 (js_cons (js_if (jt_bool (jt_and (jt_cmp (od_eq hr.units) (j_ix id_ix (jv 0) j_int) j_int) (jt_and1 (jt_cmp od_lt (j_ix id_ix (jv 0) j_int) (j_callB cd_len T.n_len bo_len (j_cons (j_ix id_ix (jv 0) j_int) j_nil))))))
 (js_cons (js_set (i:=2) sc__law_pull.nd (j_ix id_ix (j_ix id_ix (jv 0) j_int) (j_ix id_ix (jv 0) j_int)))
 (js_cons (js_sub (j_op od_add (j_ix id_ix (jv 0) j_int) j_int) (jv 0) j_int)
 (js_one (js_if (jt_cmp od_ge (jv 2) (j_op od_pow j_int j_int))
 (js_one (js_sub (jv 2) (jv 0) j_int))
 (js_one (js_sub (j_op od_mod (j_callTy cd_int T.n_int bo_int (j_cons (j_op od_add (j_op od_add (j_op od_mul (j_ix id_ix (jv 0) j_int) j_int) (j_op od_mul (j_op od_mod (j_callTy cd_int T.n_int bo_int (j_cons (jv 2) j_nil)) j_int) j_int)) j_int) j_nil)) j_int) (jv 0) j_int))))))
 js_nil)
 (js_cons (js_if (jt_cmp od_gt (j_ix id_ix (jv 0) j_int) j_int)
 (js_cons (js_set (i:=3) sc__law_pull.nd (j_op od_mod (j_callTy cd_int T.n_int bo_int (j_cons (j_ix id_ix (jv 0) j_int) j_nil)) (jv 1)))
 (js_cons (js_sub (j_op od_fdiv (j_ix id_ix (jv 0) j_int) (jv 1)) (jv 0) j_int)
 (js_one (js_ret (jv 3)))))
 js_nil)
 (js_cons (js_sub (j_op od_add (j_ix id_ix (jv 0) j_int) j_int) (jv 0) j_int)
 (js_cons (js_set (i:=4) sc__law_pull.nd (j_ix id_ix (jv 0) j_int))
 (js_cons (js_sub (j_op od_mod (j_callTy cd_int T.n_int bo_int (j_cons (j_op od_add (j_op od_add (j_op od_add (j_op od_mul (jv 4) (jv 4)) (j_op od_mul (jv 4) j_int)) (j_op od_mul (j_ix id_ix (jv 0) j_int) j_int)) j_int) j_nil)) j_int) (jv 0) j_int)
 (js_one (js_ret (j_op od_mod (j_callTy cd_int T.n_int bo_int (j_cons (j_op od_add (j_op od_fdiv (j_ix id_ix (jv 0) j_int) j_int) (j_op od_mul (j_op od_mod (j_callTy cd_int T.n_int bo_int (j_cons (j_ix id_ix (jv 0) j_int) j_nil)) j_int) j_int)) j_nil)) (jv 1)))))))))
theorem pull_c1 (A:Ad) {b:Addr} {many:Int} {M N:Mem} {Q:KN} {Xc:KX} {cs:List Int} {i c s n:Int} {x y:Option D} (hb:N b=some (bagO cs i c s n)) (g:Bg0 cs i c s n) (hm:0 < many∧many < 1000000)
  (q:∀v o',0≤v→v < many→Bg o'→Q (.int v) (mput N b o')):RD (wb__law_pull_c1 A) Q Xc [some (.ref b),some (.int many),x,y,none] N:=by
 have e:=seqOf_own hb
 have:=g.s0
 have:=g.s1
 simp only [RD,wb__law_pull_c1,↓pLcUO,↓pSrtSetO,↓pLstV,↓lvK_dct,↓pMakeD,↓rLenO_p,↓pOrX,↓rIsM_p,↓rMinL_p,↓rMax_p,↓rOr2_p,↓rOrs_p,↓pMakeKD,↓pDcU,↓zR,↓reduceIte,zV,wipeD,e]
 refine set5_4 hb ?_
 simp only [↓pLcUO,↓pSrtSetO,↓pLstV,↓lvK_dct,↓pMakeD,↓rLenO_p,↓pOrX,↓rIsM_p,↓rMinL_p,↓rMax_p,↓rOr2_p,↓rOrs_p,↓pMakeKD,↓pDcU,↓zR,↓reduceIte,zV,wipeD,CMul]
 refine ⟨.inl (by omega), .inl (by omega), .inr (by omega),by omega,?_⟩
 refine set5_3 mput_same ?_
 rw [mput_mput]
 simp only [↓pLcUO,↓pSrtSetO,↓pLstV,↓lvK_dct,↓pMakeD,↓rLenO_p,↓pOrX,↓rIsM_p,↓rMinL_p,↓rMax_p,↓rOr2_p,↓rOrs_p,↓pMakeKD,↓pDcU,↓zR,↓reduceIte,zV,wipeD,CDiv,CMul]
 generalize hz:(s * s + s * 27011 + (n + 1) * 1300021 + 99929) % 2147483587=z
 have z0:0≤z:=by rw [← hz];exact Int.emod_nonneg _ (by decide)
 have z1:z < 2147483587:=by rw [← hz];exact Int.emod_lt_of_pos _ (by decide)
 refine ⟨⟨by decide,by decide⟩,by decide, .inr (by omega),hm.1,fin_of ?_⟩
 exact q _ _ (Int.emod_nonneg _ (by omega)) (Int.emod_lt_of_pos _ hm.1) ⟨cs,i,c,z,n + 1,rfl,g.i0,g.c0,z0,z1⟩
theorem pull_c0 (A:Ad) {b:Addr} {many:Int} {M N:Mem} {Q:KN} {Xc:KX} {cs:List Int} {i c s n:Int} {x:Option D} (hb:N b=some (bagO cs i c s n)) (g:Bg0 cs i c s n) (hm:0 < many∧many < 1000000)
  (q:∀v o',0≤v→v < many→Bg o'→Q (.int v) (mput N b o')):RD (wb__law_pull_c0 A) Q Xc [some (.ref b),some (.int many),x,none,none] N:=by
 have e:=seqOf_own hb
 simp only [RD,wb__law_pull_c0,↓pLcUO,↓pSrtSetO,↓pLstV,↓lvK_dct,↓pMakeD,↓rLenO_p,↓pOrX,↓rIsM_p,↓rMinL_p,↓rMax_p,↓rOr2_p,↓rOrs_p,↓pMakeKD,↓pDcU,↓zR,↓reduceIte,zV,wipeD,e]
 by_cases h:0 < c
 ·simp only [h,decide_true,↓pLcUO,↓pSrtSetO,↓pLstV,↓lvK_dct,↓pMakeD,↓rLenO_p,↓pOrX,↓rIsM_p,↓rMinL_p,↓rMax_p,↓rOr2_p,↓rOrs_p,↓pMakeKD,↓pDcU,↓zR,↓reduceIte,zV,wipeD,e,CDiv]
  refine ⟨hm.1,⟨hm.1,by omega⟩,set5_2 hb (fin_of ?_)⟩
  exact q _ _ (Int.emod_nonneg _ (by omega)) (Int.emod_lt_of_pos _ hm.1) ⟨cs,i,_,s,n,rfl,g.i0,Int.ediv_nonneg g.c0 (by omega),g.s0,g.s1⟩
 ·simp only [h,decide_false,↓pLcUO,↓pSrtSetO,↓pLstV,↓lvK_dct,↓pMakeD,↓rLenO_p,↓pOrX,↓rIsM_p,↓rMinL_p,↓rMax_p,↓rOr2_p,↓rOrs_p,↓pMakeKD,↓pDcU,↓zR,↓reduceIte,zV,wipeD,e]
  exact pull_c1 A (M:=M) hb g hm q
theorem rd__law_pull (A:Ad):∀ds M Q Xc,sp__law_pull A ds M Q Xc→ds.length=P__law_pull.length∧RD (wb__law_pull A) Q Xc (startD N__law_pull ds) M:=by
 rintro _ M Q Xc ⟨b,many,_,rfl,hb,⟨cs,i,c,s,n,rfl,g⟩,h1,h2,q⟩
 refine ⟨rfl,?_⟩
 rw [st__law_pull]
 have e:=seqOf_own hb
 simp only [RD,wb__law_pull,↓pLcUO,↓pSrtSetO,↓pLstV,↓lvK_dct,↓pMakeD,↓rLenO_p,↓pOrX,↓rIsM_p,↓rMinL_p,↓rMax_p,↓rOr2_p,↓rOrs_p,↓pMakeKD,↓pDcU,↓zR,↓reduceIte,zV,wipeD,e]
 by_cases hc:c=0
 ·by_cases hi:i < ((cs.map D.int).length:Int)
  ·simp only [hc,hi,decide_true,↓pLcUO,↓pSrtSetO,↓pLstV,↓lvK_dct,↓pMakeD,↓rLenO_p,↓pOrX,↓rIsM_p,↓rMinL_p,↓rMax_p,↓rOr2_p,↓rOrs_p,↓pMakeKD,↓pDcU,↓zR,↓reduceIte,zV,wipeD,e]
   have hk:i.toNat < cs.length:=by have:=g.i0;rw [List.length_map] at hi;omega
   obtain ⟨cell,ea⟩:∃cell,atI (cs.map D.int) i=some (.int cell):=by
    have e0:i=((i.toNat:Nat):Int):=by have:=g.i0;omega
    rw [e0,atI_nat,List.getElem?_map,List.getElem?_eq_getElem hk]
    exact ⟨_,rfl⟩
   simp only [ea,↓pLcUO,↓pSrtSetO,↓pLstV,↓lvK_dct,↓pMakeD,↓rLenO_p,↓pOrX,↓rIsM_p,↓rMinL_p,↓rMax_p,↓rOr2_p,↓rOrs_p,↓pMakeKD,↓pDcU,↓zR,↓reduceIte,zV,wipeD,e]
   refine set5_1 hb ?_
   simp only [CPow,↓pLcUO,↓pSrtSetO,↓pLstV,↓lvK_dct,↓pMakeD,↓rLenO_p,↓pOrX,↓rIsM_p,↓rMinL_p,↓rMax_p,↓rOr2_p,↓rOrs_p,↓pMakeKD,↓pDcU,↓zR,↓reduceIte,zV,wipeD]
   refine ⟨⟨by decide,by decide,by decide⟩,?_⟩
   by_cases h18:10 ^ (18:Int).toNat≤cell
   ·simp only [h18,decide_true,↓pLcUO,↓pSrtSetO,↓pLstV,↓lvK_dct,↓pMakeD,↓rLenO_p,↓pOrX,↓rIsM_p,↓rMinL_p,↓rMax_p,↓rOr2_p,↓rOrs_p,↓pMakeKD,↓pDcU,↓zR,↓reduceIte,zV,wipeD]
    refine set5_2 mput_same ?_
    refine pull_c0 A (M:=M) (mput_same) ⟨by have:=g.i0;omega,?_,g.s0,g.s1⟩ ⟨h1,h2⟩ fun v o' v0 v1 ho=>?_
    ·have:(0:Int)≤10 ^ (18:Int).toNat:=by decide
     omega
    ·rw [mput_mput,mput_mput];exact q v o' v0 v1 ho
   ·simp only [h18,decide_false,↓pLcUO,↓pSrtSetO,↓pLstV,↓lvK_dct,↓pMakeD,↓rLenO_p,↓pOrX,↓rIsM_p,↓rMinL_p,↓rMax_p,↓rOr2_p,↓rOrs_p,↓pMakeKD,↓pDcU,↓zR,↓reduceIte,zV,wipeD,CMul]
    have:=g.s0
    have:=g.s1
    have m0:0≤cell % 2147483549:=Int.emod_nonneg _ (by decide)
    have m1:cell % 2147483549 < 2147483549:=Int.emod_lt_of_pos _ (by decide)
    refine ⟨.inl (by omega),by decide, .inl (by omega),by decide,?_⟩
    refine set5_3 mput_same ?_
    refine pull_c0 A (M:=M) (mput_same) ⟨by have:=g.i0;omega,by omega,Int.emod_nonneg _ (by decide),Int.emod_lt_of_pos _ (by decide)⟩ ⟨h1,h2⟩ fun v o' v0 v1 ho=>?_
    rw [mput_mput,mput_mput];exact q v o' v0 v1 ho
  ·simp only [hc,hi,decide_true,decide_false,↓pLcUO,↓pSrtSetO,↓pLstV,↓lvK_dct,↓pMakeD,↓rLenO_p,↓pOrX,↓rIsM_p,↓rMinL_p,↓rMax_p,↓rOr2_p,↓rOrs_p,↓pMakeKD,↓pDcU,↓zR,↓reduceIte,zV,wipeD]
   rw [hc] at hb g
   exact pull_c0 A (M:=M) hb g ⟨h1,h2⟩ q
 ·simp only [hc,decide_false,↓pLcUO,↓pSrtSetO,↓pLstV,↓lvK_dct,↓pMakeD,↓rLenO_p,↓pOrX,↓rIsM_p,↓rMinL_p,↓rMax_p,↓rOr2_p,↓rOrs_p,↓pMakeKD,↓pDcU,↓zR,↓reduceIte,zV,wipeD]
  exact pull_c0 A (M:=M) hb g ⟨h1,h2⟩ q
theorem ok__law_pull {P:Program} {w:World} {K:PySem.W.Frag} {mg:Str→Option Value} {base:Heap} {A:Ad} (T:Txt P K mg A):FnJ P w K mg base 1 A.f__law_pull (sp__law_pull A):=
 FnJ.mkAt T.d__law_pull sc__law_pull (fun cdv R outer s H E hr tk=>bd__law_pull T cdv R outer s H E hr tk) (rd__law_pull A)
theorem pull_of (A:Ad) {b:Addr} {many:Int} {M:Mem} {Q:KN} {Xc:KX} {o:MO} (hb:M b=some o) (g:Bg o) (h1:0 < many) (h2:many < 1000000)
  (q:∀v:Nat,(v:Int) < many→∀o',Bg o'→Q (.int v) (mput M b o')):sp__law_pull A [.ref b, .int many] M Q Xc:=
 ⟨b,many,o,rfl,hb,g,h1,h2,fun v o' v0 v1 ho=>by
  have e:v=((v.toNat:Nat):Int):=by omega
  rw [e]
  exact q v.toNat (by omega) o' ho⟩
def sp__law_any (A:Ad):SpD:=fun ds M Q _=>∃b xs o,ds= [.ref b, .lst xs]∧M b=some o∧Bg o∧xs≠ []∧xs.length < 900000∧∀x∈xs,∀o',Bg o'→Q x (mput M b o')
def wb__law_any (A:Ad):WS:=
 (wRet (wOp rIxD (wVar 1) (wCall (sp__law_pull A) (wCons (wVar 0) (wCons (wCB rLenD (wCons (wVar 1) wNil)) wNil)))))
theorem bd__law_any {P:Program} {w:World} {K:PySem.W.Frag} {mg:Str→Option Value} {base:Heap} {A:Ad} (T:Txt P K mg A) (cdv:Value) (R:Around) (outer:List Env) (s:Shared) (H:Hp) (E:XK) (hr:Room 1 (R.deeper (envOfC "_law_any" (defScope s__law_any) s.heap.objs.size A.f__law_any cdv)))
  (tk:Takes (cxOf (L2.CX P w) P w K mg base N__law_any "_law_any" (defScope s__law_any) A.f__law_any cdv R outer s H E) (WD E)):JSs (cxOf (L2.CX P w) P w K mg base N__law_any "_law_any" (defScope s__law_any) A.f__law_any cdv R outer s H E) (WD E) (defBody s__law_any) (wb__law_any A):=
 (js_one (js_ret (j_ix id_ix (jv 1) (j_call (ok__law_pull T) hr (by decide) T.g__law_pull tk (j_cons (jv 0) (j_cons (j_callB cd_len T.n_len bo_len (j_cons (jv 1) j_nil)) j_nil))))))
theorem rd__law_any (A:Ad):∀ds M Q Xc,sp__law_any A ds M Q Xc→ds.length=P__law_any.length∧RD (wb__law_any A) Q Xc (startD N__law_any ds) M:=by
 rintro _ M Q Xc ⟨b,xs,o,rfl,hb,g,hne,hl,q⟩
 refine ⟨rfl,?_⟩
 rw [st__law_any]
 have hpos:0 < xs.length:=List.length_pos_iff.mpr hne
 simp only [RD,wb__law_any,↓pLcUO,↓pSrtSetO,↓pLstV,↓lvK_dct,↓pMakeD,↓rLenO_p,↓pOrX,↓rIsM_p,↓rMinL_p,↓rMax_p,↓rOr2_p,↓rOrs_p,↓pMakeKD,↓pDcU,↓zR,↓reduceIte,zV,wipeD]
 refine pull_of A hb g (by omega) (by omega) fun v hv o' ho=>?_
 have hv':v < xs.length:=by omega
 simp only [↓pLcUO,↓pSrtSetO,↓pLstV,↓lvK_dct,↓pMakeD,↓rLenO_p,↓pOrX,↓rIsM_p,↓rMinL_p,↓rMax_p,↓rOr2_p,↓rOrs_p,↓pMakeKD,↓pDcU,↓zR,↓reduceIte,zV,wipeD,atI_nat,List.getElem?_eq_getElem hv']
 exact fin_of (q _ (List.getElem_mem hv') o' ho)
theorem ok__law_any {P:Program} {w:World} {K:PySem.W.Frag} {mg:Str→Option Value} {base:Heap} {A:Ad} (T:Txt P K mg A):FnJ P w K mg base 2 A.f__law_any (sp__law_any A):=
 FnJ.mkAt T.d__law_any sc__law_any (fun cdv R outer s H E hr tk=>bd__law_any T cdv R outer s H E hr tk) (rd__law_any A)
def sp__law_mixed (A:Ad):SpD:=fun ds M Q _=>∃b xs o,ds= [.ref b, .lst xs]∧M b=some o∧Bg o∧xs.length < 3000∧∀ys,ys.Perm xs→∀o',Bg o'→Q (.lst ys) (mput M b o')
def wb__law_mixed (A:Ad):WS:=
 (wSeq (wAsg (wLstO wNil) (gN 2))
 (wSeq (wFor (wiSeq (wVar 1)) (gN 3)
 (wDrop (wBM "list" rInsD (wVar 2) (wCons (wCall (sp__law_pull A) (wCons (wVar 0) (wCons (wOp rAddD (wCB rLenD (wCons (wVar 2) wNil)) (wC (.int 1))) wNil))) (wCons (wVar 3) wNil)))))
 (wRet (wVar 2))))
theorem bd__law_mixed {P:Program} {w:World} {K:PySem.W.Frag} {mg:Str→Option Value} {base:Heap} {A:Ad} (T:Txt P K mg A) (cdv:Value) (R:Around) (outer:List Env) (s:Shared) (H:Hp) (E:XK) (hr:Room 1 (R.deeper (envOfC "_law_mixed" (defScope s__law_mixed) s.heap.objs.size A.f__law_mixed cdv)))
  (tk:Takes (cxOf (L2.CX P w) P w K mg base N__law_mixed "_law_mixed" (defScope s__law_mixed) A.f__law_mixed cdv R outer s H E) (WD E)):JSs (cxOf (L2.CX P w) P w K mg base N__law_mixed "_law_mixed" (defScope s__law_mixed) A.f__law_mixed cdv R outer s H E) (WD E) (defBody s__law_mixed) (wb__law_mixed A):=
 (js_cons (js_set (i:=2) sc__law_mixed.nd (j_lstO j_nil))
 (js_cons (js_for (passes_of rfl) rfl (ji_seq (jv 1)) (jg_name (i:=3) sc__law_mixed.nd)
 (js_one (js_expr (j_bm PySem.F.plainAttrs_list PySem.F.slot_list_insert PySem.F.type_list_insert md_insert (jv 2) (j_cons (j_call (ok__law_pull T) hr (by decide) T.g__law_pull tk (j_cons (jv 0) (j_cons (j_op od_add (j_callB cd_len T.n_len bo_len (j_cons (jv 2) j_nil)) j_int) j_nil))) (j_cons (jv 3) j_nil))))))
 (js_one (js_ret (jv 2)))))
theorem rd__law_mixed (A:Ad):∀ds M Q Xc,sp__law_mixed A ds M Q Xc→ds.length=P__law_mixed.length∧RD (wb__law_mixed A) Q Xc (startD N__law_mixed ds) M:=by
 rintro _ M Q Xc ⟨b,xs,o,rfl,hb,g,hl,q⟩
 refine ⟨rfl,?_⟩
 rw [st__law_mixed]
 have big:=sizeLine_big
 simp only [RD,wb__law_mixed,↓pLcUO,↓pSrtSetO,↓pLstV,↓lvK_dct,↓pMakeD,↓rLenO_p,↓pOrX,↓rIsM_p,↓rMinL_p,↓rMax_p,↓rOr2_p,↓rOrs_p,↓pMakeKD,↓pDcU,↓zR,↓reduceIte,zV,wipeD]
 refine ⟨Nat.zero_le _,fun a ha=>?_⟩
 have hab:a≠b:=fun e=>by subst e;rw [ha] at hb;cases hb
 refine forR_ind (fun items ds N=>∃done o' x,Bg o'∧ds= [some (.ref b),some (.lst xs),some (.ref a),x]∧N a=some (.lst done)∧N b=some o'∧(∀c,c≠a→c≠b→N c=M c)∧(done ++ items).Perm xs) ?_ ?_ xs _ _
  ⟨[],o,none,g,rfl,mput_same,by rw [mput_ne hab.symm];exact hb,fun c c1 c2=>mput_ne c1,by rw [List.nil_append]⟩
 ·rintro ds N ⟨done,o',x,ho,rfl,h1,h2,h3,hp⟩
  rw [List.append_nil] at hp
  simp only [↓pLcUO,↓pSrtSetO,↓pLstV,↓lvK_dct,↓pMakeD,↓rLenO_p,↓pOrX,↓rIsM_p,↓rMinL_p,↓rMax_p,↓rOr2_p,↓rOrs_p,↓pMakeKD,↓pDcU,↓zR,↓reduceIte,zV,wipeD]
  refine fin_lst h1 (M':=mput M b o') (by rw [mput_ne hab];exact ha) (fun c u hc=>?_) (q done hp o' ho)
  by_cases e:c=b
  ·subst e;rw [mput_same] at hc;rw [h2];exact hc
  ·rw [mput_ne e] at hc
   have e2:c≠a:=fun e2=>by subst e2;rw [ha] at hc;cases hc
   rw [h3 c e2 e];exact hc
 ·rintro d items ds N R hR ⟨done,o',x,ho,rfl,h1,h2,h3,hp⟩
  have hlen:done.length + (items.length + 1)=xs.length:=by rw [← hp.length_eq,List.length_append,List.length_cons]
  simp only [↓pLcUO,↓pSrtSetO,↓pLstV,↓lvK_dct,↓pMakeD,↓rLenO_p,↓pOrX,↓rIsM_p,↓rMinL_p,↓rMax_p,↓rOr2_p,↓rOrs_p,↓pMakeKD,↓pDcU,↓zR,↓reduceIte,zV,wipeD,seqOf_own h1]
  refine ⟨tyD_own h1,pull_of A h2 ho (by omega) (by omega) fun v hv o2 ho2=>?_⟩
  have h1':mput N b o2 a=some (.lst done):=by rw [mput_ne hab];exact h1
  refine ins_own h1' (by omega) (by omega) (hR _ _ ⟨_,o2,some d,ho2,rfl,mput_same,?_,fun c c1 c2=>?_,?_⟩)
  ·rw [mput_ne hab.symm,mput_same]
  ·rw [mput_ne c1,mput_ne c2];exact h3 c c1 c2
  ·refine List.Perm.trans ?_ hp
   have e:done ++ d :: items=(done.take v ++ (done.drop v)) ++ ([d] ++ items):=by rw [List.take_append_drop];rfl
   rw [e,List.append_assoc,List.append_assoc,List.append_assoc]
   refine List.Perm.append_left _ ?_
   rw [← List.append_assoc [d],← List.append_assoc (done.drop v)]
   exact List.Perm.append_right _ List.perm_append_comm
theorem ok__law_mixed {P:Program} {w:World} {K:PySem.W.Frag} {mg:Str→Option Value} {base:Heap} {A:Ad} (T:Txt P K mg A):FnJ P w K mg base 2 A.f__law_mixed (sp__law_mixed A):=
 FnJ.mkAt T.d__law_mixed sc__law_mixed (fun cdv R outer s H E hr tk=>bd__law_mixed T cdv R outer s H E hr tk) (rd__law_mixed A)
def LikeG:Nat→D→Prop
 | 0,d=>Nc d 0
 | n + 1,d=>Nc d (n + 1)∨(∃xs,d= .lst xs∧xs.length < 3000∧∀x∈xs,LikeG n x)∨(∃xs,d= .tup xs∧xs.length < 3000∧∀x∈xs,LikeG n x)∨
  ∃ks vs m,d= .dct ks vs∧n=m + 1∧ks.length < 3000∧Ncs (ks.map dK) m∧∀k∈ks,∃v,valD ks vs k=some v∧LikeG n v
theorem LikeG.of {d:D}:∀{n:Nat},Nc d n→LikeG n d
 | 0,h=>h
 | _ + 1,h=> .inl h
def sp__law_like (A:Ad):Nat→SpD
 | 0=>fun _ _ _ _=>False
 | n + 1=>fun ds M Q _=>∃d,ds= [d,d]∧LikeG n d∧Q (.bl true) M
def wb__law_like (A:Ad) (n:Nat):WS:=
 (wSeq (wIf (wTest (wIsT ["list","tuple"] (wVar 1)))
 (wSeq (wIf (wOrT (wTest (wOp (rEqD true) (wCB rIsD (wCons (wVar 0) (wCons (wC (.ty "list")) wNil))) (wCB rIsD (wCons (wVar 1) (wCons (wC (.ty "list")) wNil))))) (wTest (wOp (rEqD true) (wCB rIsD (wCons (wVar 0) (wCons (wC (.ty "tuple")) wNil))) (wCB rIsD (wCons (wVar 1) (wCons (wC (.ty "tuple")) wNil))))))
 (wRet (wC (.bl false)))
 wNx)
 (wRet (wAndV (wOp (rEqD false) (wCB rLenD (wCons (wVar 0) wNil)) (wCB rLenD (wCons (wVar 1) wNil))) (wCB (rAllD false) (wCons (wLc (wiZip (wCons (wVar 0) (wCons (wVar 1) wNil))) (gT 2 (gCons' (gN 2) (gCons' (gN 3) gNil'))) wYes (wCall (sp__law_like A n) (wCons (wVar 2) (wCons (wVar 3) wNil))) [2,3]) wNil)))))
 wNx)
 (wSeq (wIf (wTest (wCB rIsD (wCons (wVar 1) (wCons (wC (.ty "dict")) wNil))))
 (wSeq (wIf (wOrT (wNotT (wTest (wCB rIsD (wCons (wVar 0) (wCons (wC (.ty "dict")) wNil))))) (wNotT (wTest (wCall (sp__law_like A n) (wCons (wCB rLstDct (wCons (wVar 0) wNil)) (wCons (wCB rLstDct (wCons (wVar 1) wNil)) wNil))))))
 (wRet (wC (.bl false)))
 wNx)
 (wRet (wCB (rAllD false) (wCons (wLc (wiDct (wVar 1)) (gN 4) wYes (wCall (sp__law_like A n) (wCons (wOp rDixD (wVar 0) (wVar 4)) (wCons (wOp rDixD (wVar 1) (wVar 4)) wNil))) [4]) wNil))))
 wNx)
 (wSeq (wIf (wOrT (wTest (wOp (rIsND false) (wVar 1) (wC .non))) (wTest (wOp (rIsND false) (wVar 0) (wC .non))))
 (wRet (wAndV (wOp (rIsND false) (wVar 1) (wC .non)) (wOp (rIsND false) (wVar 0) (wC .non))))
 wNx)
 (wSeq (wIf (wOrT (wTest (wOp (rEqD true) (wCB rIsD (wCons (wVar 0) (wCons (wC (.ty "bool")) wNil))) (wCB rIsD (wCons (wVar 1) (wCons (wC (.ty "bool")) wNil))))) (wTest (wOp (rEqD true) (wCB rIsD (wCons (wVar 0) (wCons (wC (.ty "int")) wNil))) (wCB rIsD (wCons (wVar 1) (wCons (wC (.ty "int")) wNil))))))
 (wRet (wC (.bl false)))
 wNx)
 (wRet (wAndV (wOp (rEqD false) (wCB rIsD (wCons (wVar 0) (wCons (wC (.ty "str")) wNil))) (wCB rIsD (wCons (wVar 1) (wCons (wC (.ty "str")) wNil)))) (wOp (rEqD false) (wVar 0) (wVar 1))))))))
theorem bd__law_like {P:Program} {w:World} {K:PySem.W.Frag} {mg:Str→Option Value} {base:Heap} {A:Ad} (T:Txt P K mg A) (n:Nat) (ih:FnJ P w K mg base (1 + n) A.f__law_like (sp__law_like A n)) (cdv:Value) (R:Around) (outer:List Env) (s:Shared) (H:Hp) (E:XK) (hr:Room (1 + n) (R.deeper (envOfC "_law_like" (defScope s__law_like) s.heap.objs.size A.f__law_like cdv)))
  (tk:Takes (cxOf (L2.CX P w) P w K mg base N__law_like "_law_like" (defScope s__law_like) A.f__law_like cdv R outer s H E) (WD E)):JSs (cxOf (L2.CX P w) P w K mg base N__law_like "_law_like" (defScope s__law_like) A.f__law_like cdv R outer s H E) (WD E) (defBody s__law_like) (wb__law_like A n):=
 (js_cons (js_if (jt_val (j_isiT T.n_isinstance (jv 1) (pcs_cons (pe_bltn rfl T.n_list bo_list rfl) (pcs_cons (pe_bltn rfl T.n_tuple bo_tuple rfl) pcs_nil))))
 (js_cons (js_if (jt_bool (jt_or (jt_cmp (od_ne hr.units) (j_callB cd_isi T.n_isinstance bo_isinstance (j_cons (jv 0) (j_cons (j_bltn T.n_list bo_list) j_nil))) (j_callB cd_isi T.n_isinstance bo_isinstance (j_cons (jv 1) (j_cons (j_bltn T.n_list bo_list) j_nil)))) (jt_or1 (jt_cmp (od_ne hr.units) (j_callB cd_isi T.n_isinstance bo_isinstance (j_cons (jv 0) (j_cons (j_bltn T.n_tuple bo_tuple) j_nil))) (j_callB cd_isi T.n_isinstance bo_isinstance (j_cons (jv 1) (j_cons (j_bltn T.n_tuple bo_tuple) j_nil)))))))
 (js_one (js_ret j_bl))
 js_nil)
 (js_one (js_ret (j_and (j_cmp (od_eq hr.units) (j_callB cd_len T.n_len bo_len (j_cons (jv 0) j_nil)) (j_callB cd_len T.n_len bo_len (j_cons (jv 1) j_nil))) (j_one (j_callB (cd_all rfl) T.n_all bo_all (j_cons (j_lc (own:= [("_law_one",2),("_law_other",3)]) rfl sc__law_like.nd (ji_zip T.n_zip (j_cons (jv 0) (j_cons (jv 1) j_nil))) (blkOk_by (own:= [("_law_one",2),("_law_other",3)]) (N:=N__law_like) (sc:=defScope s__law_like) (by decide +kernel)) (fun _ _ _ _ _=>(jg_tup rfl (jgs_cons (jg_name (i:=2) sc__law_like.nd) (jgs_cons (jg_name (i:=3) sc__law_like.nd) jgs_nil)))) (fun _ _ _ _ _=>jts_nil) (fun _ _ _ _ _=>(j_call ih hr (Nat.le_refl _) T.g__law_like tkF (j_cons (jv 2) (j_cons (jv 3) j_nil))))) j_nil)))))))
 js_nil)
 (js_cons (js_if (jt_val (j_callB cd_isi T.n_isinstance bo_isinstance (j_cons (jv 1) (j_cons (j_bltn T.n_dict bo_dict) j_nil))))
 (js_cons (js_if (jt_bool (jt_or (jt_not (jt_val (j_callB cd_isi T.n_isinstance bo_isinstance (j_cons (jv 0) (j_cons (j_bltn T.n_dict bo_dict) j_nil))))) (jt_or1 (jt_not (jt_val (j_call ih hr (Nat.le_refl _) T.g__law_like tk (j_cons (j_callTy (cd_lstDct rfl) T.n_list bo_list (j_cons (jv 0) j_nil)) (j_cons (j_callTy (cd_lstDct rfl) T.n_list bo_list (j_cons (jv 1) j_nil)) j_nil))))))))
 (js_one (js_ret j_bl))
 js_nil)
 (js_one (js_ret (j_callB (cd_all rfl) T.n_all bo_all (j_cons (j_lc (own:= [("_law_key",4)]) rfl sc__law_like.nd (ji_dct (jv 1)) (blkOk_by (own:= [("_law_key",4)]) (N:=N__law_like) (sc:=defScope s__law_like) (by decide +kernel)) (fun _ _ _ _ _=>(jg_name (i:=4) sc__law_like.nd)) (fun _ _ _ _ _=>jts_nil) (fun _ _ _ _ _=>(j_call ih hr (Nat.le_refl _) T.g__law_like tkF (j_cons (j_dix (Nat.lt_of_le_of_lt (Nat.add_le_add_left (by decide:1≤64) _) hr.units) (jv 0) (jv 4)) (j_cons (j_dix (Nat.lt_of_le_of_lt (Nat.add_le_add_left (by decide:1≤64) _) hr.units) (jv 1) (jv 4)) j_nil))))) j_nil)))))
 js_nil)
 (js_cons (js_if (jt_bool (jt_or (jt_cmp od_isN (jv 1) j_non) (jt_or1 (jt_cmp od_isN (jv 0) j_non))))
 (js_one (js_ret (j_and (j_cmp od_isN (jv 1) j_non) (j_one (j_cmp od_isN (jv 0) j_non)))))
 js_nil)
 (js_cons (js_if (jt_bool (jt_or (jt_cmp (od_ne hr.units) (j_callB cd_isi T.n_isinstance bo_isinstance (j_cons (jv 0) (j_cons (j_bltn T.n_bool bo_bool) j_nil))) (j_callB cd_isi T.n_isinstance bo_isinstance (j_cons (jv 1) (j_cons (j_bltn T.n_bool bo_bool) j_nil)))) (jt_or1 (jt_cmp (od_ne hr.units) (j_callB cd_isi T.n_isinstance bo_isinstance (j_cons (jv 0) (j_cons (j_bltn T.n_int bo_int) j_nil))) (j_callB cd_isi T.n_isinstance bo_isinstance (j_cons (jv 1) (j_cons (j_bltn T.n_int bo_int) j_nil)))))))
 (js_one (js_ret j_bl))
 js_nil)
 (js_one (js_ret (j_and (j_cmp (od_eq hr.units) (j_callB cd_isi T.n_isinstance bo_isinstance (j_cons (jv 0) (j_cons (j_bltn T.n_str bo_str) j_nil))) (j_callB cd_isi T.n_isinstance bo_isinstance (j_cons (jv 1) (j_cons (j_bltn T.n_str bo_str) j_nil)))) (j_one (j_cmp (od_eq hr.units) (jv 0) (jv 1))))))))))
theorem zip_same:∀xs:List D,zipD xs xs=xs.map fun x=> .tup [x,x]
 | []=>rfl
 | x :: xs=>by
  show D.tup [x,x] :: zipD xs xs=_
  rw [zip_same xs]
  rfl
theorem rd__law_like (A:Ad) (n:Nat):∀ds M Q Xc,sp__law_like A (n + 1) ds M Q Xc→ds.length=P__law_like.length∧RD (wb__law_like A n) Q Xc (startD N__law_like ds) M:=by
 rintro _ M Q Xc ⟨d,rfl,hn,q⟩
 refine ⟨rfl,?_⟩
 rw [st__law_like]
 have big:=sizeLine_big
 have lc:∀(m:Nat) (xs:List D) (ds:SD) (k:List D→Mem→Prop) (x y z w v:Option D),n=m + 1→xs.length < 3000→(∀x∈xs,LikeG m x)→k (xs.map fun _=> .bl true) M→
   lcR (gT 2 (gCons' (gN 2) (gCons' (gN 3) gNil'))) wYes (wCall (sp__law_like A n) (wCons (wVar 2) (wCons (wVar 3) wNil))) [x,y,z,w,v] (zipD xs xs) [] M k:=by
  intro m xs ds k x y z w v en hl hx hk
  subst en
  rw [zip_same]
  refine lcR_mapL _ (fun _=> .bl true) (fun x=>LikeG m x) (fun x acc R hx h=>?_) xs [] hx (by simp only [List.length_nil];omega) (by rw [List.nil_append];exact hk)
  simp only [↓pGen,↓pGenM,↓pGenMK,↓pForN,↓pLcN,↓piZipN,↓pDclr,↓pLcUO,↓pSrtSetO,↓pLstV,↓lvK_dct,↓pMakeD,↓rLenO_p,↓pOrX,↓rIsM_p,↓rMinL_p,↓rMax_p,↓rOr2_p,↓rOrs_p,↓pMakeKD,↓pDcU,↓zR,↓reduceIte,zV,wipeD]
  exact ⟨x,rfl,hx,h⟩
 have e:∀xs:List D,(xs.map fun _=>true).all id=true:=fun xs=>by simp
 have ek:∀xs:List Key,(xs.map fun _=>true).all id=true:=fun xs=>by simp
 have tupc:∀(m:Nat) (xs:List D),n=m + 1→xs.length < 3000→(∀x∈xs,LikeG m x)→RD (wb__law_like A n) Q Xc [some (.tup xs),some (.tup xs),none,none,none] M:=fun m xs en hl hx=>by
  simp only [RD,wb__law_like,↓pGen,↓pGenM,↓pGenMK,↓pForN,↓pLcN,↓piZipN,↓pDclr,↓pLcUO,↓pSrtSetO,↓pLstV,↓lvK_dct,↓pMakeD,↓rLenO_p,↓pOrX,↓rIsM_p,↓rMinL_p,↓rMax_p,↓rOr2_p,↓rOrs_p,↓pMakeKD,↓pDcU,↓zR,↓reduceIte,zV,wipeD,decide_true]
  refine lc m xs [] _ _ _ _ _ _ en hl hx ?_
  simp only [rAllD,bools_map,↓pGen,↓pGenM,↓pGenMK,↓pForN,↓pLcN,↓piZipN,↓pDclr,↓pLcUO,↓pSrtSetO,↓pLstV,↓lvK_dct,↓pMakeD,↓rLenO_p,↓pOrX,↓rIsM_p,↓rMinL_p,↓rMax_p,↓rOr2_p,↓rOrs_p,↓pMakeKD,↓pDcU,↓zR,↓reduceIte,zV,wipeD,e]
  exact fin_of q
 have lstc:∀(m:Nat) (xs:List D),n=m + 1→xs.length < 3000→(∀x∈xs,LikeG m x)→RD (wb__law_like A n) Q Xc [some (.lst xs),some (.lst xs),none,none,none] M:=fun m xs en hl hx=>by
  simp only [RD,wb__law_like,↓pGen,↓pGenM,↓pGenMK,↓pForN,↓pLcN,↓piZipN,↓pDclr,↓pLcUO,↓pSrtSetO,↓pLstV,↓lvK_dct,↓pMakeD,↓rLenO_p,↓pOrX,↓rIsM_p,↓rMinL_p,↓rMax_p,↓rOr2_p,↓rOrs_p,↓pMakeKD,↓pDcU,↓zR,↓reduceIte,zV,wipeD,decide_true]
  refine lc m xs [] _ _ _ _ _ _ en hl hx ?_
  simp only [rAllD,bools_map,↓pGen,↓pGenM,↓pGenMK,↓pForN,↓pLcN,↓piZipN,↓pDclr,↓pLcUO,↓pSrtSetO,↓pLstV,↓lvK_dct,↓pMakeD,↓rLenO_p,↓pOrX,↓rIsM_p,↓rMinL_p,↓rMax_p,↓rOr2_p,↓rOrs_p,↓pMakeKD,↓pDcU,↓zR,↓reduceIte,zV,wipeD,e]
  exact fin_of q
 have flat:∀d,Nc d n→RD (wb__law_like A n) Q Xc [some d,some d,none,none,none] M:=by
  clear hn
  intro d hn
  have hp:=hn.pl
  cases d <;> try exact absurd hp Bool.false_ne_true
  case tup xs=>
   obtain ⟨m,rfl⟩:∃m,n=m + 1:=⟨n - 1,by have:=hn.1.1;omega⟩
   exact tupc m xs rfl hn.1.2 fun x hx=>LikeG.of (Ncs_iff.mp hn.2 x hx)
  case lst xs=>
   obtain ⟨m,rfl⟩:∃m,n=m + 1:=⟨n - 1,by have:=hn.1.1;omega⟩
   exact lstc m xs rfl hn.1.2 fun x hx=>LikeG.of (Ncs_iff.mp hn.2 x hx)
  case dct=>exact hn.elim
  all_goals simp only [RD,wb__law_like,↓pGen,↓pGenM,↓pGenMK,↓pForN,↓pLcN,↓piZipN,↓pDclr,↓pLcUO,↓pSrtSetO,↓pLstV,↓lvK_dct,↓pMakeD,↓rLenO_p,↓pOrX,↓rIsM_p,↓rMinL_p,↓rMax_p,↓rOr2_p,↓rOrs_p,↓pMakeKD,↓pDcU,↓zR,↓reduceIte,zV,wipeD,decide_true]
  all_goals exact fin_of q
 cases n with
 | zero=>exact flat d hn
 | succ n=>
  rcases hn with hn | ⟨xs,rfl,hl,hx⟩ | ⟨xs,rfl,hl,hx⟩ | ⟨ks,vs,m,rfl,rfl,hl,hk,hv⟩
  ·exact flat d hn
  ·exact lstc n xs rfl hl hx
  ·exact tupc n xs rfl hl hx
  ·simp only [RD,wb__law_like,↓pGen,↓pGenM,↓pGenMK,↓pForN,↓pLcN,↓piZipN,↓pDclr,↓pLcUO,↓pSrtSetO,↓pLstV,↓lvK_dct,↓pMakeD,↓rLenO_p,↓pOrX,↓rIsM_p,↓rMinL_p,↓rMax_p,↓rOr2_p,↓rOrs_p,↓pMakeKD,↓pDcU,↓zR,↓reduceIte,zV,wipeD,decide_true]
   refine ⟨_,rfl,LikeG.of ⟨⟨by omega,by rw [List.length_map];exact hl⟩,hk⟩,?_⟩
   simp only [↓pGen,↓pGenM,↓pGenMK,↓pForN,↓pLcN,↓piZipN,↓pDclr,↓pLcUO,↓pSrtSetO,↓pLstV,↓lvK_dct,↓pMakeD,↓rLenO_p,↓pOrX,↓rIsM_p,↓rMinL_p,↓rMax_p,↓rOr2_p,↓rOrs_p,↓pMakeKD,↓pDcU,↓zR,↓reduceIte,zV,wipeD]
   refine lcR_mapL dK (fun _=> .bl true) (fun k=>k∈ks) (fun k acc R hx h=>?_) ks [] (fun x hx'=>hx') (by simp only [List.length_nil];omega) ?_
   ·obtain ⟨v,e1,e2⟩:=hv k hx
    cases k with
    | inl i=>
     simp only [dK,↓pGen,↓pGenM,↓pGenMK,↓pForN,↓pLcN,↓piZipN,↓pDclr,↓pLcUO,↓pSrtSetO,↓pLstV,↓lvK_dct,↓pMakeD,↓rLenO_p,↓pOrX,↓rIsM_p,↓rMinL_p,↓rMax_p,↓rOr2_p,↓rOrs_p,↓pMakeKD,↓pDcU,↓zR,↓reduceIte,zV,wipeD,e1]
     exact ⟨v,rfl,e2,h⟩
    | inr z=>
     simp only [dK,↓pGen,↓pGenM,↓pGenMK,↓pForN,↓pLcN,↓piZipN,↓pDclr,↓pLcUO,↓pSrtSetO,↓pLstV,↓lvK_dct,↓pMakeD,↓rLenO_p,↓pOrX,↓rIsM_p,↓rMinL_p,↓rMax_p,↓rOr2_p,↓rOrs_p,↓pMakeKD,↓pDcU,↓zR,↓reduceIte,zV,wipeD,e1]
     exact ⟨v,rfl,e2,h⟩
   ·rw [List.nil_append]
    simp only [rAllD,bools_map,↓pGen,↓pGenM,↓pGenMK,↓pForN,↓pLcN,↓piZipN,↓pDclr,↓pLcUO,↓pSrtSetO,↓pLstV,↓lvK_dct,↓pMakeD,↓rLenO_p,↓pOrX,↓rIsM_p,↓rMinL_p,↓rMax_p,↓rOr2_p,↓rOrs_p,↓pMakeKD,↓pDcU,↓zR,↓reduceIte,zV,wipeD,ek]
    exact fin_of q
theorem ok__law_like {P:Program} {w:World} {K:PySem.W.Frag} {mg:Str→Option Value} {base:Heap} {A:Ad} (T:Txt P K mg A):∀n,FnJ P w K mg base (1 + n) A.f__law_like (sp__law_like A n)
 | 0=>FnJ.mkAt (k:=0) (wb:=wNever) T.d__law_like sc__law_like (fun cdv R outer s H E hr tk=>jss_never) (fun _ _ _ _ h=>h.elim)
 | n + 1=>FnJ.mkAt (k:=1 + n) T.d__law_like sc__law_like (fun cdv R outer s H E hr tk=>bd__law_like T n (ok__law_like T n) cdv R outer s H E hr tk) (rd__law_like A n)
abbrev sgS (c:Nat):Str:=⟨#[c]⟩
abbrev sg (c:Nat):D:= .str (sgS c)
theorem cut_take {z:Str} {k:Nat} (h:k≤z.length):cutS z none (some (k:Int))=⟨(z.cps.toList.take k).toArray⟩:=by
 unfold cutS
 rw [HT.sIx_none,HT.sIx_nat,Nat.min_eq_left h,List.drop_zero,Nat.sub_zero]
theorem cut_drop {z:Str} {k:Nat} (h:k≤z.length):cutS z (some (k:Int)) none=⟨(z.cps.toList.drop k).toArray⟩:=by
 unfold cutS
 rw [HT.sIx_none,HT.sIx_nat,Nat.min_eq_left h,List.take_of_length_le]
 rw [List.length_drop]
 exact Nat.le_refl _
theorem len_mk {l:List Nat}:(⟨l.toArray⟩:Str).length=l.length:=List.size_toArray
theorem len_sg {c:Nat}:(sgS c).length=1:=rfl
theorem app_cps {x y:Str}:(x ++ y).cps.toList=x.cps.toList ++ y.cps.toList:=by
 show (x.cps ++ y.cps).toList=_
 rw [Array.toList_append]
theorem app_len {x y:Str}:(x ++ y).length=x.length + y.length:=Array.size_append
theorem cps_len {x:Str}:x.cps.toList.length=x.length:=Array.length_toList
theorem join_sgs:∀cs:List Nat,Txt.join ("":Str) (cs.map sgS)=⟨cs.toArray⟩:=by
 have key:∀cs:List Nat,Str.join ("":Str) (cs.map sgS)=⟨cs.toArray⟩:=by
  intro cs
  induction cs with
  | nil=>rfl
  | cons c cs ih=>
   cases cs with
   | nil=>rfl
   | cons d ds=>
    have e:Str.join ("":Str) ((c :: d :: ds).map sgS)=sgS c ++ ("":Str) ++ Str.join ("":Str) ((d :: ds).map sgS):=rfl
    rw [e,ih]
    have e0:("":Str)=⟨#[]⟩:=by decide +kernel
    rw [e0]
    show (⟨(#[c] ++ #[]) ++ (d :: ds).toArray⟩:Str)=_
    congr 1
    simp
 intro cs
 exact Eq.trans (StrLaws.glued_eq_join _ _) (key cs)
theorem all_in_iff {x L:Str}:allIn x L=true↔∀c∈x.cps.toList,c∈L.cps.toList:=by
 unfold allIn
 rw [List.all_eq_true]
 exact ⟨fun h c hc=>of_decide_eq_true (h c hc),fun h c hc=>decide_eq_true (h c hc)⟩
def Bgd (M:Mem) (b:Addr) (N:Mem):Prop:=∃o,Bg o∧N=mput M b o
theorem bgd_put {M N:Mem} {b:Addr} {o:MO} (h:Bgd M b N) (g:Bg o):Bgd M b (mput N b o):=by
 obtain ⟨u,_,e⟩:=h
 exact ⟨o,g,by rw [e,mput_mput]⟩
theorem bgd_at {M N:Mem} {b:Addr} (h:Bgd M b N):∃o,N b=some o∧Bg o:=by
 obtain ⟨u,g,e⟩:=h
 exact ⟨u,by rw [e,mput_same],g⟩
theorem bgd_rfl {M:Mem} {b:Addr} {o:MO} (h:M b=some o) (g:Bg o):Bgd M b M:=⟨o,g,by
 funext c
 by_cases e:c=b
 ·subst e;rw [mput_same,h]
 ·rw [mput_ne e]⟩
theorem pull_b (A:Ad) {b:Addr} {many:Int} {M N:Mem} {Q:KN} {Xc:KX} (hb:Bgd M b N) (h1:0 < many) (h2:many < 1000000)
  (q:∀v:Nat,(v:Int) < many→∀N',Bgd M b N'→Bgd N b N'→Q (.int v) N'):sp__law_pull A [.ref b, .int many] N Q Xc:=by
 obtain ⟨o,e,g⟩:=bgd_at hb
 exact pull_of A e g h1 h2 fun v hv o' ho=>q v hv _ (bgd_put hb ho) ⟨o',ho,rfl⟩
theorem rng_len (lo:Int) (n:Nat):(rngD lo n).length=n:=by unfold rngD;rw [List.length_map,List.length_range]
theorem pops (A:Ad) {b al:Addr} {M N:Mem} {ds:SD} {k p:Nat} {ls:List Nat} {K:List D→Mem→Prop} (hab:al≠b) (hb:Bgd M b N) (hal:N al=some (.lst (ls.map sg))) (hnd:ls.Nodup) (hlen:ls.length < 100)
  (h0:∀x:D,(ds.set k (some x))[0]?=some (some (.ref b))) (hp:∀x:D,(ds.set k (some x))[p]?=some (some (.ref al))) (items:List D) (hit:items.length≤ls.length)
  (q:∀(cs ls':List Nat) N',cs.length=items.length→cs.Nodup→(∀c∈cs,c∈ls)→(∃o u,Bg o∧N'=mput (mput M b o) al u)→K (cs.map sg) N'):
  lcR (gN k) wYes (wBM "list" rPopD (wVar p) (wCons (wCall (sp__law_pull A) (wCons (wVar 0) (wCons (wCB rLenD (wCons (wVar p) wNil)) wNil))) wNil)) ds items [] N K:=by
 have big:=sizeLine_big
 refine lcR_ind (fun its acc N'=>∃(cs ls':List Nat) (o:MO),acc=cs.map sg∧N' al=some (.lst (ls'.map sg))∧N' b=some o∧Bg o∧(∀c,c≠al→c≠b→N' c=M c)∧(cs ++ ls').Perm ls∧cs.length + its.length=items.length) ?_ ?_ items [] N ?_
 ·rintro acc N' ⟨cs,ls',o,rfl,h1,h2,g,h3,hpm,hl⟩
  have nd:(cs ++ ls').Nodup:=hpm.nodup_iff.mpr hnd
  refine q cs ls' N' (by simpa using hl) (List.nodup_append.mp nd).1 (fun c hc=>hpm.mem_iff.mp (List.mem_append_left _ hc)) ⟨o, .lst (ls'.map sg),g,?_⟩
  funext c
  by_cases e:c=al
  ·subst e;rw [mput_same,h1]
  ·rw [mput_ne e]
   by_cases e2:c=b
   ·subst e2;rw [mput_same,h2]
   ·rw [mput_ne e2,h3 c e e2]
 ·rintro d its acc N' R hR ⟨cs,ls',o,rfl,h1,h2,g,h3,hpm,hl⟩
  have hl':cs.length + ls'.length=ls.length:=by rw [← hpm.length_eq,List.length_append]
  rw [List.length_cons] at hl
  simp only [gN,wYes,wBM,wVar,h0,hp,wGet,wCons,wNil,wCall,wCB,rLenD,seqOf_own h1,optK_some,↓reduceIte]
  refine ⟨tyD_own h1,pull_of A h2 g (by rw [List.length_map];omega) (by rw [List.length_map];omega) fun v hv o' ho=>?_⟩
  rw [List.length_map] at hv
  have hv':v < ls'.length:=by omega
  have h1':mput N' b o' al=some (.lst (ls'.map sg)):=by rw [mput_ne hab];exact h1
  refine popAt_own h1' (y:=sg ls'[v]) (by rw [List.getElem?_map,List.getElem?_eq_getElem hv'];rfl) (by rw [List.length_map];omega) ⟨by rw [List.length_map];omega,hR _ _ ⟨cs ++ [ls'[v]],ls'.eraseIdx v,o',?_,?_,?_,ho,fun c c1 c2=>?_,?_,?_⟩⟩
  ·rw [List.map_append];rfl
  ·rw [mput_same,List.eraseIdx_eq_take_drop_succ,List.eraseIdx_eq_take_drop_succ,List.map_append,List.map_take,List.map_drop]
  ·rw [mput_ne hab.symm,mput_same]
  ·rw [mput_ne c1,mput_ne c2];exact h3 c c1 c2
  ·refine List.Perm.trans ?_ hpm
   rw [List.append_assoc]
   refine List.Perm.append_left _ ?_
   have e:ls'=ls'.take v ++ ls'[v] :: ls'.drop (v + 1):=by rw [List.getElem_cons_drop,List.take_append_drop]
   rw [List.eraseIdx_eq_take_drop_succ]
   conv=>rhs;rw [e]
   exact (List.perm_middle (l₁:=ls'.take v) (a:=ls'[v]) (l₂:=ls'.drop (v + 1))).symm
  ·rw [List.length_append,List.length_singleton];omega
 ·obtain ⟨o,e,g⟩:=bgd_at hb
  refine ⟨[],ls,o,rfl,hal,e,g,fun c c1 c2=>?_,by rw [List.nil_append],by simp⟩
  obtain ⟨u,_,eq⟩:=hb
  rw [eq,mput_ne c2]
theorem stems_b (A:Ad) {b:Addr} {M N:Mem} {ds:SD} {k p:Nat} {L:Str} {n:Nat} {K:List D→Mem→Prop} (hb:Bgd M b N) (hL:L.length=n) (h0n:0 < n) (hn:n < 100)
  (h0:∀x:D,(ds.set k (some x))[0]?=some (some (.ref b))) (hp:∀x:D,(ds.set k (some x))[p]?=some (some (.str L))) (items:List D) (hit:items.length < 90000)
  (q:∀(cs:List Nat) N',cs.length=items.length→(∀c∈cs,c∈L.cps.toList)→Bgd M b N'→K (cs.map sg) N'):
  lcR (gN k) wYes (wOp rIxD (wVar p) (wCall (sp__law_pull A) (wCons (wVar 0) (wCons (wC (.int n)) wNil)))) ds items [] N K:=by
 have big:=sizeLine_big
 refine lcR_ind (fun its acc N'=>∃cs:List Nat,acc=cs.map sg∧Bgd M b N'∧(∀c∈cs,c∈L.cps.toList)∧cs.length + its.length=items.length) ?_ ?_ items [] N ⟨[],rfl,hb,by simp,by simp⟩
 ·rintro acc N' ⟨cs,rfl,h1,h2,h3⟩
  exact q cs N' (by simpa using h3) h2 h1
 ·rintro d its acc N' R hR ⟨cs,rfl,h1,h2,h3⟩
  rw [List.length_cons] at h3
  simp only [gN,wYes,wOp,wVar,h0,hp,wGet,wCons,wNil,wCall,wC,↓reduceIte]
  refine pull_b A h1 (by omega) (by omega) fun v hv N2 g _=>?_
  have hv':v < L.cps.toList.length:=by rw [cps_len];omega
  simp only [rIxD,atI_nat,List.getElem?_eq_getElem hv',optK_some]
  refine ⟨by omega,by rw [List.length_map];omega,hR _ _ ⟨cs ++ [L.cps.toList[v]],by rw [List.map_append];rfl,g,fun c hc=>?_,by rw [List.length_append,List.length_singleton];omega⟩⟩
  rcases List.mem_append.mp hc with hc | hc
  ·exact h2 c hc
  ·rw [List.mem_singleton.mp hc];exact List.getElem_mem hv'
structure Sig (L:Str) (k c:Nat) (x:Str):Prop where
 at_:x.cps.toList[k]?=some c
 len:x.length≤8
 ok:allIn x L=true
theorem Sig.made {L:Str} {k c:Nat} {x:Str} (h:Sig L k c x):madeOf L 8 (.str x)=true:=by
 have e:madeOf L 8 (.str x)=(decide ((1:Int)≤x.length) && (decide ((x.length:Int)≤8) && allIn x L)):=rfl
 have h1:1≤x.length:=by
  rw [← cps_len]
  have:=(List.getElem?_eq_some_iff.mp h.at_).1
  omega
 have h2:=h.len
 rw [e,h.ok,decide_eq_true (by omega),decide_eq_true (by omega)]
 rfl
theorem sig_of {L:Str} {pre rest:List Nat} {c:Nat} (h1:∀z∈pre,z∈L.cps.toList) (h2:c∈L.cps.toList) (h3:∀z∈rest,z∈L.cps.toList) (hl:pre.length + 1 + rest.length≤8):
  Sig L pre.length c (⟨pre.toArray⟩ ++ sgS c ++ ⟨rest.toArray⟩):=by
 have e:((⟨pre.toArray⟩ ++ sgS c ++ ⟨rest.toArray⟩:Str)).cps.toList=pre ++ [c] ++ rest:=by rw [app_cps,app_cps]
 refine ⟨?_,?_,?_⟩
 ·rw [e,List.append_assoc,List.getElem?_append_right (Nat.le_refl _),Nat.sub_self]
  rfl
 ·rw [app_len,app_len,len_mk,len_sg,len_mk]
  omega
 ·rw [all_in_iff,e]
  intro z hz
  rcases List.mem_append.mp hz with hz | hz
  ·rcases List.mem_append.mp hz with hz | hz
   ·exact h1 z hz
   ·rw [List.mem_singleton.mp hz];exact h2
  ·exact h3 z hz
theorem found_b (A:Ad) {b:Addr} {M N:Mem} {ds:SD} {kv ps pa pt pe:Nat} {L:Str} {stem:List Nat} {at':Nat} {ev:Int} {cs:List Nat} {K:List D→Mem→Prop} (hb:Bgd M b N)
  (hst:∀c∈stem,c∈L.cps.toList) (hsl:stem.length≤7) (hat:at'≤stem.length) (hcs:∀c∈cs,c∈L.cps.toList) (hcl:cs.length < 1000)
  (h0:∀x:D,(ds.set kv (some x))[0]?=some (some (.ref b))) (hk:∀x:D,(ds.set kv (some x))[kv]?=some (some x)) (h1:∀x:D,(ds.set kv (some x))[ps]?=some (some (.str ⟨stem.toArray⟩)))
  (h2:∀x:D,(ds.set kv (some x))[pa]?=some (some (.int (at':Int)))) (h3:∀x:D,(ds.set kv (some x))[pt]?=some (some (.str ⟨(stem.drop at').toArray⟩))) (h4:∀x:D,(ds.set kv (some x))[pe]?=some (some (.int ev)))
  (q:∀(pr:List (Nat×Str)) N',pr.map (·.1)=cs→(∀p∈pr,Sig L at' p.1 p.2)→Bgd M b N'→K (pr.map fun p=> .str p.2) N'):
  lcR (gN kv) wYes (wOp rAddD (wOp rAddD (wSl (wVar ps) wNo (wSome (wVar pa))) (wVar kv)) (wIfE (wTest (wOp (rEqD false) (wVar pe) (wC (.int 0)))) (wVar pt) (wSl (wVar pt) wNo (wSome (wCall (sp__law_pull A) (wCons (wVar 0) (wCons (wOp rAddD (wCB rLenD (wCons (wVar pt) wNil)) (wC (.int 1))) wNil))))))) ds (cs.map sg) [] N K:=by
 have big:=sizeLine_big
 refine lcR_ind (fun its acc N'=>∃(pr:List (Nat×Str)) (r:List Nat),acc=(pr.map fun p=>D.str p.2)∧its=r.map sg∧pr.map (·.1) ++ r=cs∧(∀p∈pr,Sig L at' p.1 p.2)∧Bgd M b N') ?_ ?_ (cs.map sg) [] N ⟨[],cs,rfl,rfl,rfl,by simp,hb⟩
 ·rintro acc N' ⟨pr,r,rfl,e,e2,g1,g2⟩
  have e3:r= []:=List.map_eq_nil_iff.mp e.symm
  subst e3
  exact q pr N' (by rw [← e2,List.append_nil]) g1 g2
 ·rintro d its acc N' R hR ⟨pr,r,rfl,e,e2,g1,g2⟩
  cases r with
  | nil=>cases e
  | cons c r=>
   cases e
   have hc:c∈L.cps.toList:=hcs c (by rw [← e2];simp)
   have hl:(pr.map fun p=>D.str p.2).length < sizeLine:=by
    have e5:=congrArg List.length e2
    rw [List.length_append,List.length_map] at e5
    rw [List.length_map]
    omega
   have c1:cutS ⟨stem.toArray⟩ none (some (at':Int))=⟨(stem.take at').toArray⟩:=cut_take (by rw [len_mk];exact hat)
   have tl:(stem.take at').length=at':=List.length_take_of_le hat
   have dl:(stem.drop at').length=stem.length - at':=List.length_drop
   have l1:(⟨(stem.take at').toArray⟩:Str).length + (sgS c).length≤sizeLine:=by rw [len_mk,len_sg,tl];omega
   have fin:∀(rest:List Nat) N2,(∀z∈rest,z∈L.cps.toList)→at' + 1 + rest.length≤8→Bgd M b N2→((⟨(stem.take at').toArray⟩ ++ sgS c:Str).length + (⟨rest.toArray⟩:Str).length≤sizeLine∧
     (pr.map fun p=>D.str p.2).length < sizeLine∧R ((pr.map fun p=>D.str p.2) ++ [D.str (⟨(stem.take at').toArray⟩ ++ sgS c ++ ⟨rest.toArray⟩)]) N2):=fun rest N2 hr hl2 g=>by
    refine ⟨by rw [app_len,len_mk,len_sg,len_mk,tl];omega,hl,hR _ _ ⟨pr ++ [(c,⟨(stem.take at').toArray⟩ ++ sgS c ++ ⟨rest.toArray⟩)],r,by rw [List.map_append];rfl,rfl,by rw [List.map_append,← e2];simp,fun p hp=>?_,g⟩⟩
    rcases List.mem_append.mp hp with hp | hp
    ·exact g1 p hp
    ·rw [List.mem_singleton.mp hp]
     have s:=sig_of (L:=L) (pre:=stem.take at') (rest:=rest) (c:=c) (fun z hz=>hst z (List.mem_of_mem_take hz)) hc hr (by rw [tl];omega)
     rw [tl] at s
     exact s
   simp only [gN,wYes,wOp,wSl,wNo,wSome,intK,wIfE,wTest,isBl,wVar,h0,h1,h2,h3,h4,hk,wGet,wCons,wNil,wCall,wC,wCB,rSlD,c1,rAddD,rEqD,rLenD,↓reduceIte,Bool.false_xor]
   refine ⟨by rw [len_mk];omega,l1,?_⟩
   by_cases hev:ev=0
   ·rw [if_pos (decide_eq_true hev)]
    exact fin _ _ (fun z hz=>hst z (List.mem_of_mem_drop hz)) (by omega) g2
   ·rw [if_neg (by simp [hev])]
    refine ⟨by rw [len_mk];omega,pull_b A g2 (by omega) (by rw [len_mk];omega) fun v hv N2 g _=>?_⟩
    rw [len_mk] at hv
    have c2:cutS ⟨(stem.drop at').toArray⟩ none (some (v:Int))=⟨((stem.drop at').take v).toArray⟩:=cut_take (by rw [len_mk];omega)
    simp only [c2]
    refine ⟨by rw [len_mk];omega,fin _ _ (fun z hz=>hst z (List.mem_of_mem_drop (List.mem_of_mem_take hz))) ?_ g⟩
    rw [List.length_take]
    omega
theorem strs_sg (cs:List Nat):strsD (cs.map sg)=some (cs.map sgS):=strsD_map sgS cs
theorem sum_sg:∀cs:List Nat,((cs.map sgS).map (·.length)).sum=cs.length
 | []=>rfl
 | c :: cs=>by
  simp only [List.map_cons,List.sum_cons,List.length_cons]
  rw [sum_sg cs,len_sg]
  omega
end DL.K05
set_option maxHeartbeats 1000000
namespace DL.K05
open PySem PySem.Spec PyProof.Rows L2 RZ
structure NamesK (xs:List Str):Prop where
 lo:0≤xs.length
 hi:xs.length≤8
 nd:xs.Nodup
 ok:∀x∈xs,madeOf LET 8 (.str x)=true
theorem NamesK.to5 {xs:List Str} (h:NamesK xs) (l:xs.length≤5) (l1:1≤xs.length:=by omega):NamesOk xs:=⟨l1,l,h.nd,h.ok⟩
theorem let_len:LET.cps.toList.length=26:=by decide +kernel
theorem let_nd:LET.cps.toList.Nodup:=by decide +kernel
theorem l36_len:L36.cps.toList.length=36:=by decide +kernel
theorem l36_nd:L36.cps.toList.Nodup:=by decide +kernel
def sp__law_stems (A:Ad):SpD:=fun ds M Q _=>∃b many o,ds= [.ref b, .int many, .int 8]∧M b=some o∧Bg o∧0≤many∧many≤8∧∀names,NamesK names→(names.length:Int)=many→OwnOk names→∀o',Bg o'→Q (.lst (names.map D.str)) (mput M b o')
def wb__law_stems_c3 (A:Ad):WS:=
 (wRet (wLc (wiSeq (wVar 10)) (gN 13) wYes (wIfE (wTest (wOp (rInD false) (wVar 13) (wTup (wCons (wC (.str "moment")) (wCons (wC (.str "source")) wNil))))) (wOp rAddD (wVar 13) (wC (.str "a"))) (wVar 13)) [13]))
def wb__law_stems_c2 (A:Ad):WS:=
 (wSeq (wAsg (wLc (wiSeq (wVar 5)) (gN 11) wYes (wOp rAddD (wOp rAddD (wSl (wVar 6) wNo (wSome (wVar 7))) (wVar 11)) (wIfE (wTest (wOp (rEqD false) (wVar 9) (wC (.int 0)))) (wVar 8) (wSl (wVar 8) wNo (wSome (wCall (sp__law_pull A) (wCons (wVar 0) (wCons (wOp rAddD (wCB rLenD (wCons (wVar 8) wNil)) (wC (.int 1))) wNil))))))) [11]) (gN 10))
 (wb__law_stems_c3 A))
def wb__law_stems_c1 (A:Ad):WS:=
 (wSeq (wAsg (wCall (sp__law_pull A) (wCons (wVar 0) (wCons (wOp rAddD (wCB rLenD (wCons (wVar 6) wNil)) (wC (.int 1))) wNil))) (gN 7))
 (wSeq (wAsg (wTup (wCons (wSl (wVar 6) (wSome (wVar 7)) wNo) (wCons (wCall (sp__law_pull A) (wCons (wVar 0) (wCons (wC (.int 2)) wNil))) wNil))) (gT 2 (gCons' (gN 8) (gCons' (gN 9) gNil'))))
 (wb__law_stems_c2 A)))
def wb__law_stems_c0 (A:Ad):WS:=
 (wSeq (wAsg (wBM "str" rJoinD (wC (.str "")) (wCons (wLc (wiRng1 (wCons (wCall (sp__law_pull A) (wCons (wVar 0) (wCons (wVar 2) wNil))) wNil)) (gN 12) wYes (wOp rIxD (wVar 3) (wCall (sp__law_pull A) (wCons (wVar 0) (wCons (wC (.int 26)) wNil)))) [12]) wNil)) (gN 6))
 (wb__law_stems_c1 A))
def wb__law_stems_c4 (A:Ad):WS:=
 (wSeq (wAsg (wLcO (wiStr (wVar 3)) (gN 11) wYes (wVar 11) [11]) (gN 4))
 (wSeq (wAsg (wLc (wiRng1 (wCons (wVar 1) wNil)) (gN 12) wYes (wBM "list" rPopD (wVar 4) (wCons (wCall (sp__law_pull A) (wCons (wVar 0) (wCons (wCB rLenD (wCons (wVar 4) wNil)) wNil))) wNil)) [12]) (gN 5))
 (wb__law_stems_c0 A)))
def wb__law_stems (A:Ad):WS:=
 (wSeq (wAsg (wC (.str "abcdefghijklmnopqrstuvwxyz")) (gN 3))
 (wb__law_stems_c4 A))
theorem bd__law_stems {P:Program} {w:World} {K:PySem.W.Frag} {mg:Str→Option Value} {base:Heap} {A:Ad} (T:Txt P K mg A) (cdv:Value) (R:Around) (outer:List Env) (s:Shared) (H:Hp) (E:XK) (hr:Room 1 (R.deeper (envOfC "_law_stems" (defScope s__law_stems) s.heap.objs.size A.f__law_stems cdv)))
  (tk:Takes (cxOf (L2.CX P w) P w K mg base N__law_stems "_law_stems" (defScope s__law_stems) A.f__law_stems cdv R outer s H E) (WD E)):JSs (cxOf (L2.CX P w) P w K mg base N__law_stems "_law_stems" (defScope s__law_stems) A.f__law_stems cdv R outer s H E) (WD E) (defBody s__law_stems) (wb__law_stems A):=
 (js_cons (js_set (i:=3) sc__law_stems.nd j_str)
 (js_cons (js_set (i:=4) sc__law_stems.nd (j_lcO (own:= [("_law_sign",11)]) rfl sc__law_stems.nd (ji_str (jv 3)) (blkOk_by (own:= [("_law_sign",11)]) (N:=N__law_stems) (sc:=defScope s__law_stems) (by decide +kernel)) (fun _ _ _ _ _=>(jg_name (i:=11) sc__law_stems.nd)) (fun _ _ _ _ _=>jts_nil) (fun _ _ _ _ _=>(jv 11))))
 (js_cons (js_setLc (own:= [("_law_k",12)]) rfl sc__law_stems.nd (ji_rng1 T.n_range (j_cons (jv 1) j_nil)) (blkOk_by (own:= [("_law_k",12)]) (N:=N__law_stems) (sc:=defScope s__law_stems) (by decide +kernel)) (fun _ _ _ _ _=>(jg_name (i:=12) sc__law_stems.nd)) (fun _ _ _ _ _=>jts_nil) (fun _ _ _ _ _=>(j_bm PySem.F.plainAttrs_list PySem.F.slot_list_pop PySem.F.type_list_pop md_pop (jv 4) (j_cons (j_call (ok__law_pull T) hr (by decide) T.g__law_pull tkF (j_cons (jv 0) (j_cons (j_callB cd_len T.n_len bo_len (j_cons (jv 4) j_nil)) j_nil))) j_nil))))
 (js_cons (js_set (i:=6) sc__law_stems.nd (j_bm PySem.F.plainAttrs_str PySem.F.slot_str_join PySem.F.type_str_join md_join j_str (j_cons (j_lc (own:= [("_law_k",12)]) rfl sc__law_stems.nd (ji_rng1 T.n_range (j_cons (j_call (ok__law_pull T) hr (by decide) T.g__law_pull tk (j_cons (jv 0) (j_cons (jv 2) j_nil))) j_nil)) (blkOk_by (own:= [("_law_k",12)]) (N:=N__law_stems) (sc:=defScope s__law_stems) (by decide +kernel)) (fun _ _ _ _ _=>(jg_name (i:=12) sc__law_stems.nd)) (fun _ _ _ _ _=>jts_nil) (fun _ _ _ _ _=>(j_ix id_ix (jv 3) (j_call (ok__law_pull T) hr (by decide) T.g__law_pull tkF (j_cons (jv 0) (j_cons j_int j_nil)))))) j_nil)))
 (js_cons (js_set (i:=7) sc__law_stems.nd (j_call (ok__law_pull T) hr (by decide) T.g__law_pull tk (j_cons (jv 0) (j_cons (j_op od_add (j_callB cd_len T.n_len bo_len (j_cons (jv 6) j_nil)) j_int) j_nil))))
 (js_cons (js_asg (j_tup (j_cons (j_sl (jv 6) (jo_some (jv 7)) jo_none) (j_cons (j_call (ok__law_pull T) hr (by decide) T.g__law_pull tk (j_cons (jv 0) (j_cons j_int j_nil))) j_nil))) (jg_tup rfl (jgs_cons (jg_name (i:=8) sc__law_stems.nd) (jgs_cons (jg_name (i:=9) sc__law_stems.nd) jgs_nil))))
 (js_cons (js_setLc (own:= [("_law_sign",11)]) rfl sc__law_stems.nd (ji_seq (jv 5)) (blkOk_by (own:= [("_law_sign",11)]) (N:=N__law_stems) (sc:=defScope s__law_stems) (by decide +kernel)) (fun _ _ _ _ _=>(jg_name (i:=11) sc__law_stems.nd)) (fun _ _ _ _ _=>jts_nil) (fun _ _ _ _ _=>(j_op od_add (j_op od_add (j_sl (jv 6) jo_none (jo_some (jv 7))) (jv 11)) (j_if (jt_cmp (od_eq hr.units) (jv 9) j_int) (jv 8) (j_sl (jv 8) jo_none (jo_some (j_call (ok__law_pull T) hr (by decide) T.g__law_pull tkF (j_cons (jv 0) (j_cons (j_op od_add (j_callB cd_len T.n_len bo_len (j_cons (jv 8) j_nil)) j_int) j_nil)))))))))
 (js_one (js_ret (j_lc (own:= [("_law_name",13)]) rfl sc__law_stems.nd (ji_seq (jv 10)) (blkOk_by (own:= [("_law_name",13)]) (N:=N__law_stems) (sc:=defScope s__law_stems) (by decide +kernel)) (fun _ _ _ _ _=>(jg_name (i:=13) sc__law_stems.nd)) (fun _ _ _ _ _=>jts_nil) (fun _ _ _ _ _=>(j_if (jt_cmp od_in (jv 13) (j_tup (j_cons j_str (j_cons j_str j_nil)))) (j_op od_add (jv 13) j_str) (jv 13)))))))))))))
structure Nms (n k:Nat) (pr:List (Nat×Str)):Prop where
 nd:(pr.map (·.1)).Nodup
 ok:∀p∈pr,Sig LET k p.1 p.2
 len:pr.length=n
theorem sig_inj {L:Str} {k:Nat} {pr:List (Nat×Str)} (nd:(pr.map (·.1)).Nodup) (ok:∀p∈pr,Sig L k p.1 p.2):(pr.map (·.2)).Nodup:=by
 have key:(pr.map (·.2)).map (fun x=>x.cps.toList[k]?)=(pr.map (·.1)).map some:=by
  rw [List.map_map,List.map_map]
  exact List.map_congr_left fun p hp=>(ok p hp).at_
 have h2:((pr.map (·.1)).map some).Nodup:=List.Pairwise.map _ (fun a b h e=>h (Option.some.inj e)) nd
 rw [← key] at h2
 exact List.Pairwise.of_map _ (fun a b h e=>h (by rw [e])) h2
def fixN (x:Str):Str:=if x=("moment":Str)∨x=("source":Str) then x ++ ("a":Str) else x
theorem fix_sig {k c:Nat} {x:Str} (h:Sig LET k c x):Sig LET k c (fixN x)∧fixN x≠("moment":Str)∧fixN x≠("source":Str):=by
 unfold fixN
 by_cases e:x=("moment":Str)∨x=("source":Str)
 ·rw [if_pos e]
  have hl:x.length=6:=by rcases e with e | e <;> rw [e] <;> decide +kernel
  have hk:=(List.getElem?_eq_some_iff.mp h.at_).1
  refine ⟨⟨?_,?_,?_⟩,?_⟩
  ·rw [app_cps,List.getElem?_append_left hk];exact h.at_
  ·rw [app_len,hl];decide +kernel
  ·rw [all_in_iff,app_cps]
   intro z hz
   rcases List.mem_append.mp hz with hz | hz
   ·exact all_in_iff.mp h.ok z hz
   ·have e2:(("a":Str)).cps.toList= [97]:=by decide +kernel
    rw [e2] at hz
    rw [List.mem_singleton.mp hz]
    decide +kernel
  ·rcases e with e | e <;> rw [e] <;> exact ⟨by decide +kernel,by decide +kernel⟩
 ·rw [if_neg e]
  exact ⟨h,fun q=>e (.inl q),fun q=>e (.inr q)⟩
theorem stems_c3 (A:Ad) {b:Addr} {N:Mem} {E:ED} {ds:SD} {k n:Nat} {pr:List (Nat×Str)} (hd:ds.length=14) (h10:ds[10]?=some (some (.lst (pr.map fun p=>D.str p.2)))) (hp:Nms n k pr) (h1:0≤n) (h5:n≤8)
  (q:∀names,NamesK names→names.length=n→OwnOk names→E.rt (.lst (names.map D.str)) N):wb__law_stems_c3 A E ds N:=by
 have big:=sizeLine_big
 simp only [wb__law_stems_c3,wRet,wLc,wiSeq,wVar,h10,wGet,frz_lst,optK_some]
 refine lcR_mapL (fun p:Nat×Str=>D.str p.2) (fun p=>D.str (fixN p.2)) (fun _=>True) (fun p acc R _ h=>?_) pr [] (fun _ _=>trivial) (by rw [hp.len];simp only [List.length_nil];omega) ?_
 ·have hk:(((wipeD ds [13]).set 13 (some (.str p.2))))[13]?=some (some (.str p.2)):=by
   rw [List.getElem?_set_self]
   rw [wipeD_len,hd]
   decide
  have e:inD (.str p.2) [.str "moment", .str "source"]=decide (p.2=("moment":Str)∨p.2=("source":Str)):=by
   have e2:=inD_strs (x:=p.2) [("moment":Str),("source":Str)]
   rw [show inD (.str p.2) [.str "moment", .str "source"]=inD (.str p.2) ([("moment":Str),("source":Str)].map D.str) from rfl,e2]
   simp only [List.any_cons,List.any_nil,Bool.or_false,Bool.decide_or,eq_comm]
  simp only [gN,wYes,wIfE,wTest,wOp,wVar,hk,wGet,wTup,wCons,wNil,wC,rInD,seqOf_tup,optK_some,e,isBl,↓reduceIte,Bool.false_xor]
  refine ⟨by simp only [List.length_cons,List.length_nil];omega,rfl,rfl,?_⟩
  unfold fixN at h
  by_cases c:p.2=("moment":Str)∨p.2=("source":Str)
  ·rw [if_pos (decide_eq_true c)]
   rw [if_pos c] at h
   simp only [rAddD]
   have hl:p.2.length=6:=by rcases c with e | e <;> rw [e] <;> decide +kernel
   refine ⟨?_,h⟩
   rw [hl]
   have:(("a":Str)).length=1:=by decide +kernel
   omega
  ·rw [if_neg (by simpa using c)]
   rw [if_neg c] at h
   exact h
 ·rw [List.nil_append]
  have e:(pr.map fun p=>D.str (fixN p.2))=((pr.map fun p=>(p.1,fixN p.2)).map (·.2)).map D.str:=by rw [List.map_map,List.map_map];rfl
  rw [e]
  have hs:∀p∈pr.map (fun p=>(p.1,fixN p.2)),Sig LET k p.1 p.2:=fun p hp'=>by
   obtain ⟨r,hr,rfl⟩:=List.mem_map.mp hp'
   exact (fix_sig (hp.ok r hr)).1
  have hf:((pr.map fun p=>(p.1,fixN p.2)).map (·.1))=pr.map (·.1):=by rw [List.map_map];rfl
  refine q _ ⟨?_,?_,sig_inj (k:=k) (by rw [hf];exact hp.nd) hs,fun x hx=>?_⟩ ?_ ⟨fun hm=>?_,fun hm=>?_⟩
  ·rw [List.length_map,List.length_map,hp.len];exact h1
  ·rw [List.length_map,List.length_map,hp.len];exact h5
  ·obtain ⟨r,hr,rfl⟩:=List.mem_map.mp hx
   exact (hs r hr).made
  ·rw [List.length_map,List.length_map,hp.len]
  ·rw [List.map_map] at hm
   obtain ⟨r,hr,e⟩:=List.mem_map.mp hm
   exact (fix_sig (hp.ok r hr)).2.1 e
  ·rw [List.map_map] at hm
   obtain ⟨r,hr,e⟩:=List.mem_map.mp hm
   exact (fix_sig (hp.ok r hr)).2.2 e
theorem stems_c2 (A:Ad) {b:Addr} {M N:Mem} {E:ED} {cs stem:List Nat} {at':Nat} {ev:Int} {s1 s2 s3 s4 s10 s11 s12 s13:Option D} (hb:Bgd M b N)
  (hst:∀c∈stem,c∈LET.cps.toList) (hsl:stem.length≤7) (hat:at'≤stem.length) (hcs:∀c∈cs,c∈LET.cps.toList) (hnd:cs.Nodup) (h1:0≤cs.length) (h5:cs.length≤8)
  (q:∀names,NamesK names→names.length=cs.length→OwnOk names→∀N',Bgd M b N'→E.rt (.lst (names.map D.str)) N'):
  wb__law_stems_c2 A E [some (.ref b),s1,s2,s3,s4,some (.lst (cs.map sg)),some (.str ⟨stem.toArray⟩),some (.int (at':Int)),some (.str ⟨(stem.drop at').toArray⟩),some (.int ev),s10,s11,s12,s13] N:=by
 simp only [wb__law_stems_c2,wSeq_p,seqE_nx,seqE_rt,wAsg,wLc,wiSeq,wVar,wGet,List.getElem?_cons_zero,List.getElem?_cons_succ,frz_lst,optK_some]
 refine found_b A (L:=LET) (stem:=stem) (at':=at') (ev:=ev) hb hst hsl hat hcs (by omega) (fun _=>rfl) (fun _=>rfl) (fun _=>rfl) (fun _=>rfl) (fun _=>rfl) (fun _=>rfl) fun pr N' e hs g=>?_
 exact stems_c3 A (b:=b) (k:=at') (n:=cs.length) (pr:=pr) rfl rfl ⟨by rw [e];exact hnd,hs,by rw [← e,List.length_map]⟩ h1 h5 fun names o1 o2 o3=>q names o1 o2 o3 N' g
theorem stems_c1 (A:Ad) {b:Addr} {M N:Mem} {E:ED} {cs stem:List Nat} {s1 s2 s3 s4 s7 s8 s9 s10 s11 s12 s13:Option D} (hb:Bgd M b N)
  (hst:∀c∈stem,c∈LET.cps.toList) (hsl:stem.length≤7) (hcs:∀c∈cs,c∈LET.cps.toList) (hnd:cs.Nodup) (h1:0≤cs.length) (h5:cs.length≤8)
  (q:∀names,NamesK names→names.length=cs.length→OwnOk names→∀N',Bgd M b N'→E.rt (.lst (names.map D.str)) N'):
  wb__law_stems_c1 A E [some (.ref b),s1,s2,s3,s4,some (.lst (cs.map sg)),some (.str ⟨stem.toArray⟩),s7,s8,s9,s10,s11,s12,s13] N:=by
 have big:=sizeLine_big
 simp only [wb__law_stems_c1,↓pLcUO,↓pSrtSetO,↓pLstV,↓lvK_dct,↓pMakeD,↓rLenO_p,↓pOrX,↓rIsM_p,↓rMinL_p,↓rMax_p,↓rOr2_p,↓rOrs_p,↓pMakeKD,↓pDcU,↓zR,↓reduceIte,zV,wipeD]
 refine ⟨by rw [len_mk];omega,pull_b A hb (by omega) (by rw [len_mk];omega) fun v hv N1 g1 _=>?_⟩
 rw [len_mk] at hv
 have c1:cutS ⟨stem.toArray⟩ (some (v:Int)) none=⟨(stem.drop v).toArray⟩:=cut_drop (by rw [len_mk];omega)
 simp only [↓pLcUO,↓pSrtSetO,↓pLstV,↓lvK_dct,↓pMakeD,↓rLenO_p,↓pOrX,↓rIsM_p,↓rMinL_p,↓rMax_p,↓rOr2_p,↓rOrs_p,↓pMakeKD,↓pDcU,↓zR,↓reduceIte,zV,wipeD,c1]
 refine ⟨by rw [len_mk];omega,pull_b A g1 (by omega) (by omega) fun ev hev N2 g2 _=>?_⟩
 refine ⟨by omega,?_⟩
 exact stems_c2 A (at':=v) (ev:=ev) g2 hst hsl (by omega) hcs hnd h1 h5 q
theorem sgn_sg (x:Str):sgnD x=x.cps.toList.map sg:=rfl
theorem stems_c0 (A:Ad) {b:Addr} {M N:Mem} {E:ED} {cs:List Nat} {s1 s4 s6 s7 s8 s9 s10 s11 s12 s13:Option D} (hb:Bgd M b N)
  (hcs:∀c∈cs,c∈LET.cps.toList) (hnd:cs.Nodup) (h1:0≤cs.length) (h5:cs.length≤8)
  (q:∀names,NamesK names→names.length=cs.length→OwnOk names→∀N',Bgd M b N'→E.rt (.lst (names.map D.str)) N'):
  wb__law_stems_c0 A E [some (.ref b),s1,some (.int 8),some (.str LET),s4,some (.lst (cs.map sg)),s6,s7,s8,s9,s10,s11,s12,s13] N:=by
 simp only [wb__law_stems_c0,↓pLcUO,↓pSrtSetO,↓pLstV,↓lvK_dct,↓pMakeD,↓rLenO_p,↓pOrX,↓rIsM_p,↓rMinL_p,↓rMax_p,↓rOr2_p,↓rOrs_p,↓pMakeKD,↓pDcU,↓zR,↓reduceIte,zV,wipeD,tyD]
 refine pull_b A hb (by omega) (by omega) fun v hv N1 g1 _=>?_
 refine ⟨⟨by omega,by omega⟩,stems_b A (L:=LET) (n:=26) g1 (by decide +kernel) (by decide) (by decide) (fun _=>rfl) (fun _=>rfl) _ (by rw [rng_len];omega) fun ls N2 l1 l2 g2=>?_⟩
 rw [rng_len] at l1
 simp only [rJoinD,strs_sg,optK_some,join_sgs]
 have e0:(("":Str)).length=0:=by decide +kernel
 refine ⟨by rw [sum_sg,e0];omega,?_⟩
 exact stems_c1 A (stem:=ls) g2 l2 (by omega) hcs hnd h1 h5 q
theorem signs_b {ds:SD} {kv:Nat} {L:Str} {k:List D→Mem→Prop} {M:Mem} (hl:L.length < 90000) (hk:∀x:D,(ds.set kv (some x))[kv]?=some (some x)) (q:k (L.cps.toList.map sg) M):
  lcR (gN kv) wYes (wVar kv) ds (sgnD L) [] M k:=by
 have big:=sizeLine_big
 rw [sgn_sg]
 refine lcR_mapL sg sg (fun _=>True) (fun c acc R _ h=>?_) L.cps.toList [] (fun _ _=>trivial) (by rw [cps_len];simp only [List.length_nil];omega) (by rw [List.nil_append];exact q)
 simp only [gN,wYes,wVar,hk,wGet,↓reduceIte]
 exact h
theorem stems_c4 (A:Ad) {b:Addr} {M:Mem} {E:ED} {L:Str} {many:Int} {o:MO} {s4 s5 s6 s7 s8 s9 s10 s11 s12 s13:Option D} (hb:M b=some o) (g:Bg o) (hL:L=LET) (m1:0≤many) (m5:many≤8)
  (q:∀names,NamesK names→(names.length:Int)=many→OwnOk names→∀N' al,M al=none→(∃o' u,Bg o'∧N'=mput (mput M al u) b o')→E.rt (.lst (names.map D.str)) N'):
  wb__law_stems_c4 A E [some (.ref b),some (.int many),some (.int 8),some (.str L),s4,s5,s6,s7,s8,s9,s10,s11,s12,s13] M:=by
 have e26:L.cps.toList.length=26:=by rw [hL];exact let_len
 have end_:L.cps.toList.Nodup:=by rw [hL];exact let_nd
 simp only [wb__law_stems_c4,wSeq_p,seqE_nx,seqE_rt,wAsg,wLcO,wiStr,wVar,wGet,List.getElem?_cons_zero,List.getElem?_cons_succ,wipeD,List.set_cons_zero,List.set_cons_succ]
 refine signs_b (by rw [← cps_len,e26];decide) (fun _=>rfl) fun al hal=>?_
 have hab:al≠b:=fun e=>by subst e;rw [hal] at hb;cases hb
 simp only [wLc,wiRng1,wCons,wNil,wVar,wGet,gN,List.getElem?_cons_zero,List.getElem?_cons_succ,wipeD,List.set_cons_zero,List.set_cons_succ]
 refine ⟨⟨by omega,by omega⟩,pops A (M:=mput M al (.lst (L.cps.toList.map sg))) hab (bgd_rfl (by rw [mput_ne hab.symm];exact hb) g) mput_same end_ (by rw [e26];decide) (fun _=>rfl) (fun _=>rfl) _ (by rw [rng_len,e26];omega) fun cs ls' N hcl hcn hcm hN=>?_⟩
 rw [rng_len] at hcl
 obtain ⟨o1,u1,g1,rfl⟩:=hN
 subst hL
 refine stems_c0 A (M:=mput (mput (mput M al (.lst (LET.cps.toList.map sg))) b o1) al u1) (bgd_rfl (by rw [mput_ne hab.symm,mput_same]) g1) hcm hcn (by omega) (by omega) fun names n1 n2 n3 N' hN'=>?_
 obtain ⟨o2,g2,rfl⟩:=hN'
 refine q names n1 (by omega) n3 _ al hal ⟨o2,u1,g2,?_⟩
 funext c
 by_cases e:c=b
 ·subst e;rw [mput_same,mput_same]
 ·rw [mput_ne e,mput_ne e]
  by_cases e2:c=al
  ·subst e2;rw [mput_same,mput_same]
  ·rw [mput_ne e2,mput_ne e,mput_ne e2,mput_ne e2]
theorem fin_own {Q:KN} {d:D} {M:Mem} {al b:Addr} {o:MO} {u:MO} (hal:M al=none) (hb:al≠b) (q:Q d (mput M b o)):Fin Q d (mput (mput M al u) b o):=by
 refine fin_dn (M':=mput M b o) (fun c u hc=>?_) q
 by_cases e:c=b
 ·subst e;rw [mput_same] at hc ⊢;exact hc
 ·rw [mput_ne e] at hc ⊢
  have e2:c≠al:=fun e2=>by subst e2;rw [hal] at hc;cases hc
  rw [mput_ne e2]
  exact hc
theorem rd__law_stems (A:Ad):∀ds M Q Xc,sp__law_stems A ds M Q Xc→ds.length=P__law_stems.length∧RD (wb__law_stems A) Q Xc (startD N__law_stems ds) M:=by
 rintro _ M Q Xc ⟨b,many,o,rfl,hb,g,m1,m5,q⟩
 refine ⟨rfl,?_⟩
 rw [st__law_stems]
 simp only [RD,wb__law_stems,wSeq_p,seqE_nx,seqE_rt,wAsg,wC,gN,List.set_cons_zero,List.set_cons_succ]
 refine stems_c4 A (L:=Str.ofString "abcdefghijklmnopqrstuvwxyz") hb g rfl m1 m5 fun names n1 n2 n3 N' al hal hN=>?_
 obtain ⟨o',u,g',rfl⟩:=hN
 exact fin_own hal (fun e=>by subst e;rw [hal] at hb;cases hb) (q names n1 n2 n3 o' g')
theorem ok__law_stems {P:Program} {w:World} {K:PySem.W.Frag} {mg:Str→Option Value} {base:Heap} {A:Ad} (T:Txt P K mg A):FnJ P w K mg base 2 A.f__law_stems (sp__law_stems A):=
 FnJ.mkAt T.d__law_stems sc__law_stems (fun cdv R outer s H E hr tk=>bd__law_stems T cdv R outer s H E hr tk) (rd__law_stems A)
structure WordsOk (n:Nat) (ws:List Str):Prop where
 len:ws.length=n
 ok:∀x∈ws,madeOf L36 8 (.str x)=true
 nd:ws.Nodup
def sp__law_words (A:Ad):SpD:=fun ds M Q _=>∃b many o,ds= [.ref b, .int many]∧M b=some o∧Bg o∧1≤many∧many≤30∧∀ws,WordsOk many.toNat ws→∀o',Bg o'→Q (.lst (ws.map D.str)) (mput M b o')
def wb__law_words_c2 (A:Ad):WS:=
 (wRet (wLc (wiSeq (wVar 4)) (gN 9) wYes (wOp rAddD (wOp rAddD (wSl (wVar 5) wNo (wSome (wVar 6))) (wVar 9)) (wIfE (wTest (wOp (rEqD false) (wVar 8) (wC (.int 0)))) (wVar 7) (wSl (wVar 7) wNo (wSome (wCall (sp__law_pull A) (wCons (wVar 0) (wCons (wOp rAddD (wCB rLenD (wCons (wVar 7) wNil)) (wC (.int 1))) wNil))))))) [9]))
def wb__law_words_c1 (A:Ad):WS:=
 (wSeq (wAsg (wCall (sp__law_pull A) (wCons (wVar 0) (wCons (wOp rAddD (wCB rLenD (wCons (wVar 5) wNil)) (wC (.int 1))) wNil))) (gN 6))
 (wSeq (wAsg (wTup (wCons (wSl (wVar 5) (wSome (wVar 6)) wNo) (wCons (wCall (sp__law_pull A) (wCons (wVar 0) (wCons (wC (.int 2)) wNil))) wNil))) (gT 2 (gCons' (gN 7) (gCons' (gN 8) gNil'))))
 (wb__law_words_c2 A)))
def wb__law_words_c0 (A:Ad):WS:=
 (wSeq (wAsg (wBM "str" rJoinD (wC (.str "")) (wCons (wLc (wiRng1 (wCons (wCall (sp__law_pull A) (wCons (wVar 0) (wCons (wC (.int 8)) wNil))) wNil)) (gN 10) wYes (wOp rIxD (wVar 2) (wCall (sp__law_pull A) (wCons (wVar 0) (wCons (wC (.int 36)) wNil)))) [10]) wNil)) (gN 5))
 (wb__law_words_c1 A))
def wb__law_words_c3 (A:Ad):WS:=
 (wSeq (wAsg (wLcO (wiStr (wVar 2)) (gN 9) wYes (wVar 9) [9]) (gN 3))
 (wSeq (wAsg (wLc (wiRng1 (wCons (wVar 1) wNil)) (gN 10) wYes (wBM "list" rPopD (wVar 3) (wCons (wCall (sp__law_pull A) (wCons (wVar 0) (wCons (wCB rLenD (wCons (wVar 3) wNil)) wNil))) wNil)) [10]) (gN 4))
 (wb__law_words_c0 A)))
def wb__law_words (A:Ad):WS:=
 (wSeq (wAsg (wC (.str "abcdefghijklmnopqrstuvwxyz0123456789")) (gN 2))
 (wb__law_words_c3 A))
theorem bd__law_words {P:Program} {w:World} {K:PySem.W.Frag} {mg:Str→Option Value} {base:Heap} {A:Ad} (T:Txt P K mg A) (cdv:Value) (R:Around) (outer:List Env) (s:Shared) (H:Hp) (E:XK) (hr:Room 1 (R.deeper (envOfC "_law_words" (defScope s__law_words) s.heap.objs.size A.f__law_words cdv)))
  (tk:Takes (cxOf (L2.CX P w) P w K mg base N__law_words "_law_words" (defScope s__law_words) A.f__law_words cdv R outer s H E) (WD E)):JSs (cxOf (L2.CX P w) P w K mg base N__law_words "_law_words" (defScope s__law_words) A.f__law_words cdv R outer s H E) (WD E) (defBody s__law_words) (wb__law_words A):=
 (js_cons (js_set (i:=2) sc__law_words.nd j_str)
 (js_cons (js_set (i:=3) sc__law_words.nd (j_lcO (own:= [("_law_sign",9)]) rfl sc__law_words.nd (ji_str (jv 2)) (blkOk_by (own:= [("_law_sign",9)]) (N:=N__law_words) (sc:=defScope s__law_words) (by decide +kernel)) (fun _ _ _ _ _=>(jg_name (i:=9) sc__law_words.nd)) (fun _ _ _ _ _=>jts_nil) (fun _ _ _ _ _=>(jv 9))))
 (js_cons (js_setLc (own:= [("_law_k",10)]) rfl sc__law_words.nd (ji_rng1 T.n_range (j_cons (jv 1) j_nil)) (blkOk_by (own:= [("_law_k",10)]) (N:=N__law_words) (sc:=defScope s__law_words) (by decide +kernel)) (fun _ _ _ _ _=>(jg_name (i:=10) sc__law_words.nd)) (fun _ _ _ _ _=>jts_nil) (fun _ _ _ _ _=>(j_bm PySem.F.plainAttrs_list PySem.F.slot_list_pop PySem.F.type_list_pop md_pop (jv 3) (j_cons (j_call (ok__law_pull T) hr (by decide) T.g__law_pull tkF (j_cons (jv 0) (j_cons (j_callB cd_len T.n_len bo_len (j_cons (jv 3) j_nil)) j_nil))) j_nil))))
 (js_cons (js_set (i:=5) sc__law_words.nd (j_bm PySem.F.plainAttrs_str PySem.F.slot_str_join PySem.F.type_str_join md_join j_str (j_cons (j_lc (own:= [("_law_k",10)]) rfl sc__law_words.nd (ji_rng1 T.n_range (j_cons (j_call (ok__law_pull T) hr (by decide) T.g__law_pull tk (j_cons (jv 0) (j_cons j_int j_nil))) j_nil)) (blkOk_by (own:= [("_law_k",10)]) (N:=N__law_words) (sc:=defScope s__law_words) (by decide +kernel)) (fun _ _ _ _ _=>(jg_name (i:=10) sc__law_words.nd)) (fun _ _ _ _ _=>jts_nil) (fun _ _ _ _ _=>(j_ix id_ix (jv 2) (j_call (ok__law_pull T) hr (by decide) T.g__law_pull tkF (j_cons (jv 0) (j_cons j_int j_nil)))))) j_nil)))
 (js_cons (js_set (i:=6) sc__law_words.nd (j_call (ok__law_pull T) hr (by decide) T.g__law_pull tk (j_cons (jv 0) (j_cons (j_op od_add (j_callB cd_len T.n_len bo_len (j_cons (jv 5) j_nil)) j_int) j_nil))))
 (js_cons (js_asg (j_tup (j_cons (j_sl (jv 5) (jo_some (jv 6)) jo_none) (j_cons (j_call (ok__law_pull T) hr (by decide) T.g__law_pull tk (j_cons (jv 0) (j_cons j_int j_nil))) j_nil))) (jg_tup rfl (jgs_cons (jg_name (i:=7) sc__law_words.nd) (jgs_cons (jg_name (i:=8) sc__law_words.nd) jgs_nil))))
 (js_one (js_ret (j_lc (own:= [("_law_sign",9)]) rfl sc__law_words.nd (ji_seq (jv 4)) (blkOk_by (own:= [("_law_sign",9)]) (N:=N__law_words) (sc:=defScope s__law_words) (by decide +kernel)) (fun _ _ _ _ _=>(jg_name (i:=9) sc__law_words.nd)) (fun _ _ _ _ _=>jts_nil) (fun _ _ _ _ _=>(j_op od_add (j_op od_add (j_sl (jv 5) jo_none (jo_some (jv 6))) (jv 9)) (j_if (jt_cmp (od_eq hr.units) (jv 8) j_int) (jv 7) (j_sl (jv 7) jo_none (jo_some (j_call (ok__law_pull T) hr (by decide) T.g__law_pull tkF (j_cons (jv 0) (j_cons (j_op od_add (j_callB cd_len T.n_len bo_len (j_cons (jv 7) j_nil)) j_int) j_nil)))))))))))))))))
theorem words_c2 (A:Ad) {b:Addr} {M N:Mem} {E:ED} {cs stem:List Nat} {at':Nat} {ev:Int} {s1 s2 s3 s9 s10:Option D} (hb:Bgd M b N)
  (hst:∀c∈stem,c∈L36.cps.toList) (hsl:stem.length≤7) (hat:at'≤stem.length) (hcs:∀c∈cs,c∈L36.cps.toList) (hnd:cs.Nodup) (h5:cs.length≤30)
  (q:∀ws,WordsOk cs.length ws→∀N',Bgd M b N'→E.rt (.lst (ws.map D.str)) N'):
  wb__law_words_c2 A E [some (.ref b),s1,s2,s3,some (.lst (cs.map sg)),some (.str ⟨stem.toArray⟩),some (.int (at':Int)),some (.str ⟨(stem.drop at').toArray⟩),some (.int ev),s9,s10] N:=by
 simp only [wb__law_words_c2,wRet,wLc,wiSeq,wVar,wGet,List.getElem?_cons_zero,List.getElem?_cons_succ,frz_lst,optK_some]
 refine found_b A (L:=L36) (stem:=stem) (at':=at') (ev:=ev) hb hst hsl hat hcs (by omega) (fun _=>rfl) (fun _=>rfl) (fun _=>rfl) (fun _=>rfl) (fun _=>rfl) (fun _=>rfl) fun pr N' e hs g=>?_
 have e2:(pr.map fun p=>D.str p.2)=(pr.map (·.2)).map D.str:=by rw [List.map_map];rfl
 rw [e2]
 refine q _ ⟨by rw [← e,List.length_map,List.length_map],fun x hx=>?_,sig_inj (k:=at') (by rw [e];exact hnd) hs⟩ N' g
 obtain ⟨r,hr,rfl⟩:=List.mem_map.mp hx
 exact (hs r hr).made
theorem words_c1 (A:Ad) {b:Addr} {M N:Mem} {E:ED} {cs stem:List Nat} {s1 s2 s3 s6 s7 s8 s9 s10:Option D} (hb:Bgd M b N)
  (hst:∀c∈stem,c∈L36.cps.toList) (hsl:stem.length≤7) (hcs:∀c∈cs,c∈L36.cps.toList) (hnd:cs.Nodup) (h5:cs.length≤30)
  (q:∀ws,WordsOk cs.length ws→∀N',Bgd M b N'→E.rt (.lst (ws.map D.str)) N'):
  wb__law_words_c1 A E [some (.ref b),s1,s2,s3,some (.lst (cs.map sg)),some (.str ⟨stem.toArray⟩),s6,s7,s8,s9,s10] N:=by
 have big:=sizeLine_big
 simp only [wb__law_words_c1,↓pLcUO,↓pSrtSetO,↓pLstV,↓lvK_dct,↓pMakeD,↓rLenO_p,↓pOrX,↓rIsM_p,↓rMinL_p,↓rMax_p,↓rOr2_p,↓rOrs_p,↓pMakeKD,↓pDcU,↓zR,↓reduceIte,zV,wipeD]
 refine ⟨by rw [len_mk];omega,pull_b A hb (by omega) (by rw [len_mk];omega) fun v hv N1 g1 _=>?_⟩
 rw [len_mk] at hv
 have c1:cutS ⟨stem.toArray⟩ (some (v:Int)) none=⟨(stem.drop v).toArray⟩:=cut_drop (by rw [len_mk];omega)
 simp only [↓pLcUO,↓pSrtSetO,↓pLstV,↓lvK_dct,↓pMakeD,↓rLenO_p,↓pOrX,↓rIsM_p,↓rMinL_p,↓rMax_p,↓rOr2_p,↓rOrs_p,↓pMakeKD,↓pDcU,↓zR,↓reduceIte,zV,wipeD,c1]
 refine ⟨by rw [len_mk];omega,pull_b A g1 (by omega) (by omega) fun ev hev N2 g2 _=>?_⟩
 refine ⟨by omega,?_⟩
 exact words_c2 A (at':=v) (ev:=ev) g2 hst hsl (by omega) hcs hnd h5 q
theorem words_c0 (A:Ad) {b:Addr} {M N:Mem} {E:ED} {L:Str} (hL:L=L36) {cs:List Nat} {s1 s3 s5 s6 s7 s8 s9 s10:Option D} (hb:Bgd M b N)
  (hcs:∀c∈cs,c∈L36.cps.toList) (hnd:cs.Nodup) (h5:cs.length≤30)
  (q:∀ws,WordsOk cs.length ws→∀N',Bgd M b N'→E.rt (.lst (ws.map D.str)) N'):
  wb__law_words_c0 A E [some (.ref b),s1,some (.str L),s3,some (.lst (cs.map sg)),s5,s6,s7,s8,s9,s10] N:=by
 simp only [wb__law_words_c0,↓pLcUO,↓pSrtSetO,↓pLstV,↓lvK_dct,↓pMakeD,↓rLenO_p,↓pOrX,↓rIsM_p,↓rMinL_p,↓rMax_p,↓rOr2_p,↓rOrs_p,↓pMakeKD,↓pDcU,↓zR,↓reduceIte,zV,wipeD,tyD]
 refine pull_b A hb (by omega) (by omega) fun v hv N1 g1 _=>?_
 refine ⟨⟨by omega,by omega⟩,stems_b A (L:=L) (n:=36) g1 (by rw [hL];decide +kernel) (by decide) (by decide) (fun _=>rfl) (fun _=>rfl) _ (by rw [rng_len];omega) fun ls N2 l1 l2 g2=>?_⟩
 rw [rng_len] at l1
 simp only [rJoinD,strs_sg,optK_some,join_sgs]
 have e0:(("":Str)).length=0:=by decide +kernel
 refine ⟨by rw [sum_sg,e0];omega,?_⟩
 exact words_c1 A (stem:=ls) g2 (by rw [← hL];exact l2) (by omega) hcs hnd h5 q
theorem words_c3 (A:Ad) {b:Addr} {M:Mem} {E:ED} {L:Str} {many:Int} {o:MO} {s3 s4 s5 s6 s7 s8 s9 s10:Option D} (hb:M b=some o) (g:Bg o) (hL:L=L36) (m1:1≤many) (m5:many≤30)
  (q:∀ws,WordsOk many.toNat ws→∀N' al,M al=none→(∃o' u,Bg o'∧N'=mput (mput M al u) b o')→E.rt (.lst (ws.map D.str)) N'):
  wb__law_words_c3 A E [some (.ref b),some (.int many),some (.str L),s3,s4,s5,s6,s7,s8,s9,s10] M:=by
 have e36:L.cps.toList.length=36:=by rw [hL];exact l36_len
 have end_:L.cps.toList.Nodup:=by rw [hL];exact l36_nd
 simp only [wb__law_words_c3,wSeq_p,seqE_nx,seqE_rt,wAsg,wLcO,wiStr,wVar,wGet,List.getElem?_cons_zero,List.getElem?_cons_succ,wipeD,List.set_cons_zero,List.set_cons_succ]
 refine signs_b (by rw [← cps_len,e36];decide) (fun _=>rfl) fun al hal=>?_
 have hab:al≠b:=fun e=>by subst e;rw [hal] at hb;cases hb
 simp only [wLc,wiRng1,wCons,wNil,wVar,wGet,gN,List.getElem?_cons_zero,List.getElem?_cons_succ,wipeD,List.set_cons_zero,List.set_cons_succ]
 refine ⟨⟨by omega,by omega⟩,pops A (M:=mput M al (.lst (L.cps.toList.map sg))) hab (bgd_rfl (by rw [mput_ne hab.symm];exact hb) g) mput_same end_ (by rw [e36];decide) (fun _=>rfl) (fun _=>rfl) _ (by rw [rng_len,e36];omega) fun cs ls' N hcl hcn hcm hN=>?_⟩
 rw [rng_len] at hcl
 obtain ⟨o1,u1,g1,rfl⟩:=hN
 refine words_c0 A (M:=mput (mput (mput M al (.lst (L.cps.toList.map sg))) b o1) al u1) hL (bgd_rfl (by rw [mput_ne hab.symm,mput_same]) g1) (by rw [← hL];exact hcm) hcn (by omega) fun ws n1 N' hN'=>?_
 obtain ⟨o2,g2,rfl⟩:=hN'
 refine q ws (by rw [← hcl];exact n1) _ al hal ⟨o2,u1,g2,?_⟩
 funext c
 by_cases e:c=b
 ·subst e;rw [mput_same,mput_same]
 ·rw [mput_ne e,mput_ne e]
  by_cases e2:c=al
  ·subst e2;rw [mput_same,mput_same]
  ·rw [mput_ne e2,mput_ne e,mput_ne e2,mput_ne e2]
theorem rd__law_words (A:Ad):∀ds M Q Xc,sp__law_words A ds M Q Xc→ds.length=P__law_words.length∧RD (wb__law_words A) Q Xc (startD N__law_words ds) M:=by
 rintro _ M Q Xc ⟨b,many,o,rfl,hb,g,m1,m5,q⟩
 refine ⟨rfl,?_⟩
 rw [st__law_words]
 simp only [RD,wb__law_words,wSeq_p,seqE_nx,wAsg,wC,gN,List.set_cons_zero,List.set_cons_succ]
 refine words_c3 A (L:=Str.ofString "abcdefghijklmnopqrstuvwxyz0123456789") hb g (by decide +kernel) m1 m5 fun ws n1 N' al hal hN=>?_
 obtain ⟨o',u,g',rfl⟩:=hN
 exact fin_own hal (fun e=>by subst e;rw [hal] at hb;cases hb) (q ws n1 o' g')
theorem ok__law_words {P:Program} {w:World} {K:PySem.W.Frag} {mg:Str→Option Value} {base:Heap} {A:Ad} (T:Txt P K mg A):FnJ P w K mg base 2 A.f__law_words (sp__law_words A):=
 FnJ.mkAt T.d__law_words sc__law_words (fun cdv R outer s H E hr tk=>bd__law_words T cdv R outer s H E hr tk) (rd__law_words A)
structure GrOk (nf ns:Int) (fs ss ws:List Str):Prop where
 f:NamesOk fs
 s:NamesOk ss
 w:WordsOk 5 ws
 o:OwnOk fs
 fl:(fs.length:Int)≤nf
 sl:(ss.length:Int)≤ns
def grD (fs ss ws:List Str):D:= .tup [.lst (fs.map D.str), .lst (ss.map D.str), .lst (ws.map D.str)]
def sp__law_ground (A:Ad):SpD:=fun ds M Q _=>∃b nf ns o,ds= [.ref b, .int nf, .int ns]∧M b=some o∧Bg o∧1≤nf∧nf≤5∧1≤ns∧ns≤5∧∀fs ss ws,GrOk nf ns fs ss ws→∀o',Bg o'→Q (grD fs ss ws) (mput M b o')
def wb__law_ground (A:Ad):WS:=
 (wRet (wTup (wCons (wCall (sp__law_stems A) (wCons (wVar 0) (wCons (wOp rAddD (wC (.int 1)) (wCall (sp__law_pull A) (wCons (wVar 0) (wCons (wVar 1) wNil)))) (wCons (wC (.int 8)) wNil)))) (wCons (wCall (sp__law_stems A) (wCons (wVar 0) (wCons (wOp rAddD (wC (.int 1)) (wCall (sp__law_pull A) (wCons (wVar 0) (wCons (wVar 2) wNil)))) (wCons (wC (.int 8)) wNil)))) (wCons (wCall (sp__law_words A) (wCons (wVar 0) (wCons (wC (.int 5)) wNil))) wNil)))))
theorem bd__law_ground {P:Program} {w:World} {K:PySem.W.Frag} {mg:Str→Option Value} {base:Heap} {A:Ad} (T:Txt P K mg A) (cdv:Value) (R:Around) (outer:List Env) (s:Shared) (H:Hp) (E:XK) (hr:Room 2 (R.deeper (envOfC "_law_ground" (defScope s__law_ground) s.heap.objs.size A.f__law_ground cdv)))
  (tk:Takes (cxOf (L2.CX P w) P w K mg base N__law_ground "_law_ground" (defScope s__law_ground) A.f__law_ground cdv R outer s H E) (WD E)):JSs (cxOf (L2.CX P w) P w K mg base N__law_ground "_law_ground" (defScope s__law_ground) A.f__law_ground cdv R outer s H E) (WD E) (defBody s__law_ground) (wb__law_ground A):=
 (js_one (js_ret (j_tup (j_cons (j_call (ok__law_stems T) hr (by decide) T.g__law_stems tk (j_cons (jv 0) (j_cons (j_op od_add j_int (j_call (ok__law_pull T) hr (by decide) T.g__law_pull tk (j_cons (jv 0) (j_cons (jv 1) j_nil)))) (j_cons j_int j_nil)))) (j_cons (j_call (ok__law_stems T) hr (by decide) T.g__law_stems tk (j_cons (jv 0) (j_cons (j_op od_add j_int (j_call (ok__law_pull T) hr (by decide) T.g__law_pull tk (j_cons (jv 0) (j_cons (jv 2) j_nil)))) (j_cons j_int j_nil)))) (j_cons (j_call (ok__law_words T) hr (by decide) T.g__law_words tk (j_cons (jv 0) (j_cons j_int j_nil))) j_nil))))))
theorem rd__law_ground (A:Ad):∀ds M Q Xc,sp__law_ground A ds M Q Xc→ds.length=P__law_ground.length∧RD (wb__law_ground A) Q Xc (startD N__law_ground ds) M:=by
 rintro _ M Q Xc ⟨b,nf,ns,o,rfl,hb,g,f1,f5,s1,s5,q⟩
 refine ⟨rfl,?_⟩
 rw [st__law_ground]
 have big:=sizeLine_big
 simp only [RD,wb__law_ground,↓pLcUO,↓pSrtSetO,↓pLstV,↓lvK_dct,↓pMakeD,↓rLenO_p,↓pOrX,↓rIsM_p,↓rMinL_p,↓rMax_p,↓rOr2_p,↓rOrs_p,↓pMakeKD,↓pDcU,↓zR,↓reduceIte,zV,wipeD]
 refine pull_of A hb g (by omega) (by omega) fun v hv o1 g1=>?_
 refine ⟨b,_,o1,rfl,mput_same,g1,by omega,by omega,fun fs a1 a2 a3 o2 g2=>?_⟩
 simp only [↓pLcUO,↓pSrtSetO,↓pLstV,↓lvK_dct,↓pMakeD,↓rLenO_p,↓pOrX,↓rIsM_p,↓rMinL_p,↓rMax_p,↓rOr2_p,↓rOrs_p,↓pMakeKD,↓pDcU,↓zR,↓reduceIte,zV,wipeD,mput_mput]
 refine pull_of A mput_same g2 (by omega) (by omega) fun v2 hv2 o3 g3=>?_
 refine ⟨b,_,o3,rfl,mput_same,g3,by omega,by omega,fun ss b1 b2 b3 o4 g4=>?_⟩
 simp only [↓pLcUO,↓pSrtSetO,↓pLstV,↓lvK_dct,↓pMakeD,↓rLenO_p,↓pOrX,↓rIsM_p,↓rMinL_p,↓rMax_p,↓rOr2_p,↓rOrs_p,↓pMakeKD,↓pDcU,↓zR,↓reduceIte,zV,wipeD,mput_mput]
 refine ⟨b,5,o4,rfl,mput_same,g4,by omega,by omega,fun ws c1 o5 g5=>?_⟩
 simp only [↓pLcUO,↓pSrtSetO,↓pLstV,↓lvK_dct,↓pMakeD,↓rLenO_p,↓pOrX,↓rIsM_p,↓rMinL_p,↓rMax_p,↓rOr2_p,↓rOrs_p,↓pMakeKD,↓pDcU,↓zR,↓reduceIte,zV,wipeD,mput_mput]
 exact ⟨by omega,fin_of (q fs ss ws ⟨a1.to5 (by omega),b1.to5 (by omega),c1,a3,by omega,by omega⟩ o5 g5)⟩
theorem ok__law_ground {P:Program} {w:World} {K:PySem.W.Frag} {mg:Str→Option Value} {base:Heap} {A:Ad} (T:Txt P K mg A):FnJ P w K mg base 3 A.f__law_ground (sp__law_ground A):=
 FnJ.mkAt T.d__law_ground sc__law_ground (fun cdv R outer s H E hr tk=>bd__law_ground T cdv R outer s H E hr tk) (rd__law_ground A)
def sp__law_shape (A:Ad):SpD:=fun ds M Q _=>∃fs ss ws,ds= [grD fs ss ws]∧NamesOk fs∧NamesOk ss∧OwnOk fs∧Q (shp A fs ss) M
def wb__law_shape (A:Ad):WS:=
 (wRet (wMake A.c_Shape (sp_Shape___init__ A) (wCons (wCB rListD (wCons (wOp rIxD (wVar 0) (wC (.int 0))) wNil)) (wCons (wCB rListD (wCons (wOp rIxD (wVar 0) (wC (.int 1))) wNil)) wNil))))
theorem bd__law_shape {P:Program} {w:World} {K:PySem.W.Frag} {mg:Str→Option Value} {base:Heap} {A:Ad} (T:Txt P K mg A) (cdv:Value) (R:Around) (outer:List Env) (s:Shared) (H:Hp) (E:XK) (hr:Room 5 (R.deeper (envOfC "_law_shape" (defScope s__law_shape) s.heap.objs.size A.f__law_shape cdv)))
  (tk:Takes (cxOf (L2.CX P w) P w K mg base N__law_shape "_law_shape" (defScope s__law_shape) A.f__law_shape cdv R outer s H E) (WD E)):JSs (cxOf (L2.CX P w) P w K mg base N__law_shape "_law_shape" (defScope s__law_shape) A.f__law_shape cdv R outer s H E) (WD E) (defBody s__law_shape) (wb__law_shape A):=
 (js_one (js_ret (j_make (C:=A.c_Shape) T.mk_Shape (ok_Shape___init__ T) hr (by decide) T.g_Shape tk (j_cons (j_callTy cd_list T.n_list bo_list (j_cons (j_ix id_ix (jv 0) j_int) j_nil)) (j_cons (j_callTy cd_list T.n_list bo_list (j_cons (j_ix id_ix (jv 0) j_int) j_nil)) j_nil)))))
theorem rd__law_shape (A:Ad):∀ds M Q Xc,sp__law_shape A ds M Q Xc→ds.length=P__law_shape.length∧RD (wb__law_shape A) Q Xc (startD N__law_shape ds) M:=by
 rintro _ M Q Xc ⟨fs,ss,ws,rfl,h1,h2,h3,q⟩
 refine ⟨rfl,?_⟩
 rw [st__law_shape]
 simp only [RD,wb__law_shape,↓pLcUO,↓pSrtSetO,↓pLstV,↓lvK_dct,↓pMakeD,↓rLenO_p,↓pOrX,↓rIsM_p,↓rMinL_p,↓rMax_p,↓rOr2_p,↓rOrs_p,↓pMakeKD,↓pDcU,↓zR,↓reduceIte,zV,wipeD,grD]
 intro a ha
 refine ⟨a,fs,ss,rfl,mput_same,h1,h2,h3,rfl,?_⟩
 rw [mput_mput]
 refine fin_ins mput_same (M':=M) ha (fun c u hc=>?_) (fin_of q)
 have e:c≠a:=fun e=>by subst e;rw [ha] at hc;cases hc
 rw [mput_ne e]
 exact hc
theorem ok__law_shape {P:Program} {w:World} {K:PySem.W.Frag} {mg:Str→Option Value} {base:Heap} {A:Ad} (T:Txt P K mg A):FnJ P w K mg base 6 A.f__law_shape (sp__law_shape A):=
 FnJ.mkAt T.d__law_shape sc__law_shape (fun cdv R outer s H E hr tk=>bd__law_shape T cdv R outer s H E hr tk) (rd__law_shape A)
def Wd (v:D):Prop:=v= .non∨∃w,v= .str w∧madeOf L36 8 (.str w)=true
structure RowAt (n:Nat) (ss:List Str) (m:Int) (d:D):Prop where
 ex:∃s vs,d= .tup [.int m, .str s, .tup vs]∧s∈ss∧vs.length=n∧∀v∈vs,Wd v
theorem strOk_of {x L:Str} (hL:PyData.strOk L=true) (h:allIn x L=true):PyData.strOk x=true:=by
 unfold PyData.strOk at hL ⊢
 rw [Array.all_eq_true_iff_forall_mem] at hL ⊢
 intro c hc
 exact hL c (Array.mem_def.mpr (all_in_iff.mp h c (Array.mem_def.mp hc)))
theorem made_nc {L x:Str} {n:Nat} (hL:PyData.strOk L=true) (h:madeOf L 8 (.str x)=true):Nc (.str x) n:=by
 have q:=made_len h
 exact ⟨by omega,strOk_of hL q.2.2⟩
theorem okLET:PyData.strOk LET=true:=by decide +kernel
theorem ok36:PyData.strOk L36=true:=by decide +kernel
theorem Wd.nc {v:D} {n:Nat} (h:Wd v):Nc v n:=by
 rcases h with rfl | ⟨w,rfl,h⟩
 ·trivial
 ·exact made_nc ok36 h
theorem Wd.ok {v:D} (h:Wd v):wordOk v=true:=by
 rcases h with rfl | ⟨w,rfl,h⟩
 ·rfl
 ·exact h
theorem RowAt.nc {n:Nat} {ss:List Str} {m:Int} {d:D} (h:RowAt n ss m d) (hs:NamesOk ss) (hn:n < 3000):Nc d 2:=by
 obtain ⟨s,vs,rfl,h1,h2,h3⟩:=h.ex
 refine ⟨⟨by decide,by simp⟩,trivial,made_nc okLET (hs.ok s h1),⟨⟨by decide,by omega⟩,Ncs_iff.mpr fun v hv=>(h3 v hv).nc⟩,trivial⟩
theorem RowAt.is {n:Nat} {ss:List Str} {m:Int} {d:D} (h:RowAt n ss m d):isRow n ss d=true:=by
 obtain ⟨s,vs,rfl,h1,h2,h3⟩:=h.ex
 show (true && ((ss.any fun y=>decide (y=s)) && (decide (vs.length=n) && vs.all wordOk)))=true
 rw [decide_eq_true h2,List.all_eq_true.mpr fun v hv=>(h3 v hv).ok,List.any_eq_true.mpr ⟨s,h1,decide_eq_true rfl⟩]
 rfl
theorem RowAt.mom {n:Nat} {ss:List Str} {m:Int} {d:D} (h:RowAt n ss m d):momI d=m:=by
 obtain ⟨s,vs,rfl,_⟩:=h.ex
 rfl
theorem RowAt.leaf {n:Nat} {ss:List Str} {m:Int} {d:D} (h:RowAt n ss m d):isPair d=false:=by
 obtain ⟨s,vs,rfl,_⟩:=h.ex
 rfl
def sp__law_row (A:Ad):SpD:=fun ds M Q _=>∃b fs ss ws m o nf ns,ds= [.ref b,grD fs ss ws, .int m]∧GrOk nf ns fs ss ws∧M b=some o∧Bg o∧∀d,RowAt fs.length ss m d→∀o',Bg o'→Q d (mput M b o')
def wb__law_row (A:Ad):WS:=
 (wSeq (wAsg (wLc (wiSeq (wOp rIxD (wVar 1) (wC (.int 0)))) (gN 4) wYes (wIfE (wTest (wOp (rEqD false) (wCall (sp__law_pull A) (wCons (wVar 0) (wCons (wC (.int 3)) wNil))) (wC (.int 0)))) (wC .non) (wCall (sp__law_any A) (wCons (wVar 0) (wCons (wOp rIxD (wVar 1) (wC (.int 2))) wNil)))) [4]) (gN 3))
 (wRet (wTup (wCons (wVar 2) (wCons (wCall (sp__law_any A) (wCons (wVar 0) (wCons (wOp rIxD (wVar 1) (wC (.int 1))) wNil))) (wCons (wCB rTupD (wCons (wVar 3) wNil)) wNil))))))
theorem bd__law_row {P:Program} {w:World} {K:PySem.W.Frag} {mg:Str→Option Value} {base:Heap} {A:Ad} (T:Txt P K mg A) (cdv:Value) (R:Around) (outer:List Env) (s:Shared) (H:Hp) (E:XK) (hr:Room 2 (R.deeper (envOfC "_law_row" (defScope s__law_row) s.heap.objs.size A.f__law_row cdv)))
  (tk:Takes (cxOf (L2.CX P w) P w K mg base N__law_row "_law_row" (defScope s__law_row) A.f__law_row cdv R outer s H E) (WD E)):JSs (cxOf (L2.CX P w) P w K mg base N__law_row "_law_row" (defScope s__law_row) A.f__law_row cdv R outer s H E) (WD E) (defBody s__law_row) (wb__law_row A):=
 (js_cons (js_setLc (own:= [("_law_name",4)]) rfl sc__law_row.nd (ji_seq (j_ix id_ix (jv 1) j_int)) (blkOk_by (own:= [("_law_name",4)]) (N:=N__law_row) (sc:=defScope s__law_row) (by decide +kernel)) (fun _ _ _ _ _=>(jg_name (i:=4) sc__law_row.nd)) (fun _ _ _ _ _=>jts_nil) (fun _ _ _ _ _=>(j_if (jt_cmp (od_eq hr.units) (j_call (ok__law_pull T) hr (by decide) T.g__law_pull tkF (j_cons (jv 0) (j_cons j_int j_nil))) j_int) j_non (j_call (ok__law_any T) hr (by decide) T.g__law_any tkF (j_cons (jv 0) (j_cons (j_ix id_ix (jv 1) j_int) j_nil))))))
 (js_one (js_ret (j_tup (j_cons (jv 2) (j_cons (j_call (ok__law_any T) hr (by decide) T.g__law_any tk (j_cons (jv 0) (j_cons (j_ix id_ix (jv 1) j_int) j_nil))) (j_cons (j_callTy cd_tup T.n_tuple bo_tuple (j_cons (jv 3) j_nil)) j_nil)))))))
theorem any_b (A:Ad) {b:Addr} {M N:Mem} {xs:List D} {Q:KN} {Xc:KX} (hb:Bgd M b N) (h1:xs≠ []) (h2:xs.length < 900000) (q:∀x∈xs,∀N',Bgd M b N'→Bgd N b N'→Q x N'):sp__law_any A [.ref b, .lst xs] N Q Xc:=by
 obtain ⟨o,e,g⟩:=bgd_at hb
 first
 | exact ⟨b,xs,o,rfl,e,g,h1,h2,fun x hx o' ho=>q x hx _ (bgd_put hb ho) ⟨o',ho,rfl⟩⟩
 | exact ⟨b,_,xs,o,rfl, .inl rfl,e,g,h1,h2,fun x hx o' ho=>q x hx _ (bgd_put hb ho) ⟨o',ho,rfl⟩⟩
theorem rd__law_row (A:Ad):∀ds M Q Xc,sp__law_row A ds M Q Xc→ds.length=P__law_row.length∧RD (wb__law_row A) Q Xc (startD N__law_row ds) M:=by
 rintro _ M Q Xc ⟨b,fs,ss,ws,m,o,nf,ns,rfl,gr,hb,g,q⟩
 refine ⟨rfl,?_⟩
 rw [st__law_row]
 have big:=sizeLine_big
 have hw:(ws.map D.str)≠ []:=fun e=>by have:=gr.w.len;rw [List.map_eq_nil_iff.mp e] at this;cases this
 have hs:(ss.map D.str)≠ []:=fun e=>by have:=gr.s.lo;rw [List.map_eq_nil_iff.mp e] at this;cases this
 simp only [RD,wb__law_row,↓pLcUO,↓pSrtSetO,↓pLstV,↓lvK_dct,↓pMakeD,↓rLenO_p,↓pOrX,↓rIsM_p,↓rMinL_p,↓rMax_p,↓rOr2_p,↓rOrs_p,↓pMakeKD,↓pDcU,↓zR,↓reduceIte,zV,wipeD,grD]
 refine lcR_ind (fun its acc N=>acc.length + its.length=fs.length∧(∀v∈acc,Wd v)∧Bgd M b N) ?_ ?_ (fs.map D.str) [] M ⟨by simp,by simp,bgd_rfl hb g⟩
 ·rintro acc N ⟨l,hv,hN⟩
  refine any_b A hN hs (by rw [List.length_map];have:=gr.s.hi;omega) fun x hx N2 hN2 _=>?_
  obtain ⟨s,hs',rfl⟩:=List.mem_map.mp hx
  refine ⟨by omega,?_⟩
  obtain ⟨o2,g2,rfl⟩:=hN2
  exact fin_of (q _ ⟨s,acc,rfl,hs',by simpa using l,hv⟩ o2 g2)
 ·rintro d its acc N R hR ⟨l,hv,hN⟩
  rw [List.length_cons] at l
  have:=gr.f.hi
  simp only [↓pLcUO,↓pSrtSetO,↓pLstV,↓lvK_dct,↓pMakeD,↓rLenO_p,↓pOrX,↓rIsM_p,↓rMinL_p,↓rMax_p,↓rOr2_p,↓rOrs_p,↓pMakeKD,↓pDcU,↓zR,↓reduceIte,zV,wipeD]
  refine pull_b A hN (by omega) (by omega) fun v hv2 N2 hN2 _=>?_
  by_cases h0:(v:Int)=0
  ·simp only [h0,decide_true,↓pLcUO,↓pSrtSetO,↓pLstV,↓lvK_dct,↓pMakeD,↓rLenO_p,↓pOrX,↓rIsM_p,↓rMinL_p,↓rMax_p,↓rOr2_p,↓rOrs_p,↓pMakeKD,↓pDcU,↓zR,↓reduceIte,zV,wipeD]
   refine ⟨by omega,hR _ _ ⟨by rw [List.length_append,List.length_singleton];omega,fun z hz=>?_,hN2⟩⟩
   rcases List.mem_append.mp hz with hz | hz
   ·exact hv z hz
   ·rw [List.mem_singleton.mp hz];exact .inl rfl
  ·simp only [h0,decide_false,↓pLcUO,↓pSrtSetO,↓pLstV,↓lvK_dct,↓pMakeD,↓rLenO_p,↓pOrX,↓rIsM_p,↓rMinL_p,↓rMax_p,↓rOr2_p,↓rOrs_p,↓pMakeKD,↓pDcU,↓zR,↓reduceIte,zV,wipeD]
   refine any_b A hN2 hw (by rw [List.length_map,gr.w.len];omega) fun x hx N3 hN3 _=>?_
   obtain ⟨w,hw',rfl⟩:=List.mem_map.mp hx
   refine ⟨by omega,hR _ _ ⟨by rw [List.length_append,List.length_singleton];omega,fun z hz=>?_,hN3⟩⟩
   rcases List.mem_append.mp hz with hz | hz
   ·exact hv z hz
   ·rw [List.mem_singleton.mp hz];exact .inr ⟨w,rfl,gr.w.ok w hw'⟩
theorem ok__law_row {P:Program} {w:World} {K:PySem.W.Frag} {mg:Str→Option Value} {base:Heap} {A:Ad} (T:Txt P K mg A):FnJ P w K mg base 3 A.f__law_row (sp__law_row A):=
 FnJ.mkAt T.d__law_row sc__law_row (fun cdv R outer s H E hr tk=>bd__law_row T cdv R outer s H E hr tk) (rd__law_row A)
structure RowsOk (n:Nat) (ss:List Str) (many:Nat) (rows:List D):Prop where
 len:rows.length=many
 row:∀d∈rows,RowAt n ss (momI d) d
 nd:(rows.map momI).Nodup
 near:∃base:Int, -(10 ^ 29)≤base∧base≤10 ^ 29∧∀d∈rows,base < momI d∧momI d≤base + 3 * many
def sp__law_rows (A:Ad):SpD:=fun ds M Q _=>∃b fs ss ws many o nf ns,ds= [.ref b,grD fs ss ws, .int many]∧GrOk nf ns fs ss ws∧M b=some o∧Bg o∧0≤many∧many≤100∧∀rows,RowsOk fs.length ss many.toNat rows→∀o',Bg o'→Q (.lst rows) (mput M b o')
def wb__law_rows (A:Ad):WS:=
 (wSeq (wPar 3 4 (wCons (wCall (sp__law_any A) (wCons (wVar 0) (wCons (wLst (wCons (wC (.int 0)) (wCons (wUn rNegD (wC (.int 7))) (wCons (wC (.int 1)) (wCons (wOp (rIntD CPow fun i j=> .int (i ^ j.toNat)) (wC (.int 10)) (wC (.int 29))) (wCons (wUn rNegD (wOp (rIntD CPow fun i j=> .int (i ^ j.toNat)) (wC (.int 10)) (wC (.int 29)))) wNil)))))) wNil))) (wCons (wLstO wNil) wNil)))
 (wSeq (wFor (wiRng1 (wCons (wVar 2) wNil)) (gN 5)
 (wSeq (wAsg (wOp rAddD (wOp rAddD (wVar 3) (wC (.int 1))) (wCall (sp__law_pull A) (wCons (wVar 0) (wCons (wC (.int 3)) wNil)))) (gN 3))
 (wDrop (wBM "list" rAppD (wVar 4) (wCons (wCall (sp__law_row A) (wCons (wVar 0) (wCons (wVar 1) (wCons (wVar 3) wNil)))) wNil)))))
 (wRet (wCall (sp__law_mixed A) (wCons (wVar 0) (wCons (wFz (wVar 4)) wNil))))))
theorem bd__law_rows {P:Program} {w:World} {K:PySem.W.Frag} {mg:Str→Option Value} {base:Heap} {A:Ad} (T:Txt P K mg A) (cdv:Value) (R:Around) (outer:List Env) (s:Shared) (H:Hp) (E:XK) (hr:Room 3 (R.deeper (envOfC "_law_rows" (defScope s__law_rows) s.heap.objs.size A.f__law_rows cdv)))
  (tk:Takes (cxOf (L2.CX P w) P w K mg base N__law_rows "_law_rows" (defScope s__law_rows) A.f__law_rows cdv R outer s H E) (WD E)):JSs (cxOf (L2.CX P w) P w K mg base N__law_rows "_law_rows" (defScope s__law_rows) A.f__law_rows cdv R outer s H E) (WD E) (defBody s__law_rows) (wb__law_rows A):=
 (js_cons (js_par (i:=3) (j:=4) rfl sc__law_rows.nd (j_cons (j_call (ok__law_any T) hr (by decide) T.g__law_any tk (j_cons (jv 0) (j_cons (j_lst (j_cons j_int (j_cons (j_un ud_neg j_int) (j_cons j_int (j_cons (j_op od_pow j_int j_int) (j_cons (j_un ud_neg (j_op od_pow j_int j_int)) j_nil)))))) j_nil))) (j_cons (j_lstO j_nil) j_nil)))
 (js_cons (js_for (passes_of rfl) rfl (ji_rng1 T.n_range (j_cons (jv 2) j_nil)) (jg_name (i:=5) sc__law_rows.nd)
 (js_cons (js_set (i:=3) sc__law_rows.nd (j_op od_add (j_op od_add (jv 3) j_int) (j_call (ok__law_pull T) hr (by decide) T.g__law_pull tk (j_cons (jv 0) (j_cons j_int j_nil)))))
 (js_one (js_expr (j_bm PySem.F.plainAttrs_list PySem.F.slot_list_append PySem.F.type_list_append md_append (jv 4) (j_cons (j_call (ok__law_row T) hr (by decide) T.g__law_row tk (j_cons (jv 0) (j_cons (jv 1) (j_cons (jv 3) j_nil)))) j_nil))))))
 (js_one (js_ret (j_call (ok__law_mixed T) hr (by decide) T.g__law_mixed tk (j_cons (jv 0) (j_cons (j_fz (jv 4)) j_nil)))))))
theorem rd__law_rows (A:Ad):∀ds M Q Xc,sp__law_rows A ds M Q Xc→ds.length=P__law_rows.length∧RD (wb__law_rows A) Q Xc (startD N__law_rows ds) M:=by
 rintro _ M Q Xc ⟨b,fs,ss,ws,many,o,nf,ns,rfl,gr,hb,g,m0,m1,q⟩
 refine ⟨rfl,?_⟩
 rw [st__law_rows]
 have big:=sizeLine_big
 simp only [RD,wb__law_rows,↓pLcUO,↓pSrtSetO,↓pLstV,↓lvK_dct,↓pMakeD,↓rLenO_p,↓pOrX,↓rIsM_p,↓rMinL_p,↓rMax_p,↓rOr2_p,↓rOrs_p,↓pMakeKD,↓pDcU,↓zR,↓reduceIte,zV,wipeD,CPow]
 refine ⟨⟨by decide,by decide,by decide⟩,⟨by decide,by decide,by decide⟩,by omega,any_b A (bgd_rfl hb g) (by simp) (by decide) fun x hx N1 hN1 _=>?_⟩
 obtain ⟨base,rfl,hb1,hb2⟩:∃base:Int,x= .int base∧ -(10 ^ 29)≤base∧base≤10 ^ 29:=by
  rcases List.mem_cons.mp hx with rfl | hx
  ·exact ⟨_,rfl,by decide,by decide⟩
  rcases List.mem_cons.mp hx with rfl | hx
  ·exact ⟨_,rfl,by decide,by decide⟩
  rcases List.mem_cons.mp hx with rfl | hx
  ·exact ⟨_,rfl,by decide,by decide⟩
  rcases List.mem_cons.mp hx with rfl | hx
  ·exact ⟨_,rfl,by decide,by decide⟩
  ·rw [List.mem_singleton.mp hx]
   exact ⟨_,rfl,by decide,by decide⟩
 obtain ⟨o1,g1,rfl⟩:=hN1
 refine ⟨Nat.zero_le _,fun a ha=>⟨⟨by omega,by omega⟩,?_⟩⟩
 have hab:a≠b:=fun e=>by subst e;rw [mput_same] at ha;cases ha
 have hMa:M a=none:=by rw [mput_ne hab] at ha;exact ha
 refine forR_ind (fun items ds N=>∃fnd cur o' x,Bg o'∧ds= [some (.ref b),some (grD fs ss ws),some (.int many),some (.int cur),some (.ref a),x]∧N a=some (.lst fnd)∧N b=some o'∧(∀c,c≠a→c≠b→N c=M c)∧
  (∀d∈fnd,RowAt fs.length ss (momI d) d∧base < momI d∧momI d≤cur)∧(fnd.map momI).Nodup∧base≤cur∧cur≤base + 3 * fnd.length∧fnd.length + items.length=many.toNat) ?_ ?_ _ _ _
  ⟨[],base,o1,none,g1,rfl,mput_same,by rw [mput_ne hab.symm,mput_same],fun c c1 c2=>by rw [mput_ne c1,mput_ne c2],by simp,by simp,by omega,by simp,by rw [rng_len];simp⟩
 ·rintro ds N ⟨fnd,cur,o',x,g',rfl,n1,n2,n3,r1,r2,r3,r4,r5⟩
  rw [List.length_nil,Nat.add_zero] at r5
  rw [seqE_nx]
  simp only [↓pLcUO,↓pSrtSetO,↓pLstV,↓lvK_dct,↓pMakeD,↓rLenO_p,↓pOrX,↓rIsM_p,↓rMinL_p,↓rMax_p,↓rOr2_p,↓rOrs_p,↓pMakeKD,↓pDcU,↓zR,↓reduceIte,zV,wipeD]
  refine fin_lst n1 (M':=mput M b o') (by rw [mput_ne hab];exact hMa) (fun c u hc=>?_) ⟨b,fnd,o',rfl,mput_same,g',by omega,fun ys hp o2 g2=>fin_of ?_⟩
  ·by_cases e:c=b
   ·subst e;rw [mput_same] at hc;rw [n2];exact hc
   ·rw [mput_ne e] at hc
    have e2:c≠a:=fun e2=>by subst e2;rw [hMa] at hc;cases hc
    rw [n3 c e2 e];exact hc
  ·rw [mput_mput]
   refine q ys ⟨by rw [hp.length_eq,r5],fun d hd=>(r1 d (hp.mem_iff.mp hd)).1,(hp.map momI).nodup_iff.mpr r2,base,hb1,hb2,fun d hd=>?_⟩ o2 g2
   have h:=r1 d (hp.mem_iff.mp hd)
   rw [← r5]
   exact ⟨h.2.1,by omega⟩
 ·rintro d items ds N R hR ⟨fnd,cur,o',x,g',rfl,n1,n2,n3,r1,r2,r3,r4,r5⟩
  rw [List.length_cons] at r5
  simp only [↓pLcUO,↓pSrtSetO,↓pLstV,↓lvK_dct,↓pMakeD,↓rLenO_p,↓pOrX,↓rIsM_p,↓rMinL_p,↓rMax_p,↓rOr2_p,↓rOrs_p,↓pMakeKD,↓pDcU,↓zR,↓reduceIte,zV,wipeD]
  refine pull_of A n2 g' (by omega) (by omega) fun v hv o2 g2=>?_
  have hd1:mput N b o2 a=some (.lst fnd):=by rw [mput_ne hab];exact n1
  simp only [↓pLcUO,↓pSrtSetO,↓pLstV,↓lvK_dct,↓pMakeD,↓rLenO_p,↓pOrX,↓rIsM_p,↓rMinL_p,↓rMax_p,↓rOr2_p,↓rOrs_p,↓pMakeKD,↓pDcU,↓zR,↓reduceIte,zV,wipeD]
  refine ⟨tyD_own hd1,b,fs,ss,ws,_,o2,nf,ns,rfl,gr,mput_same,g2,fun row hrow o3 g3=>?_⟩
  rw [mput_mput]
  have hd2:mput N b o3 a=some (.lst fnd):=by rw [mput_ne hab];exact n1
  refine app_own hd2 (by omega) (hR _ _ ⟨fnd ++ [row],_,o3,some d,g3,rfl,mput_same,by rw [mput_ne hab.symm,mput_same],fun c c1 c2=>by rw [mput_ne c1,mput_ne c2];exact n3 c c1 c2,fun z hz=>?_,?_,?_,?_,?_⟩)
  ·rcases List.mem_append.mp hz with hz | hz
   ·have h:=r1 z hz
    exact ⟨h.1,h.2.1,by omega⟩
   ·rw [List.mem_singleton.mp hz,hrow.mom]
    exact ⟨hrow,by omega,by omega⟩
  ·rw [List.map_append,List.nodup_append]
   refine ⟨r2,by simp,fun u hu w hw e=>?_⟩
   obtain ⟨z,hz,rfl⟩:=List.mem_map.mp hu
   simp only [List.map_cons,List.map_nil,List.mem_singleton] at hw
   have h:=r1 z hz
   rw [hrow.mom] at hw
   omega
  ·omega
  ·rw [List.length_append,List.length_singleton];omega
  ·rw [List.length_append,List.length_singleton];omega
theorem ok__law_rows {P:Program} {w:World} {K:PySem.W.Frag} {mg:Str→Option Value} {base:Heap} {A:Ad} (T:Txt P K mg A):FnJ P w K mg base 4 A.f__law_rows (sp__law_rows A):=
 FnJ.mkAt T.d__law_rows sc__law_rows (fun cdv R outer s H E hr tk=>bd__law_rows T cdv R outer s H E hr tk) (rd__law_rows A)
theorem leaf_flat {xs:List D} (h:∀x∈xs,isPair x=false):xs.flatMap leavesD=xs:=by
 induction xs with
 | nil=>rfl
 | cons x xs ih=>
  rw [List.flatMap_cons,leaves_one (h x List.mem_cons_self),ih fun y hy=>h y (List.mem_cons_of_mem _ hy)]
  rfl
def sp__law_tree (A:Ad):SpD:=fun ds M Q _=>∃b xs o,ds= [.ref b, .lst xs]∧M b=some o∧Bg o∧xs≠ []∧xs.length≤40∧Ncs xs 2∧∀t,leavesD t=xs.flatMap leavesD→Nc t 42→∀o',Bg o'→Q t (mput M b o')
def wb__law_tree (A:Ad):WS:=
 (wSeq (wAsg (wCB rListD (wCons (wVar 1) wNil)) (gN 2))
 (wSeq (wWhile (wTest (wOp (rInt0D fun i j=> .bl (decide (j < i))) (wCB rLenD (wCons (wVar 2) wNil)) (wC (.int 1))))
 (wSeq (wAsg (wCall (sp__law_pull A) (wCons (wVar 0) (wCons (wOp (rInt0D fun i j=> .int (i - j)) (wCB rLenD (wCons (wVar 2) wNil)) (wC (.int 1))) wNil))) (gN 3))
 (wAsg (wOp rAddD (wOp rAddD (wSl (wVar 2) wNo (wSome (wVar 3))) (wLst (wCons (wTup (wCons (wOp rIxD (wVar 2) (wVar 3)) (wCons (wOp rIxD (wVar 2) (wOp rAddD (wVar 3) (wC (.int 1)))) wNil))) wNil))) (wSl (wVar 2) (wSome (wOp rAddD (wVar 3) (wC (.int 2)))) wNo)) (gN 2))))
 (wRet (wOp rIxD (wVar 2) (wC (.int 0))))))
theorem bd__law_tree {P:Program} {w:World} {K:PySem.W.Frag} {mg:Str→Option Value} {base:Heap} {A:Ad} (T:Txt P K mg A) (cdv:Value) (R:Around) (outer:List Env) (s:Shared) (H:Hp) (E:XK) (hr:Room 1 (R.deeper (envOfC "_law_tree" (defScope s__law_tree) s.heap.objs.size A.f__law_tree cdv)))
  (tk:Takes (cxOf (L2.CX P w) P w K mg base N__law_tree "_law_tree" (defScope s__law_tree) A.f__law_tree cdv R outer s H E) (WD E)):JSs (cxOf (L2.CX P w) P w K mg base N__law_tree "_law_tree" (defScope s__law_tree) A.f__law_tree cdv R outer s H E) (WD E) (defBody s__law_tree) (wb__law_tree A):=
 (js_cons (js_set (i:=2) sc__law_tree.nd (j_callTy cd_list T.n_list bo_list (j_cons (jv 1) j_nil)))
 (js_cons (js_while (passes_of rfl) (jt_cmp od_gt (j_callB cd_len T.n_len bo_len (j_cons (jv 2) j_nil)) j_int)
 (js_cons (js_set (i:=3) sc__law_tree.nd (j_call (ok__law_pull T) hr (by decide) T.g__law_pull tk (j_cons (jv 0) (j_cons (j_op od_sub (j_callB cd_len T.n_len bo_len (j_cons (jv 2) j_nil)) j_int) j_nil))))
 (js_one (js_set (i:=2) sc__law_tree.nd (j_op od_add (j_op od_add (j_sl (jv 2) jo_none (jo_some (jv 3))) (j_lst (j_cons (j_tup (j_cons (j_ix id_ix (jv 2) (jv 3)) (j_cons (j_ix id_ix (jv 2) (j_op od_add (jv 3) j_int)) j_nil))) j_nil))) (j_sl (jv 2) (jo_some (j_op od_add (jv 3) j_int)) jo_none))))))
 (js_one (js_ret (j_ix id_ix (jv 2) j_int)))))
theorem cutL_hi {xs:List D} {k:Nat} (h:k≤xs.length):cutL xs none (some (k:Int))=xs.take k:=by
 unfold cutL
 rw [HT.sIx_none,HT.sIx_nat,Nat.min_eq_left h,List.drop_zero,Nat.sub_zero]
theorem cutL_lo {xs:List D} {k:Nat} (h:k≤xs.length):cutL xs (some (k:Int)) none=xs.drop k:=by
 unfold cutL
 rw [HT.sIx_none,HT.sIx_nat,Nat.min_eq_left h,List.take_of_length_le]
 rw [List.length_drop]
 exact Nat.le_refl _
theorem rd__law_tree (A:Ad):∀ds M Q Xc,sp__law_tree A ds M Q Xc→ds.length=P__law_tree.length∧RD (wb__law_tree A) Q Xc (startD N__law_tree ds) M:=by
 rintro _ M Q Xc ⟨b,xs,o,rfl,hb,g,hne,hl,hc,q⟩
 refine ⟨rfl,?_⟩
 rw [st__law_tree]
 have big:=sizeLine_big
 simp only [RD,wb__law_tree,↓pLcUO,↓pSrtSetO,↓pLstV,↓lvK_dct,↓pMakeD,↓rLenO_p,↓pOrX,↓rIsM_p,↓rMinL_p,↓rMax_p,↓rOr2_p,↓rOrs_p,↓pMakeKD,↓pDcU,↓zR,↓reduceIte,zV,wipeD]
 refine ⟨fun m ds N=>∃ys x,ds= [some (.ref b),some (.lst xs),some (.lst ys),x]∧Bgd M b N∧ys≠ []∧ys.length=m∧ys.length≤xs.length∧ys.flatMap leavesD=xs.flatMap leavesD∧Ncs ys (2 + (xs.length - ys.length)),
  ⟨xs.length,xs,none,rfl,bgd_rfl hb g,hne,rfl,Nat.le_refl _,rfl,by rw [Nat.sub_self];exact hc⟩,?_⟩
 rintro m ds N ⟨ys,x,rfl,hN,y1,y2,y3,y4,y5⟩
 have hpos:0 < ys.length:=List.length_pos_iff.mpr y1
 simp only [↓pLcUO,↓pSrtSetO,↓pLstV,↓lvK_dct,↓pMakeD,↓rLenO_p,↓pOrX,↓rIsM_p,↓rMinL_p,↓rMax_p,↓rOr2_p,↓rOrs_p,↓pMakeKD,↓pDcU,↓zR,↓reduceIte,zV,wipeD]
 by_cases h1:1 < (ys.length:Int)
 ·simp only [h1,decide_true,↓pLcUO,↓pSrtSetO,↓pLstV,↓lvK_dct,↓pMakeD,↓rLenO_p,↓pOrX,↓rIsM_p,↓rMinL_p,↓rMax_p,↓rOr2_p,↓rOrs_p,↓pMakeKD,↓pDcU,↓zR,↓reduceIte,zV,wipeD]
  refine pull_b A hN (by omega) (by omega) fun v hv N2 hN2 _=>?_
  have v1:v + 1 < ys.length:=by omega
  have e1:((v:Int) + 1)=((v + 1:Nat):Int):=by omega
  have e2:((v:Int) + 2)=((v + 2:Nat):Int):=by omega
  simp only [↓pLcUO,↓pSrtSetO,↓pLstV,↓lvK_dct,↓pMakeD,↓rLenO_p,↓pOrX,↓rIsM_p,↓rMinL_p,↓rMax_p,↓rOr2_p,↓rOrs_p,↓pMakeKD,↓pDcU,↓zR,↓reduceIte,zV,wipeD,e1,e2,atI_nat,List.getElem?_eq_getElem v1,List.getElem?_eq_getElem (show v < ys.length by omega),cutL_hi (show v≤ys.length by omega),cutL_lo (show v + 2≤ys.length by omega)]
  have tl:(ys.take v).length=v:=List.length_take_of_le (by omega)
  have dl:(ys.drop (v + 2)).length=ys.length - (v + 2):=List.length_drop
  have esplit:ys=ys.take v ++ (ys[v] :: ys[v + 1] :: ys.drop (v + 2)):=by
   rw [List.getElem_cons_drop,List.getElem_cons_drop,List.take_append_drop]
  refine ⟨by omega,by omega,by rw [tl];omega,by rw [List.length_append,tl,dl];simp only [List.length_singleton];omega,?_⟩
  refine ⟨ys.length - 1,by omega,_,some (.int v),rfl,hN2,by simp,?_,?_,?_,?_⟩
  ·rw [List.length_append,List.length_append,tl,dl];simp only [List.length_singleton];omega
  ·rw [List.length_append,List.length_append,tl,dl];simp only [List.length_singleton];omega
  ·rw [← y4]
   conv=>rhs;rw [esplit]
   simp only [List.flatMap_append,List.flatMap_cons,List.flatMap_nil,leavesD,List.append_assoc,List.append_nil,List.nil_append]
  ·have el:(ys.take v ++ [D.tup [ys[v],ys[v + 1]]] ++ ys.drop (v + 2)).length=ys.length - 1:=by
    rw [List.length_append,List.length_append,tl,dl];simp only [List.length_singleton];omega
   rw [el]
   have hall:=Ncs_iff.mp y5
   rw [Ncs_iff]
   intro z hz
   rcases List.mem_append.mp hz with hz | hz
   ·rcases List.mem_append.mp hz with hz | hz
    ·exact Nc.mono _ _ _ (by omega) (hall z (List.mem_of_mem_take hz))
    ·rw [List.mem_singleton.mp hz]
     refine ⟨⟨by omega,by simp⟩,?_,?_,trivial⟩
     ·exact Nc.mono _ _ _ (by omega) (hall _ (List.getElem_mem _))
     ·exact Nc.mono _ _ _ (by omega) (hall _ (List.getElem_mem _))
   ·exact Nc.mono _ _ _ (by omega) (hall z (List.mem_of_mem_drop hz))
 ·simp only [h1,decide_false,↓pLcUO,↓pSrtSetO,↓pLstV,↓lvK_dct,↓pMakeD,↓rLenO_p,↓pOrX,↓rIsM_p,↓rMinL_p,↓rMax_p,↓rOr2_p,↓rOrs_p,↓pMakeKD,↓pDcU,↓zR,↓reduceIte,zV,wipeD]
  obtain ⟨t,rfl⟩:∃t,ys= [t]:=by
   rcases ys with _ | ⟨t,_ | ⟨u,r⟩⟩
   ·exact absurd rfl y1
   ·exact ⟨t,rfl⟩
   ·simp only [List.length_cons] at h1;omega
  simp only [↓pLcUO,↓pSrtSetO,↓pLstV,↓lvK_dct,↓pMakeD,↓rLenO_p,↓pOrX,↓rIsM_p,↓rMinL_p,↓rMax_p,↓rOr2_p,↓rOrs_p,↓pMakeKD,↓pDcU,↓zR,↓reduceIte,zV,wipeD]
  obtain ⟨o2,g2,rfl⟩:=hN
  refine fin_of (q t ?_ ?_ o2 g2)
  ·rw [← y4,List.flatMap_singleton]
  ·exact Nc.mono _ _ _ (by simp only [List.length_singleton];omega) y5.1
theorem ok__law_tree {P:Program} {w:World} {K:PySem.W.Frag} {mg:Str→Option Value} {base:Heap} {A:Ad} (T:Txt P K mg A):FnJ P w K mg base 2 A.f__law_tree (sp__law_tree A):=
 FnJ.mkAt T.d__law_tree sc__law_tree (fun cdv R outer s H E hr tk=>bd__law_tree T cdv R outer s H E hr tk) (rd__law_tree A)
end DL.K05
set_option maxHeartbeats 1000000
namespace DL.K05
open PySem PySem.Spec PyProof.Rows L2 GenW RZ
def xPile (A:Ad):Exn:= .own A.c_InvalidPile ["tag"] [.str "InvalidPile"]
def xTree (A:Ad):Exn:= .own A.c_InvalidTree ["tag"] [.str "InvalidTree"]
def sp_Shape_need_pile (A:Ad):SpD:=fun ds M Q Xc=>∃fs ss v,ds= [shp A fs ss,v]∧fs.length < 3000∧Nc v 50∧((isPile fs.length ss v=true∧Q .non M)∨(isPile fs.length ss v=false∧Xc (xPile A) M))
def wb_Shape_need_pile (A:Ad):WS:=
 (wIf (wNotT (wTest (wMeth A.c_Shape ns_Shape (sp_Shape_is_pile A) (wVar 0) (wCons (wVar 1) wNil))))
 (wRaise A.c_InvalidPile [] "InvalidPile" wNil)
 wNx)
theorem bd_Shape_need_pile {P:Program} {w:World} {K:PySem.W.Frag} {mg:Str→Option Value} {base:Heap} {A:Ad} (T:Txt P K mg A) (cdv:Value) (R:Around) (outer:List Env) (s:Shared) (H:Hp) (E:XK) (hr:Room 4 (R.deeper (envOfC "Shape.need_pile" (defScope s_Shape_need_pile) s.heap.objs.size A.f_Shape_need_pile cdv)))
  (tk:Takes (cxOf (L2.CX P w) P w K mg base N_Shape_need_pile "Shape.need_pile" (defScope s_Shape_need_pile) A.f_Shape_need_pile cdv R outer s H E) (WD E)):JSs (cxOf (L2.CX P w) P w K mg base N_Shape_need_pile "Shape.need_pile" (defScope s_Shape_need_pile) A.f_Shape_need_pile cdv R outer s H E) (WD E) (defBody s_Shape_need_pile) (wb_Shape_need_pile A):=
 (js_one (js_if (jt_not (jt_val (j_meth (C:=A.c_Shape) (ns:=ns_Shape) (jv 0) T.cl_Shape T.m_Shape_is_pile (by decide +kernel) (ok_Shape_is_pile T) hr (by decide) tk (j_cons (jv 1) j_nil))))
 (js_one (js_raise0 rfl (xj_InvalidPile T) hr (by decide) tk T.g_InvalidPile))
 js_nil))
theorem rd_Shape_need_pile (A:Ad):∀ds M Q Xc,sp_Shape_need_pile A ds M Q Xc→ds.length=P_Shape_need_pile.length∧RD (wb_Shape_need_pile A) Q Xc (startD N_Shape_need_pile ds) M:=by
 rintro _ M Q Xc ⟨fs,ss,v,rfl,hl,hn,h⟩
 refine ⟨rfl,?_⟩
 rw [st_Shape_need_pile]
 simp only [RD,wb_Shape_need_pile,↓pGen,↓pGenM,↓pGenMK,↓pForN,↓pLcN,↓piZipN,↓pDclr,↓pLcUO,↓pSrtSetO,↓pLstV,↓lvK_dct,↓pMakeD,↓rLenO_p,↓pOrX,↓rIsM_p,↓rMinL_p,↓rMax_p,↓rOr2_p,↓rOrs_p,↓pMakeKD,↓pDcU,↓zR,↓reduceIte,zV,wipeD,shp]
 refine ⟨fs,ss,v,rfl,hl,hn,?_⟩
 rcases h with ⟨hr,q⟩ | ⟨hr,q⟩
 ·rw [hr]
  simp only [↓pGen,↓pGenM,↓pGenMK,↓pForN,↓pLcN,↓piZipN,↓pDclr,↓pLcUO,↓pSrtSetO,↓pLstV,↓lvK_dct,↓pMakeD,↓rLenO_p,↓pOrX,↓rIsM_p,↓rMinL_p,↓rMax_p,↓rOr2_p,↓rOrs_p,↓pMakeKD,↓pDcU,↓zR,↓reduceIte,zV,wipeD]
  exact fin_of q
 ·rw [hr]
  simp only [↓pGen,↓pGenM,↓pGenMK,↓pForN,↓pLcN,↓piZipN,↓pDclr,↓pLcUO,↓pSrtSetO,↓pLstV,↓lvK_dct,↓pMakeD,↓rLenO_p,↓pOrX,↓rIsM_p,↓rMinL_p,↓rMax_p,↓rOr2_p,↓rOrs_p,↓pMakeKD,↓pDcU,↓zR,↓reduceIte,zV,wipeD]
  exact q
theorem ok_Shape_need_pile {P:Program} {w:World} {K:PySem.W.Frag} {mg:Str→Option Value} {base:Heap} {A:Ad} (T:Txt P K mg A):FnJ P w K mg base 5 A.f_Shape_need_pile (sp_Shape_need_pile A):=
 FnJ.mkAt T.d_Shape_need_pile sc_Shape_need_pile (fun cdv R outer s H E hr tk=>bd_Shape_need_pile T cdv R outer s H E hr tk) (rd_Shape_need_pile A)
def sp_Shape_need_tree (A:Ad):SpD:=fun ds M Q Xc=>∃fs ss d,ds= [shp A fs ss,d]∧fs.length < 3000∧Nc d 49∧(leavesD d).length < 3000∧((isTree fs.length ss d=true∧Q .non M)∨(isTree fs.length ss d=false∧Xc (xTree A) M))
def wb_Shape_need_tree (A:Ad):WS:=
 (wIf (wNotT (wTest (wMeth A.c_Shape ns_Shape (sp_Shape_is_tree A) (wVar 0) (wCons (wVar 1) wNil))))
 (wRaise A.c_InvalidTree [] "InvalidTree" wNil)
 wNx)
theorem bd_Shape_need_tree {P:Program} {w:World} {K:PySem.W.Frag} {mg:Str→Option Value} {base:Heap} {A:Ad} (T:Txt P K mg A) (cdv:Value) (R:Around) (outer:List Env) (s:Shared) (H:Hp) (E:XK) (hr:Room 5 (R.deeper (envOfC "Shape.need_tree" (defScope s_Shape_need_tree) s.heap.objs.size A.f_Shape_need_tree cdv)))
  (tk:Takes (cxOf (L2.CX P w) P w K mg base N_Shape_need_tree "Shape.need_tree" (defScope s_Shape_need_tree) A.f_Shape_need_tree cdv R outer s H E) (WD E)):JSs (cxOf (L2.CX P w) P w K mg base N_Shape_need_tree "Shape.need_tree" (defScope s_Shape_need_tree) A.f_Shape_need_tree cdv R outer s H E) (WD E) (defBody s_Shape_need_tree) (wb_Shape_need_tree A):=
 (js_one (js_if (jt_not (jt_val (j_meth (C:=A.c_Shape) (ns:=ns_Shape) (jv 0) T.cl_Shape T.m_Shape_is_tree (by decide +kernel) (ok_Shape_is_tree T) hr (by decide) tk (j_cons (jv 1) j_nil))))
 (js_one (js_raise0 rfl (xj_InvalidTree T) hr (by decide) tk T.g_InvalidTree))
 js_nil))
theorem rd_Shape_need_tree (A:Ad):∀ds M Q Xc,sp_Shape_need_tree A ds M Q Xc→ds.length=P_Shape_need_tree.length∧RD (wb_Shape_need_tree A) Q Xc (startD N_Shape_need_tree ds) M:=by
 rintro _ M Q Xc ⟨fs,ss,d,rfl,hl,hn,hz,h⟩
 refine ⟨rfl,?_⟩
 rw [st_Shape_need_tree]
 simp only [RD,wb_Shape_need_tree,↓pGen,↓pGenM,↓pGenMK,↓pForN,↓pLcN,↓piZipN,↓pDclr,↓pLcUO,↓pSrtSetO,↓pLstV,↓lvK_dct,↓pMakeD,↓rLenO_p,↓pOrX,↓rIsM_p,↓rMinL_p,↓rMax_p,↓rOr2_p,↓rOrs_p,↓pMakeKD,↓pDcU,↓zR,↓reduceIte,zV,wipeD,shp]
 refine ⟨fs,ss,d,rfl,hl,hn,hz,?_⟩
 rcases h with ⟨hr,q⟩ | ⟨hr,q⟩
 ·simp only [hr,↓pGen,↓pGenM,↓pGenMK,↓pForN,↓pLcN,↓piZipN,↓pDclr,↓pLcUO,↓pSrtSetO,↓pLstV,↓lvK_dct,↓pMakeD,↓rLenO_p,↓pOrX,↓rIsM_p,↓rMinL_p,↓rMax_p,↓rOr2_p,↓rOrs_p,↓pMakeKD,↓pDcU,↓zR,↓reduceIte,zV,wipeD]
  exact fin_of q
 ·simp only [hr,↓pGen,↓pGenM,↓pGenMK,↓pForN,↓pLcN,↓piZipN,↓pDclr,↓pLcUO,↓pSrtSetO,↓pLstV,↓lvK_dct,↓pMakeD,↓rLenO_p,↓pOrX,↓rIsM_p,↓rMinL_p,↓rMax_p,↓rOr2_p,↓rOrs_p,↓pMakeKD,↓pDcU,↓zR,↓reduceIte,zV,wipeD]
  exact q
theorem ok_Shape_need_tree {P:Program} {w:World} {K:PySem.W.Frag} {mg:Str→Option Value} {base:Heap} {A:Ad} (T:Txt P K mg A):FnJ P w K mg base 6 A.f_Shape_need_tree (sp_Shape_need_tree A):=
 FnJ.mkAt T.d_Shape_need_tree sc_Shape_need_tree (fun cdv R outer s H E hr tk=>bd_Shape_need_tree T cdv R outer s H E hr tk) (rd_Shape_need_tree A)
def gsp_Shape_rows_in (A:Ad):SpGD:=fun ds ys fin=>∃fs ss d,ds= [shp A fs ss,d]∧fs.length < 3000∧Nc d 49∧(leavesD d).length < 3000∧((isTree fs.length ss d=true∧ys=leavesD d∧fin=none)∨(isTree fs.length ss d=false∧ys= []∧fin=some (xTree A)))
def wp_Shape_rows_in (A:Ad):WS:=
 (wDrop (wMeth A.c_Shape ns_Shape (sp_Shape_need_tree A) (wVar 0) (wCons (wVar 1) wNil)))
def wy_Shape_rows_in (A:Ad):WE:=
 (wCall (sp_leaves A) (wCons (wVar 1) wNil))
theorem bd_Shape_rows_in {P:Program} {w:World} {K:PySem.W.Frag} {mg:Str→Option Value} {base:Heap} {A:Ad} (T:Txt P K mg A) (cd:Value) (R:Around) (outer:List Env) (L:Addr) (s:Shared) (H:Hp) (E:XK) (pn:List (Addr×Obj)) (hr:Room 6 (R.deeper (envOfC "Shape.rows_in" (defScope s_Shape_rows_in) L A.f_Shape_rows_in cd))) (tk:L2.Takes (gtx P w K mg base N_Shape_rows_in "Shape.rows_in" (defScope s_Shape_rows_in) A.f_Shape_rows_in cd R outer L s H E pn) (WD E)):
  JSs (gtx P w K mg base N_Shape_rows_in "Shape.rows_in" (defScope s_Shape_rows_in) A.f_Shape_rows_in cd R outer L s H E pn) (WD E) (fPre s_Shape_rows_in) (wp_Shape_rows_in A)∧JE (gtx P w K mg base N_Shape_rows_in "Shape.rows_in" (defScope s_Shape_rows_in) A.f_Shape_rows_in cd R outer L s H E pn) (WD E) (fYe s_Shape_rows_in) (wy_Shape_rows_in A):=
 ⟨(js_one (js_expr (j_meth (C:=A.c_Shape) (ns:=ns_Shape) (jv 0) T.cl_Shape T.m_Shape_need_tree (by decide +kernel) (ok_Shape_need_tree T) hr (by decide) tk (j_cons (jv 1) j_nil)))),
 (j_call (ok_leaves T) hr (by decide) T.g_leaves tk (j_cons (jv 1) j_nil))⟩
theorem gns_Shape_rows_in {P:Program} {K:PySem.W.Frag} {mg:Str→Option Value} {A:Ad} (T:Txt P K mg A):∀ds ys fin,gsp_Shape_rows_in A ds ys fin→NsX K fin:=by
 rintro ds ys fin ⟨fs,ss,d,rfl,_,_,_,⟨_,_,rfl⟩ | ⟨_,_,rfl⟩⟩ x e
 ·cases e
 ·cases e
  exact ⟨_,_,_,rfl,T.no_InvalidTree⟩
theorem rd_Shape_rows_in (A:Ad):∀ds ys fin,gsp_Shape_rows_in A ds ys fin→ds.length=P_Shape_rows_in.length∧wp_Shape_rows_in A {nx:=fun ds3 M3=>wy_Shape_rows_in A ds3 M3 (fun y M4=>fin=none∧y= .lst ys∧M4=m0) (fun x M4=>fin=some x∧ys= []∧M4=m0),rt:=fun _ _=>False,ex:=fun x _ M4=>fin=some x∧ys= []∧M4=m0} (startD N_Shape_rows_in ds) m0:=by
 rintro ds ys fin ⟨fs,ss,d,rfl,hl,hn,hz,h⟩
 refine ⟨rfl,?_⟩
 rw [st_Shape_rows_in]
 simp only [wp_Shape_rows_in,wy_Shape_rows_in,↓pGen,↓pGenM,↓pGenMK,↓pForN,↓pLcN,↓piZipN,↓pDclr,↓pLcUO,↓pSrtSetO,↓pLstV,↓lvK_dct,↓pMakeD,↓rLenO_p,↓pOrX,↓rIsM_p,↓rMinL_p,↓rMax_p,↓rOr2_p,↓rOrs_p,↓pMakeKD,↓pDcU,↓zR,↓reduceIte,zV,wipeD,shp]
 refine ⟨fs,ss,d,rfl,hl,hn,hz,?_⟩
 rcases h with ⟨hr,rfl,rfl⟩ | ⟨hr,rfl,rfl⟩
 ·refine .inl ⟨hr,d,rfl,Nc.mono _ _ _ (by decide) hn,hz,rfl,rfl,rfl⟩
 ·exact .inr ⟨hr,rfl,rfl,rfl⟩
theorem ok_Shape_rows_in {P:Program} {w:World} {K:PySem.W.Frag} {mg:Str→Option Value} {base:Heap} {A:Ad} (T:Txt P K mg A):GnF P w K mg base 7 A.f_Shape_rows_in (gsp_Shape_rows_in A):=
 GnF.mkFrom (pre:=fPre s_Shape_rows_in) (e:=fYe s_Shape_rows_in) T.d_Shape_rows_in sc_Shape_rows_in (fun _=>rfl) rfl (fun _ _=>rfl) (fun _ _=>rfl) (fun cd R outer L s H E pn hr tk=>bd_Shape_rows_in T cd R outer L s H E pn hr tk) (gns_Shape_rows_in T) (rd_Shape_rows_in A)
theorem okk_Shape_rows_in_tree {P:Program} {w:World} {K:PySem.W.Frag} {mg:Str→Option Value} {base:Heap} {A:Ad} (T:Txt P K mg A):GnFK P w K mg base 7 A.f_Shape_rows_in (gsp_Shape_rows_in A) ["tree"] 1 1 [0,1]:=
 GnFK.mkFrom (pre:=fPre s_Shape_rows_in) (e:=fYe s_Shape_rows_in) T.d_Shape_rows_in sc_Shape_rows_in (by decide) (fun kV doc pm an cdv ct us ws h1 h2=>match us,ws,h1,h2 with | [_], [_],_,_=>rfl) (fun _=>rfl) rfl (fun _ _=>rfl) (fun _ _=>rfl) (fun cd R outer L s H E pn hr tk=>bd_Shape_rows_in T cd R outer L s H E pn hr tk) (gns_Shape_rows_in T) (rd_Shape_rows_in A)
def turnD:D→D
 | .tup [a,b]=> .tup [turnD b,turnD a]
 | d=>d
inductive TreeN:Nat→D→Prop
 | leaf {n:Nat} {x y z:D}:TreeN (n + 1) (.tup [x,y,z])
 | node {n:Nat} {a b:D}:TreeN n a→TreeN n b→TreeN (n + 1) (.tup [a,b])
theorem turnD_leaf {x y z:D}:turnD (.tup [x,y,z])= .tup [x,y,z]:=by unfold turnD;rfl
theorem turnD_node {a b:D}:turnD (.tup [a,b])= .tup [turnD b,turnD a]:=by rw [turnD]
def sp_turned_pair (A:Ad):Nat→SpD
 | 0=>fun _ _ _ _=>False
 | n + 1=>fun ds M Q _=>∃t,ds= [t]∧TreeN (n + 1) t∧Q (turnD t) M
def wb_turned_pair (A:Ad) (n:Nat):WS:=
 (wRet (wIfE (wTest (wOp (rEqD false) (wCB rLenD (wCons (wVar 0) wNil)) (wC (.int 2)))) (wTup (wCons (wCall (sp_turned_pair A n) (wCons (wOp rIxD (wVar 0) (wC (.int 1))) wNil)) (wCons (wCall (sp_turned_pair A n) (wCons (wOp rIxD (wVar 0) (wC (.int 0))) wNil)) wNil))) (wVar 0)))
theorem bd_turned_pair {P:Program} {w:World} {K:PySem.W.Frag} {mg:Str→Option Value} {base:Heap} {A:Ad} (T:Txt P K mg A) (n:Nat) (ih:FnJ P w K mg base (1 + n) A.f_turned_pair (sp_turned_pair A n)) (cdv:Value) (R:Around) (outer:List Env) (s:Shared) (H:Hp) (E:XK) (hr:Room (1 + n) (R.deeper (envOfC "turned_pair" (defScope s_turned_pair) s.heap.objs.size A.f_turned_pair cdv)))
  (tk:Takes (cxOf (L2.CX P w) P w K mg base N_turned_pair "turned_pair" (defScope s_turned_pair) A.f_turned_pair cdv R outer s H E) (WD E)):JSs (cxOf (L2.CX P w) P w K mg base N_turned_pair "turned_pair" (defScope s_turned_pair) A.f_turned_pair cdv R outer s H E) (WD E) (defBody s_turned_pair) (wb_turned_pair A n):=
 (js_one (js_ret (j_if (jt_cmp (od_eq hr.units) (j_callB cd_len T.n_len bo_len (j_cons (jv 0) j_nil)) j_int) (j_tup (j_cons (j_call ih hr (Nat.le_refl _) T.g_turned_pair tk (j_cons (j_ix id_ix (jv 0) j_int) j_nil)) (j_cons (j_call ih hr (Nat.le_refl _) T.g_turned_pair tk (j_cons (j_ix id_ix (jv 0) j_int) j_nil)) j_nil))) (jv 0))))
theorem rd_turned_pair (A:Ad) (n:Nat):∀ds M Q Xc,sp_turned_pair A (n + 1) ds M Q Xc→ds.length=P_turned_pair.length∧RD (wb_turned_pair A n) Q Xc (startD N_turned_pair ds) M:=by
 rintro _ M Q Xc ⟨t,rfl,h,q⟩
 refine ⟨rfl,?_⟩
 rw [st_turned_pair]
 have big:=sizeLine_big
 cases h with
 | leaf=>
  rw [turnD_leaf] at q
  simp only [RD,wb_turned_pair,↓pGen,↓pGenM,↓pGenMK,↓pForN,↓pLcN,↓piZipN,↓pDclr,↓pLcUO,↓pSrtSetO,↓pLstV,↓lvK_dct,↓pMakeD,↓rLenO_p,↓pOrX,↓rIsM_p,↓rMinL_p,↓rMax_p,↓rOr2_p,↓rOrs_p,↓pMakeKD,↓pDcU,↓zR,↓reduceIte,zV,wipeD]
  exact fin_of q
 | node ha hb=>
  rw [turnD_node] at q
  cases n with
  | zero=>cases ha
  | succ n=>
   simp only [RD,wb_turned_pair,↓pGen,↓pGenM,↓pGenMK,↓pForN,↓pLcN,↓piZipN,↓pDclr,↓pLcUO,↓pSrtSetO,↓pLstV,↓lvK_dct,↓pMakeD,↓rLenO_p,↓pOrX,↓rIsM_p,↓rMinL_p,↓rMax_p,↓rOr2_p,↓rOrs_p,↓pMakeKD,↓pDcU,↓zR,↓reduceIte,zV,wipeD]
   refine ⟨_,rfl,hb,?_⟩
   simp only [↓pGen,↓pGenM,↓pGenMK,↓pForN,↓pLcN,↓piZipN,↓pDclr,↓pLcUO,↓pSrtSetO,↓pLstV,↓lvK_dct,↓pMakeD,↓rLenO_p,↓pOrX,↓rIsM_p,↓rMinL_p,↓rMax_p,↓rOr2_p,↓rOrs_p,↓pMakeKD,↓pDcU,↓zR,↓reduceIte,zV,wipeD]
   refine ⟨_,rfl,ha,?_⟩
   exact ⟨by omega,fin_of q⟩
theorem ok_turned_pair {P:Program} {w:World} {K:PySem.W.Frag} {mg:Str→Option Value} {base:Heap} {A:Ad} (T:Txt P K mg A):∀n,FnJ P w K mg base (1 + n) A.f_turned_pair (sp_turned_pair A n)
 | 0=>FnJ.mkAt (k:=0) (wb:=wNever) T.d_turned_pair sc_turned_pair (fun cdv R outer s H E hr tk=>jss_never) (fun _ _ _ _ h=>h.elim)
 | n + 1=>FnJ.mkAt (k:=1 + n) T.d_turned_pair sc_turned_pair (fun cdv R outer s H E hr tk=>bd_turned_pair T n (ok_turned_pair T n) cdv R outer s H E hr tk) (rd_turned_pair A n)
theorem tree_n {n:Nat} {ss:List Str}:∀(k:Nat) {t:D} {L:List D},(∀r∈L,∃m,RowAt n ss m r)→(∀r∈leavesD t,r∈L)→Nc t k→TreeN k t
 | 0,t,L,hr,hm,hn=>by
  by_cases hp:isPair t=true
  ·cases t <;> try exact absurd hp Bool.false_ne_true
   exact absurd hn.1.1 (Nat.lt_irrefl _)
  ·rw [leaves_one (by simpa using hp)] at hm
   obtain ⟨m,h⟩:=hr _ (hm t List.mem_cons_self)
   obtain ⟨x,y,z,rfl⟩:∃x y z,t= .tup [x,y,z]:=by
    have:=h.is
    unfold isRow at this
    split at this
    ·exact ⟨_,_,_,rfl⟩
    ·cases this
   exact absurd hn.1.1 (Nat.lt_irrefl _)
 | k + 1,t,L,hr,hm,hn=>by
  by_cases hp:isPair t=true
  ·obtain ⟨a,b,rfl⟩:∃a b,t= .tup [a,b]:=by
    unfold isPair at hp
    split at hp
    ·exact ⟨_,_,rfl⟩
    ·cases hp
   have e:leavesD (.tup [a,b])=leavesD a ++ leavesD b:=by simp [leavesD]
   rw [e] at hm
   exact .node (tree_n k hr (fun r h=>hm r (List.mem_append_left _ h)) hn.2.1) (tree_n k hr (fun r h=>hm r (List.mem_append_right _ h)) hn.2.2.1)
  ·rw [leaves_one (by simpa using hp)] at hm
   obtain ⟨m,h⟩:=hr _ (hm t List.mem_cons_self)
   obtain ⟨x,y,z,rfl⟩:∃x y z,t= .tup [x,y,z]:=by
    have:=h.is
    unfold isRow at this
    split at this
    ·exact ⟨_,_,_,rfl⟩
    ·cases this
   exact .leaf
theorem TreeN.up:∀{n m:Nat} {t:D},TreeN n t→n≤m→TreeN m t
 | _,0,_, .leaf,h=>absurd h (by omega)
 | _,m + 1,_, .leaf,h=> .leaf
 | _,0,_, .node _ _,h=>absurd h (by omega)
 | _,m + 1,_, .node a b,h=> .node (a.up (by omega)) (b.up (by omega))
def sp_Shape_turned (A:Ad):SpD:=fun ds M Q Xc=>∃fs ss d,ds= [shp A fs ss,d]∧fs.length < 3000∧Nc d 49∧(leavesD d).length < 3000∧((isTree fs.length ss d=true∧TreeN 44 d∧Q (turnD d) M)∨(isTree fs.length ss d=false∧Xc (xTree A) M))
def wb_Shape_turned (A:Ad):WS:=
 (wSeq (wDrop (wMeth A.c_Shape ns_Shape (sp_Shape_need_tree A) (wVar 0) (wCons (wVar 1) wNil)))
 (wRet (wCall (sp_turned_pair A 44) (wCons (wVar 1) wNil))))
theorem bd_Shape_turned {P:Program} {w:World} {K:PySem.W.Frag} {mg:Str→Option Value} {base:Heap} {A:Ad} (T:Txt P K mg A) (cdv:Value) (R:Around) (outer:List Env) (s:Shared) (H:Hp) (E:XK) (hr:Room 49 (R.deeper (envOfC "Shape.turned" (defScope s_Shape_turned) s.heap.objs.size A.f_Shape_turned cdv)))
  (tk:Takes (cxOf (L2.CX P w) P w K mg base N_Shape_turned "Shape.turned" (defScope s_Shape_turned) A.f_Shape_turned cdv R outer s H E) (WD E)):JSs (cxOf (L2.CX P w) P w K mg base N_Shape_turned "Shape.turned" (defScope s_Shape_turned) A.f_Shape_turned cdv R outer s H E) (WD E) (defBody s_Shape_turned) (wb_Shape_turned A):=
 (js_cons (js_expr (j_meth (C:=A.c_Shape) (ns:=ns_Shape) (jv 0) T.cl_Shape T.m_Shape_need_tree (by decide +kernel) (ok_Shape_need_tree T) hr (by decide) tk (j_cons (jv 1) j_nil)))
 (js_one (js_ret (j_call (ok_turned_pair T 44) hr (by decide) T.g_turned_pair tk (j_cons (jv 1) j_nil)))))
theorem rd_Shape_turned (A:Ad):∀ds M Q Xc,sp_Shape_turned A ds M Q Xc→ds.length=P_Shape_turned.length∧RD (wb_Shape_turned A) Q Xc (startD N_Shape_turned ds) M:=by
 rintro _ M Q Xc ⟨fs,ss,d,rfl,hl,hn,hz,h⟩
 refine ⟨rfl,?_⟩
 rw [st_Shape_turned]
 simp only [RD,wb_Shape_turned,↓pGen,↓pGenM,↓pGenMK,↓pForN,↓pLcN,↓piZipN,↓pDclr,↓pLcUO,↓pSrtSetO,↓pLstV,↓lvK_dct,↓pMakeD,↓rLenO_p,↓pOrX,↓rIsM_p,↓rMinL_p,↓rMax_p,↓rOr2_p,↓rOrs_p,↓pMakeKD,↓pDcU,↓zR,↓reduceIte,zV,wipeD,shp]
 refine ⟨fs,ss,d,rfl,hl,hn,hz,?_⟩
 rcases h with ⟨hr,ht,q⟩ | ⟨hr,q⟩
 ·refine .inl ⟨hr,?_⟩
  simp only [↓pGen,↓pGenM,↓pGenMK,↓pForN,↓pLcN,↓piZipN,↓pDclr,↓pLcUO,↓pSrtSetO,↓pLstV,↓lvK_dct,↓pMakeD,↓rLenO_p,↓pOrX,↓rIsM_p,↓rMinL_p,↓rMax_p,↓rOr2_p,↓rOrs_p,↓pMakeKD,↓pDcU,↓zR,↓reduceIte,zV,wipeD]
  exact ⟨d,rfl,ht,fin_of q⟩
 ·refine .inr ⟨hr,?_⟩
  simp only [ED.xc,seqE_ex]
  exact q
theorem ok_Shape_turned {P:Program} {w:World} {K:PySem.W.Frag} {mg:Str→Option Value} {base:Heap} {A:Ad} (T:Txt P K mg A):FnJ P w K mg base 50 A.f_Shape_turned (sp_Shape_turned A):=
 FnJ.mkAt T.d_Shape_turned sc_Shape_turned (fun cdv R outer s H E hr tk=>bd_Shape_turned T cdv R outer s H E hr tk) (rd_Shape_turned A)
end DL.K05
set_option maxHeartbeats 1000000
namespace DL.K05
open PySem PySem.Spec PyProof.Rows L2 GenW RZ
def chainL (x:D) (xs:List D):D:=xs.foldl (fun t r=> .tup [t,r]) x
theorem chain_snoc {x y:D} {xs:List D}:chainL x (xs ++ [y])= .tup [chainL x xs,y]:=by
 unfold chainL
 rw [List.foldl_append]
 rfl
def sp_Shape_chain (A:Ad):SpD:=fun ds M Q Xc=>∃fs ss v,ds= [shp A fs ss,v]∧fs.length < 3000∧Nc v 50∧((∃x xs,(v= .lst (x :: xs)∨v= .tup (x :: xs))∧isPile fs.length ss v=true∧xs.length≤100∧Q (chainL x xs) M)∨(isPile fs.length ss v=false∧Xc (xPile A) M))
def wb_Shape_chain (A:Ad):WS:=
 (wSeq (wDrop (wMeth A.c_Shape ns_Shape (sp_Shape_need_pile A) (wVar 0) (wCons (wVar 1) wNil)))
 (wSeq (wAsg (wOp rIxD (wVar 1) (wC (.int 0))) (gN 2))
 (wSeq (wFor (wiSeq (wSl (wVar 1) (wSome (wC (.int 1))) wNo)) (gN 3)
 (wAsg (wTup (wCons (wVar 2) (wCons (wVar 3) wNil))) (gN 2)))
 (wRet (wVar 2)))))
theorem bd_Shape_chain {P:Program} {w:World} {K:PySem.W.Frag} {mg:Str→Option Value} {base:Heap} {A:Ad} (T:Txt P K mg A) (cdv:Value) (R:Around) (outer:List Env) (s:Shared) (H:Hp) (E:XK) (hr:Room 5 (R.deeper (envOfC "Shape.chain" (defScope s_Shape_chain) s.heap.objs.size A.f_Shape_chain cdv)))
  (tk:Takes (cxOf (L2.CX P w) P w K mg base N_Shape_chain "Shape.chain" (defScope s_Shape_chain) A.f_Shape_chain cdv R outer s H E) (WD E)):JSs (cxOf (L2.CX P w) P w K mg base N_Shape_chain "Shape.chain" (defScope s_Shape_chain) A.f_Shape_chain cdv R outer s H E) (WD E) (defBody s_Shape_chain) (wb_Shape_chain A):=
 (js_cons (js_expr (j_meth (C:=A.c_Shape) (ns:=ns_Shape) (jv 0) T.cl_Shape T.m_Shape_need_pile (by decide +kernel) (ok_Shape_need_pile T) hr (by decide) tk (j_cons (jv 1) j_nil)))
 (js_cons (js_set (i:=2) sc_Shape_chain.nd (j_ix id_ix (jv 1) j_int))
 (js_cons (js_for (passes_of rfl) rfl (ji_seq (j_sl (jv 1) (jo_some j_int) jo_none)) (jg_name (i:=3) sc_Shape_chain.nd)
 (js_one (js_set (i:=2) sc_Shape_chain.nd (j_tup (j_cons (jv 2) (j_cons (jv 3) j_nil))))))
 (js_one (js_ret (jv 2))))))
theorem chain_loop {x:D} {g:GD} {wb:WS} {E:ED}:∀(xs ys:List D) {M:Mem} {v0 v1:Option D} {o:Option D} (_:∀o,E.nx [v0,v1,some (chainL x (ys ++ xs)),o] M),
  forR (gN 3) (wAsg (wTup (wCons (wVar 2) (wCons (wVar 3) wNil))) (gN 2)) E xs [v0,v1,some (chainL x ys),o] M
 | [],ys,M,v0,v1,o,q=>by
  rw [List.append_nil] at q
  exact q o
 | z :: zs,ys,M,v0,v1,o,q=>by
  have big:=sizeLine_big
  simp only [forR,↓pGen,↓pGenM,↓pGenMK,↓pForN,↓pLcN,↓piZipN,↓pDclr,↓pLcUO,↓pSrtSetO,↓pLstV,↓lvK_dct,↓pMakeD,↓rLenO_p,↓pOrX,↓rIsM_p,↓rMinL_p,↓rMax_p,↓rOr2_p,↓rOrs_p,↓pMakeKD,↓pDcU,↓zR,↓reduceIte,zV,wipeD]
  refine ⟨by omega,?_⟩
  rw [← chain_snoc]
  exact chain_loop (g:=g) (wb:=wb) zs (ys ++ [z]) fun o=>by rw [List.append_assoc];exact q o
theorem rd_Shape_chain (A:Ad):∀ds M Q Xc,sp_Shape_chain A ds M Q Xc→ds.length=P_Shape_chain.length∧RD (wb_Shape_chain A) Q Xc (startD N_Shape_chain ds) M:=by
 rintro _ M Q Xc ⟨fs,ss,v,rfl,hl,hn,h⟩
 refine ⟨rfl,?_⟩
 rw [st_Shape_chain]
 have big:=sizeLine_big
 simp only [RD,wb_Shape_chain,↓pGen,↓pGenM,↓pGenMK,↓pForN,↓pLcN,↓piZipN,↓pDclr,↓pLcUO,↓pSrtSetO,↓pLstV,↓lvK_dct,↓pMakeD,↓rLenO_p,↓pOrX,↓rIsM_p,↓rMinL_p,↓rMax_p,↓rOr2_p,↓rOrs_p,↓pMakeKD,↓pDcU,↓zR,↓reduceIte,zV,wipeD,shp]
 refine ⟨fs,ss,v,rfl,hl,hn,?_⟩
 rcases h with ⟨x,xs,hv,hr,hx,q⟩ | ⟨hr,q⟩
 ·refine .inl ⟨hr,?_⟩
  rcases hv with rfl | rfl
  all_goals
   simp only [↓pGen,↓pGenM,↓pGenMK,↓pForN,↓pLcN,↓piZipN,↓pDclr,↓pLcUO,↓pSrtSetO,↓pLstV,↓lvK_dct,↓pMakeD,↓rLenO_p,↓pOrX,↓rIsM_p,↓rMinL_p,↓rMax_p,↓rOr2_p,↓rOrs_p,↓pMakeKD,↓pDcU,↓zR,↓reduceIte,zV,wipeD]
   refine chain_loop (x:=x) (g:=gN 3) (wb:=wNever) xs [] fun o=>?_
   rw [List.nil_append]
   simp only [seqE_nx,↓pGen,↓pGenM,↓pGenMK,↓pForN,↓pLcN,↓piZipN,↓pDclr,↓pLcUO,↓pSrtSetO,↓pLstV,↓lvK_dct,↓pMakeD,↓rLenO_p,↓pOrX,↓rIsM_p,↓rMinL_p,↓rMax_p,↓rOr2_p,↓rOrs_p,↓pMakeKD,↓pDcU,↓zR,↓reduceIte,zV,wipeD]
   exact fin_of q
 ·refine .inr ⟨hr,?_⟩
  simp only [ED.xc,seqE_ex]
  exact q
theorem ok_Shape_chain {P:Program} {w:World} {K:PySem.W.Frag} {mg:Str→Option Value} {base:Heap} {A:Ad} (T:Txt P K mg A):FnJ P w K mg base 6 A.f_Shape_chain (sp_Shape_chain A):=
 FnJ.mkAt T.d_Shape_chain sc_Shape_chain (fun cdv R outer s H E hr tk=>bd_Shape_chain T cdv R outer s H E hr tk) (rd_Shape_chain A)
def sp__law_turned (A:Ad):Nat→SpD
 | 0=>fun _ _ _ _=>False
 | n + 1=>fun ds M Q _=>∃t,ds= [t]∧TreeN (n + 1) t∧Q (turnD t) M
def wb__law_turned (A:Ad) (n:Nat):WS:=
 (wRet (wIfE (wTest (wOp (rEqD false) (wCB rLenD (wCons (wVar 0) wNil)) (wC (.int 3)))) (wVar 0) (wTup (wCons (wCall (sp__law_turned A n) (wCons (wOp rIxD (wVar 0) (wC (.int 1))) wNil)) (wCons (wCall (sp__law_turned A n) (wCons (wOp rIxD (wVar 0) (wC (.int 0))) wNil)) wNil)))))
theorem bd__law_turned {P:Program} {w:World} {K:PySem.W.Frag} {mg:Str→Option Value} {base:Heap} {A:Ad} (T:Txt P K mg A) (n:Nat) (ih:FnJ P w K mg base (1 + n) A.f__law_turned (sp__law_turned A n)) (cdv:Value) (R:Around) (outer:List Env) (s:Shared) (H:Hp) (E:XK) (hr:Room (1 + n) (R.deeper (envOfC "_law_turned" (defScope s__law_turned) s.heap.objs.size A.f__law_turned cdv)))
  (tk:Takes (cxOf (L2.CX P w) P w K mg base N__law_turned "_law_turned" (defScope s__law_turned) A.f__law_turned cdv R outer s H E) (WD E)):JSs (cxOf (L2.CX P w) P w K mg base N__law_turned "_law_turned" (defScope s__law_turned) A.f__law_turned cdv R outer s H E) (WD E) (defBody s__law_turned) (wb__law_turned A n):=
 (js_one (js_ret (j_if (jt_cmp (od_eq hr.units) (j_callB cd_len T.n_len bo_len (j_cons (jv 0) j_nil)) j_int) (jv 0) (j_tup (j_cons (j_call ih hr (Nat.le_refl _) T.g__law_turned tk (j_cons (j_ix id_ix (jv 0) j_int) j_nil)) (j_cons (j_call ih hr (Nat.le_refl _) T.g__law_turned tk (j_cons (j_ix id_ix (jv 0) j_int) j_nil)) j_nil))))))
theorem rd__law_turned (A:Ad) (n:Nat):∀ds M Q Xc,sp__law_turned A (n + 1) ds M Q Xc→ds.length=P__law_turned.length∧RD (wb__law_turned A n) Q Xc (startD N__law_turned ds) M:=by
 rintro _ M Q Xc ⟨t,rfl,h,q⟩
 refine ⟨rfl,?_⟩
 rw [st__law_turned]
 have big:=sizeLine_big
 cases h with
 | leaf=>
  rw [turnD_leaf] at q
  simp only [RD,wb__law_turned,↓pGen,↓pGenM,↓pGenMK,↓pForN,↓pLcN,↓piZipN,↓pDclr,↓pLcUO,↓pSrtSetO,↓pLstV,↓lvK_dct,↓pMakeD,↓rLenO_p,↓pOrX,↓rIsM_p,↓rMinL_p,↓rMax_p,↓rOr2_p,↓rOrs_p,↓pMakeKD,↓pDcU,↓zR,↓reduceIte,zV,wipeD]
  exact fin_of q
 | node ha hb=>
  rw [turnD_node] at q
  cases n with
  | zero=>cases ha
  | succ n=>
   simp only [RD,wb__law_turned,↓pGen,↓pGenM,↓pGenMK,↓pForN,↓pLcN,↓piZipN,↓pDclr,↓pLcUO,↓pSrtSetO,↓pLstV,↓lvK_dct,↓pMakeD,↓rLenO_p,↓pOrX,↓rIsM_p,↓rMinL_p,↓rMax_p,↓rOr2_p,↓rOrs_p,↓pMakeKD,↓pDcU,↓zR,↓reduceIte,zV,wipeD]
   refine ⟨_,rfl,hb,?_⟩
   simp only [↓pGen,↓pGenM,↓pGenMK,↓pForN,↓pLcN,↓piZipN,↓pDclr,↓pLcUO,↓pSrtSetO,↓pLstV,↓lvK_dct,↓pMakeD,↓rLenO_p,↓pOrX,↓rIsM_p,↓rMinL_p,↓rMax_p,↓rOr2_p,↓rOrs_p,↓pMakeKD,↓pDcU,↓zR,↓reduceIte,zV,wipeD]
   refine ⟨_,rfl,ha,?_⟩
   exact ⟨by omega,fin_of q⟩
theorem ok__law_turned {P:Program} {w:World} {K:PySem.W.Frag} {mg:Str→Option Value} {base:Heap} {A:Ad} (T:Txt P K mg A):∀n,FnJ P w K mg base (1 + n) A.f__law_turned (sp__law_turned A n)
 | 0=>FnJ.mkAt (k:=0) (wb:=wNever) T.d__law_turned sc__law_turned (fun cdv R outer s H E hr tk=>jss_never) (fun _ _ _ _ h=>h.elim)
 | n + 1=>FnJ.mkAt (k:=1 + n) T.d__law_turned sc__law_turned (fun cdv R outer s H E hr tk=>bd__law_turned T n (ok__law_turned T n) cdv R outer s H E hr tk) (rd__law_turned A n)
end DL.K05
set_option maxHeartbeats 1000000
namespace DL.K05
open PySem PySem.Spec PyProof.Rows L2 GenW RZ
structure LB (M:Mem) (b:Addr) (N:Mem):Prop where
 bag:∃o,N b=some o∧Bg o
 sub:∀a o,M a=some o→N a=some o
 fr:M b=none
theorem LB.ne {M N:Mem} {b a:Addr} {u:MO} (h:LB M b N) (e:M a=some u):a≠b:=fun z=>by
 subst z
 rw [h.fr] at e
 cases e
theorem LB.put {M N:Mem} {b:Addr} {o:MO} (h:LB M b N) (g:Bg o):LB M b (mput N b o):=
 ⟨⟨o,mput_same,g⟩,fun a u e=>by rw [mput_ne (h.ne e)];exact h.sub a u e,h.fr⟩
theorem LB.bgd {M N N':Mem} {b:Addr} (h:LB M b N) (g:Bgd N b N'):LB M b N':=by
 obtain ⟨o,ho,rfl⟩:=g
 exact h.put ho
theorem LB.self {M N:Mem} {b:Addr} (h:LB M b N):Bgd N b N:=by
 obtain ⟨o,e,g⟩:=h.bag
 exact bgd_rfl e g
theorem LB.new {M N:Mem} {b p:Addr} {o:MO} (h:LB M b N) (hp:M p=none) (hb:b≠p):LB M b (mput N p o):=by
 obtain ⟨u,e,g⟩:=h.bag
 refine ⟨⟨u,by rw [mput_ne hb];exact e,g⟩,fun a v ea=>?_,h.fr⟩
 have:a≠p:=fun z=>by
  subst z
  rw [hp] at ea
  cases ea
 rw [mput_ne this]
 exact h.sub a v ea
theorem LB.free {M N:Mem} {b p:Addr} (h:LB M b N) (hp:N p=none):M p=none∧b≠p:=by
 refine ⟨?_,fun z=>?_⟩
 ·cases e:M p with
  | none=>rfl
  | some o=>
   have:=h.sub p o e
   rw [hp] at this
   cases this
 ·obtain ⟨u,e,_⟩:=h.bag
  subst z
  rw [hp] at e
  cases e
theorem sub_put {M:Mem} {a:Addr} {o:MO} (h:M a=none):∀b u,M b=some u→mput M a o b=some u:=fun b u e=>by
 have:b≠a:=fun z=>by
  subst z
  rw [h] at e
  cases e
 rw [mput_ne this]
 exact e
mutual
theorem deq_self:∀d:D,deq d d=true
 | .non=>rfl
 | .bl b=>by simp [deq,toPy,PyData.eqv]
 | .int i=>by simp [deq,toPy,PyData.eqv]
 | .str x=>by simp [deq,toPy,PyData.eqv]
 | .tup xs=>by
  show PyData.eqv (.tuple (toPys xs)) (.tuple (toPys xs))=true
  rw [PyData.eqv]
  exact deqs_self xs
 | .lst xs=>by
  show PyData.eqv (.list (toPys xs)) (.list (toPys xs))=true
  rw [PyData.eqv]
  exact deqs_self xs
 | .ty _=>rfl
 | .ref _=>rfl
 | .dct _ _=>rfl
 | .dtt _ _=>rfl
 | .ins _ _ _=>rfl
 | .scr _=>rfl
 | .tpn _=>rfl
 | .exc _ _ _ _ _=>rfl
theorem deqs_self:∀xs:List D,PyData.eqvAll (toPys xs) (toPys xs)=true
 | []=>rfl
 | x :: xs=>by
  show PyData.eqvAll (toPy x :: toPys xs) (toPy x :: toPys xs)=true
  rw [PyData.eqvAll,show PyData.eqv (toPy x) (toPy x)=true from deq_self x,deqs_self xs]
  rfl
end
def sp_law (A:Ad):SpD:=spLaw [(A.lc,A.lt)] lamq
def wb_law_c13 (A:Ad):WS:=
 (wIf (wTest (wOp (rEqD true) (wLc (wiZipN (wLst wNil) (wGenM A.c_Shape ns_Shape (gsp_Shape_rows_in A) (wVar 3) (wCons (wVar 13) wNil))) (gN 10) wYes (wVar 10) [10]) (wLst wNil)))
 (wRet (wC (.bl false)))
 wNx)
def wb_law_c12 (A:Ad):WS:=
 (wSeq (wIf (wNotT (wTest (wCall (sp__law_like A 52) (wCons (wTry A.lt lamq (xt A) (wMeth A.c_Shape ns_Shape (sp_Shape_chain A) (wVar 3) (wCons (wLst (wCons (wVar 13) wNil)) wNil))) (wCons (wTup (wCons (wC (.str "InvalidPile")) (wCons (wTup wNil) wNil))) wNil)))))
 (wRet (wC (.bl false)))
 wNx)
 (wb_law_c13 A))
def wb_law_c11 (A:Ad):WS:=
 (wSeq (wIf (wNotT (wTest (wCall (sp__law_like A 52) (wCons (wFz (wVar 14)) (wCons (wOp rRepD (wLst (wCons (wTup (wCons (wC (.str "InvalidTree")) (wCons (wTup wNil) wNil))) wNil)) (wC (.int 2))) wNil)))))
 (wRet (wC (.bl false)))
 wNx)
 (wb_law_c12 A))
def wb_law_c10 (A:Ad):WS:=
 (wSeq (wAsg (wLstO (wCons (wTry A.lt lamq (xt A) (wLcN (wGenM A.c_Shape ns_Shape (gsp_Shape_rows_in A) (wVar 3) (wCons (wVar 13) wNil)))) wNil)) (gN 14))
 (wSeq (wDrop (wBM "list" rAppD (wVar 14) (wCons (wTry A.lt lamq (xt A) (wMeth A.c_Shape ns_Shape (sp_Shape_turned A) (wVar 3) (wCons (wVar 13) wNil))) wNil)))
 (wb_law_c11 A)))
def wb_law_c9 (A:Ad):WS:=
 (wSeq (wAsg (wCall (sp__law_any A) (wCons (wVar 1) (wCons (wLst (wCons (wC .non) (wCons (wTup wNil) (wCons (wLst (wCons (wVar 6) wNil)) (wCons (wTup (wCons (wVar 6) (wCons (wVar 6) wNil))) (wCons (wTup (wCons (wVar 6) (wCons (wC .non) wNil))) (wCons (wVar 5) (wCons (wC (.int 5)) wNil)))))))) wNil))) (gN 13))
 (wSeq (wIf (wNotT (wTest (wCall (sp__law_like A 52) (wCons (wTry A.lt lamq (xt A) (wMeth A.c_Shape ns_Shape (sp_Shape_sheet A) (wVar 3) (wCons (wVar 13) wNil))) (wCons (wTup (wCons (wC (.str "InvalidRow")) (wCons (wTup (wCons (wVar 13) wNil)) wNil))) wNil)))))
 (wRet (wC (.bl false)))
 wNx)
 (wb_law_c10 A)))
def wb_law_c8 (A:Ad):WS:=
 (wSeq (wDrop (wDclr (wMeth A.c_Shape ns_Shape (sp_Shape_sheet A) (wVar 3) (wCons (wVar 7) wNil))))
 (wb_law_c9 A))
def wb_law_c7 (A:Ad):WS:=
 (wSeq (wIf (wOrT (wTest (wOp (rEqVD true) (wVar 11) (wSl (wVar 5) wNo (wSome (wC (.int 1)))))) (wTest (wOp (rEqD true) (wVar 12) (wOp rRevD (wVar 5) (wUn rNegD (wC (.int 1)))))))
 (wRet (wC (.bl false)))
 wNx)
 (wb_law_c8 A))
def wb_law_c6 (A:Ad):WS:=
 (wSeq (wAsg (wLcN (wGenM A.c_Shape ns_Shape (gsp_Shape_rows_in A) (wVar 3) (wCons (wMeth A.c_Shape ns_Shape (sp_Shape_turned A) (wVar 3) (wCons (wVar 6) wNil)) wNil))) (gN 12))
 (wb_law_c7 A))
def wb_law_c5 (A:Ad):WS:=
 (wSeq (wAsg (wLstO wNil) (gN 11))
 (wSeq (wForN (wGenMK A.c_Shape ns_Shape (gsp_Shape_rows_in A) 1 [0,1] (wVar 3) (wCons (wVar 6) wNil)) (gN 10)
 (wSeq (wDrop (wBM "list" rAppD (wVar 11) (wCons (wVar 10) wNil)))
 wBrk))
 (wb_law_c6 A)))
def wb_law_c4 (A:Ad):WS:=
 (wSeq (wIf (wNotT (wTest (wCall (sp__law_like A 52) (wCons (wLst (wCons (wMeth A.c_Shape ns_Shape (sp_Shape_turned A) (wVar 3) (wCons (wVar 6) wNil)) (wCons (wMeth A.c_Shape ns_Shape (sp_Shape_chain A) (wVar 3) (wCons (wVar 5) wNil)) (wCons (wMeth A.c_Shape ns_Shape (sp_Shape_chain A) (wVar 3) (wCons (wCB rTupD (wCons (wVar 5) wNil)) wNil)) wNil)))) (wCons (wLst (wCons (wCall (sp__law_turned A 44) (wCons (wVar 6) wNil)) (wCons (wVar 9) (wCons (wVar 9) wNil)))) wNil)))))
 (wRet (wC (.bl false)))
 wNx)
 (wb_law_c5 A))
def wb_law_c3 (A:Ad):WS:=
 (wSeq (wAsg (wOp rIxD (wVar 5) (wC (.int 0))) (gN 9))
 (wSeq (wFor (wiSeq (wSl (wVar 5) (wSome (wC (.int 1))) wNo)) (gN 10)
 (wAsg (wTup (wCons (wVar 9) (wCons (wVar 10) wNil))) (gN 9)))
 (wb_law_c4 A)))
def wb_law_c2 (A:Ad):WS:=
 (wSeq (wAsg (wDzip (wCons (wOp rAddD (wLst (wCons (wC (.str "moment")) (wCons (wC (.str "source")) wNil))) (wOp rIxD (wVar 2) (wC (.int 0)))) (wCons (wOp rAddD (wSl (wVar 7) wNo (wSome (wC (.int 2)))) (wOp rIxD (wVar 7) (wC (.int 2)))) wNil))) (gN 8))
 (wSeq (wIf (wNotT (wTest (wCall (sp__law_like A 52) (wCons (wLst (wCons (wFz (wMeth A.c_Shape ns_Shape (sp_Shape_sheet A) (wVar 3) (wCons (wVar 7) wNil))) (wCons (wLcN (wGenM A.c_Shape ns_Shape (gsp_Shape_rows_in A) (wVar 3) (wCons (wVar 6) wNil))) wNil))) (wCons (wLst (wCons (wVar 8) (wCons (wVar 5) wNil))) wNil)))))
 (wRet (wC (.bl false)))
 wNx)
 (wb_law_c3 A)))
def wb_law_c1 (A:Ad):WS:=
 (wSeq (wPar 6 7 (wCons (wCall (sp__law_tree A) (wCons (wVar 1) (wCons (wVar 5) wNil))) (wCons (wCall (sp__law_any A) (wCons (wVar 1) (wCons (wVar 5) wNil))) wNil)))
 (wb_law_c2 A))
def wb_law_c0 (A:Ad):WS:=
 (wSeq (wFor (wiRng1 (wCons (wC (.int 6)) wNil)) (gN 4)
 (wSeq (wAsg (wCall (sp__law_rows A) (wCons (wVar 1) (wCons (wVar 2) (wCons (wOp rAddD (wC (.int 1)) (wCall (sp__law_pull A) (wCons (wVar 1) (wCons (wC (.int 9)) wNil)))) wNil)))) (gN 5))
 (wb_law_c1 A)))
 (wRet (wC (.bl true))))
def wb_law (A:Ad):WS:=
 (wSeq (wAsg (wCall (sp__law_opened A) (wCons (wVar 0) wNil)) (gN 1))
 (wSeq (wAsg (wCall (sp__law_ground A) (wCons (wVar 1) (wCons (wC (.int 4)) (wCons (wC (.int 3)) wNil)))) (gN 2))
 (wSeq (wAsg (wCall (sp__law_shape A) (wCons (wVar 2) wNil)) (gN 3))
 (wb_law_c0 A))))
theorem bd_law {P:Program} {w:World} {K:PySem.W.Frag} {mg:Str→Option Value} {base:Heap} {A:Ad} (T:Txt P K mg A) (B:LamX.TabB base mg A.lc A.lt) (R:Around) (outer:List Env) (s:Shared) (H:Hp) (E:XK) (hr:Room 79 (R.deeper (envOfC "law" (defScope s_law) s.heap.objs.size A.f_law (.ref A.lc))))
  (tk:Takes (cxOf (L2.CX P w) P w K mg base N_law "law" (defScope s_law) A.f_law (.ref A.lc) R outer s H E) (WD E)):JSs (cxOf (L2.CX P w) P w K mg base N_law "law" (defScope s_law) A.f_law (.ref A.lc) R outer s H E) (WD E) (defBody s_law) (wb_law A):=
 (js_cons (js_set (i:=1) sc_law.nd (j_call (ok__law_opened T) hr (by decide) T.g__law_opened tk (j_cons (jv 0) j_nil)))
 (js_cons (js_set (i:=2) sc_law.nd (j_call (ok__law_ground T) hr (by decide) T.g__law_ground tk (j_cons (jv 1) (j_cons j_int (j_cons j_int j_nil)))))
 (js_cons (js_set (i:=3) sc_law.nd (j_call (ok__law_shape T) hr (by decide) T.g__law_shape tk (j_cons (jv 2) j_nil)))
 (js_cons (js_for (passes_of rfl) rfl (ji_rng1 T.n_range (j_cons j_int j_nil)) (jg_name (i:=4) sc_law.nd)
 (js_cons (js_set (i:=5) sc_law.nd (j_call (ok__law_rows T) hr (by decide) T.g__law_rows tk (j_cons (jv 1) (j_cons (jv 2) (j_cons (j_op od_add j_int (j_call (ok__law_pull T) hr (by decide) T.g__law_pull tk (j_cons (jv 1) (j_cons j_int j_nil)))) j_nil)))))
 (js_cons (js_par (i:=6) (j:=7) rfl sc_law.nd (j_cons (j_call (ok__law_tree T) hr (by decide) T.g__law_tree tk (j_cons (jv 1) (j_cons (jv 5) j_nil))) (j_cons (j_call (ok__law_any T) hr (by decide) T.g__law_any tk (j_cons (jv 1) (j_cons (jv 5) j_nil))) j_nil)))
 (js_cons (js_set (i:=8) sc_law.nd (j_dzip rfl T.n_dict T.n_zip (j_cons (j_op od_add (j_lst (j_cons j_str (j_cons j_str j_nil))) (j_ix id_ix (jv 2) j_int)) (j_cons (j_op od_add (j_sl (jv 7) jo_none (jo_some j_int)) (j_ix id_ix (jv 7) j_int)) j_nil))))
 (js_cons (js_if (jt_not (jt_val (j_call (ok__law_like T 52) hr (by decide) T.g__law_like tk (j_cons (j_lst (j_cons (j_fz (j_meth (C:=A.c_Shape) (ns:=ns_Shape) (jv 3) T.cl_Shape T.m_Shape_sheet (by decide +kernel) (ok_Shape_sheet T) hr (by decide) tk (j_cons (jv 7) j_nil))) (j_cons (j_lcN rfl rfl rfl tk hr (by decide) (jn_meth (C:=A.c_Shape) (ns:=ns_Shape) (jv 3) T.cl_Shape T.m_Shape_rows_in (by decide +kernel) (ok_Shape_rows_in T) hr (by decide) (j_cons (jv 6) j_nil))) j_nil))) (j_cons (j_lst (j_cons (jv 8) (j_cons (jv 5) j_nil))) j_nil)))))
 (js_one (js_ret j_bl))
 js_nil)
 (js_cons (js_set (i:=9) sc_law.nd (j_ix id_ix (jv 5) j_int))
 (js_cons (js_for (passes_of rfl) rfl (ji_seq (j_sl (jv 5) (jo_some j_int) jo_none)) (jg_name (i:=10) sc_law.nd)
 (js_one (js_set (i:=9) sc_law.nd (j_tup (j_cons (jv 9) (j_cons (jv 10) j_nil))))))
 (js_cons (js_if (jt_not (jt_val (j_call (ok__law_like T 52) hr (by decide) T.g__law_like tk (j_cons (j_lst (j_cons (j_meth (C:=A.c_Shape) (ns:=ns_Shape) (jv 3) T.cl_Shape T.m_Shape_turned (by decide +kernel) (ok_Shape_turned T) hr (by decide) tk (j_cons (jv 6) j_nil)) (j_cons (j_meth (C:=A.c_Shape) (ns:=ns_Shape) (jv 3) T.cl_Shape T.m_Shape_chain (by decide +kernel) (ok_Shape_chain T) hr (by decide) tk (j_cons (jv 5) j_nil)) (j_cons (j_meth (C:=A.c_Shape) (ns:=ns_Shape) (jv 3) T.cl_Shape T.m_Shape_chain (by decide +kernel) (ok_Shape_chain T) hr (by decide) tk (j_cons (j_callTy cd_tup T.n_tuple bo_tuple (j_cons (jv 5) j_nil)) j_nil)) j_nil)))) (j_cons (j_lst (j_cons (j_call (ok__law_turned T 44) hr (by decide) T.g__law_turned tk (j_cons (jv 6) j_nil)) (j_cons (jv 9) (j_cons (jv 9) j_nil)))) j_nil)))))
 (js_one (js_ret j_bl))
 js_nil)
 (js_cons (js_set (i:=11) sc_law.nd (j_lstO j_nil))
 (js_cons (js_forN (passes_of rfl) rfl tk xeUp_cxOf hr (by decide) (jn_methK (C:=A.c_Shape) (ns:=ns_Shape) (jv 3) T.cl_Shape T.m_Shape_rows_in (by decide +kernel) (okk_Shape_rows_in_tree T) hr (by decide) (jk_cons (jv 6) jk_nil)) (jg_name (i:=10) sc_law.nd)
 (js_cons (js_expr (j_bm PySem.F.plainAttrs_list PySem.F.slot_list_append PySem.F.type_list_append md_append (jv 11) (j_cons (jv 10) j_nil)))
 (js_one js_brk)))
 (js_cons (js_setLcN sc_law.nd rfl rfl rfl tk hr (by decide) (jn_meth (C:=A.c_Shape) (ns:=ns_Shape) (jv 3) T.cl_Shape T.m_Shape_rows_in (by decide +kernel) (ok_Shape_rows_in T) hr (by decide) (j_cons (j_meth (C:=A.c_Shape) (ns:=ns_Shape) (jv 3) T.cl_Shape T.m_Shape_turned (by decide +kernel) (ok_Shape_turned T) hr (by decide) tk (j_cons (jv 6) j_nil)) j_nil)))
 (js_cons (js_if (jt_bool (jt_or (jt_cmp (od_neV hr.units) (jv 11) (j_sl (jv 5) jo_none (jo_some j_int))) (jt_or1 (jt_cmp (od_ne hr.units) (jv 12) (j_revSl (jv 5) (j_un ud_neg j_int))))))
 (js_one (js_ret j_bl))
 js_nil)
 (js_cons (js_expr (j_dclr (j_meth (C:=A.c_Shape) (ns:=ns_Shape) (jv 3) T.cl_Shape T.m_Shape_sheet (by decide +kernel) (ok_Shape_sheet T) hr (by decide) tk (j_cons (jv 7) j_nil))))
 (js_cons (js_set (i:=13) sc_law.nd (j_call (ok__law_any T) hr (by decide) T.g__law_any tk (j_cons (jv 1) (j_cons (j_lst (j_cons j_non (j_cons (j_tup j_nil) (j_cons (j_lst (j_cons (jv 6) j_nil)) (j_cons (j_tup (j_cons (jv 6) (j_cons (jv 6) j_nil))) (j_cons (j_tup (j_cons (jv 6) (j_cons j_non j_nil))) (j_cons (jv 5) (j_cons j_int j_nil)))))))) j_nil))))
 (js_cons (js_if (jt_not (jt_val (j_call (ok__law_like T 52) hr (by decide) T.g__law_like tk (j_cons (j_try (k:=77) T.d__law_try sc__law_try rfl (.inl rfl) (tg T (hr.mono (by decide))) (xt_ok T) B rfl hr (by decide) (LamX.lamS_by (sc:=defScope s_law) (by decide +kernel)) T.g__law_try (fun _ _ _ _ _ _ _ hr tk=>(j_meth (C:=A.c_Shape) (ns:=ns_Shape) (jv 3) T.cl_Shape T.m_Shape_sheet (by decide +kernel) (ok_Shape_sheet T) hr (by decide) tk (j_cons (jv 13) j_nil))) (fun _ _ _ _ _=>rfl)) (j_cons (j_tup (j_cons j_str (j_cons (j_tup (j_cons (jv 13) j_nil)) j_nil))) j_nil)))))
 (js_one (js_ret j_bl))
 js_nil)
 (js_cons (js_set (i:=14) sc_law.nd (j_lstO (j_cons (j_try (k:=77) T.d__law_try sc__law_try rfl (.inl rfl) (tg T (hr.mono (by decide))) (xt_ok T) B rfl hr (by decide) (LamX.lamS_by (sc:=defScope s_law) (by decide +kernel)) T.g__law_try (fun _ _ _ _ _ _ _ hr tk=>(j_lcN rfl rfl rfl tk hr (by decide) (jn_meth (C:=A.c_Shape) (ns:=ns_Shape) (jv 3) T.cl_Shape T.m_Shape_rows_in (by decide +kernel) (ok_Shape_rows_in T) hr (by decide) (j_cons (jv 13) j_nil)))) (fun _ _ _ _ _=>rfl)) j_nil)))
 (js_cons (js_expr (j_bm PySem.F.plainAttrs_list PySem.F.slot_list_append PySem.F.type_list_append md_append (jv 14) (j_cons (j_try (k:=77) T.d__law_try sc__law_try rfl (.inl rfl) (tg T (hr.mono (by decide))) (xt_ok T) B rfl hr (by decide) (LamX.lamS_by (sc:=defScope s_law) (by decide +kernel)) T.g__law_try (fun _ _ _ _ _ _ _ hr tk=>(j_meth (C:=A.c_Shape) (ns:=ns_Shape) (jv 3) T.cl_Shape T.m_Shape_turned (by decide +kernel) (ok_Shape_turned T) hr (by decide) tk (j_cons (jv 13) j_nil))) (fun _ _ _ _ _=>rfl)) j_nil)))
 (js_cons (js_if (jt_not (jt_val (j_call (ok__law_like T 52) hr (by decide) T.g__law_like tk (j_cons (j_fz (jv 14)) (j_cons (j_op od_rep (j_lst (j_cons (j_tup (j_cons j_str (j_cons (j_tup j_nil) j_nil))) j_nil)) j_int) j_nil)))))
 (js_one (js_ret j_bl))
 js_nil)
 (js_cons (js_if (jt_not (jt_val (j_call (ok__law_like T 52) hr (by decide) T.g__law_like tk (j_cons (j_try (k:=77) T.d__law_try sc__law_try rfl (.inl rfl) (tg T (hr.mono (by decide))) (xt_ok T) B rfl hr (by decide) (LamX.lamS_by (sc:=defScope s_law) (by decide +kernel)) T.g__law_try (fun _ _ _ _ _ _ _ hr tk=>(j_meth (C:=A.c_Shape) (ns:=ns_Shape) (jv 3) T.cl_Shape T.m_Shape_chain (by decide +kernel) (ok_Shape_chain T) hr (by decide) tk (j_cons (j_lst (j_cons (jv 13) j_nil)) j_nil))) (fun _ _ _ _ _=>rfl)) (j_cons (j_tup (j_cons j_str (j_cons (j_tup j_nil) j_nil))) j_nil)))))
 (js_one (js_ret j_bl))
 js_nil)
 (js_one (js_if (jt_cmp (od_ne hr.units) (j_lc (own:= [("_law_one",10)]) rfl sc_law.nd (ji_zipN T.n_zip (j_lst j_nil) (jn_meth (C:=A.c_Shape) (ns:=ns_Shape) (jv 3) T.cl_Shape T.m_Shape_rows_in (by decide +kernel) (ok_Shape_rows_in T) hr (by decide) (j_cons (jv 13) j_nil))) (blkOk_by (own:= [("_law_one",10)]) (N:=N_law) (sc:=defScope s_law) (by decide +kernel)) (fun _ _ _ _ _=>(jg_name (i:=10) sc_law.nd)) (fun _ _ _ _ _=>jts_nil) (fun _ _ _ _ _=>(jv 10))) (j_lst j_nil))
 (js_one (js_ret j_bl))
 js_nil)))))))))))))))))))))
 (js_one (js_ret j_bl))))))
theorem pTry {P:Addr} {q:Str} {XT:List XRow} {wb:WE} {ds:SD} {M:Mem} {Q:KN} {X:KX}:wTry P q XT wb ds M Q X=(M P=some (.tab q)∧wb ds M (fun d M1=>Q (.tup [.str "value",d]) M1) (fun x M1=>excR XT x M1 Q)):=propext Iff.rfl
theorem like_at (A:Ad) {d e:D} {M:Mem} {Q:KN} {X:KX} (h:LikeG 51 e) (he:d=e) (q:Q (.bl true) M):sp__law_like A 52 [d,e] M Q X:=by
 subst he
 exact ⟨d,rfl,h,q⟩
theorem x_row (A:Ad) {d:D} {M:Mem} {Q:KN} (q:Q (.tup [.str "InvalidRow", .tup [d]]) M):excR (xt A) (xRow A d) M Q:=⟨A.c_InvalidRow,"InvalidRow", ["given"], [d],List.mem_cons_self,rfl,rfl,q⟩
theorem x_pile (A:Ad) {M:Mem} {Q:KN} (q:Q (.tup [.str "InvalidPile", .tup []]) M):excR (xt A) (xPile A) M Q:=⟨A.c_InvalidPile,"InvalidPile", [], [],List.mem_cons_of_mem _ List.mem_cons_self,rfl,rfl,q⟩
theorem x_tree (A:Ad) {M:Mem} {Q:KN} (q:Q (.tup [.str "InvalidTree", .tup []]) M):excR (xt A) (xTree A) M Q:=⟨A.c_InvalidTree,"InvalidTree", [], [],List.mem_cons_of_mem _ (List.mem_cons_of_mem _ List.mem_cons_self),rfl,rfl,q⟩
structure BadV (n:Nat) (ss:List Str) (d:D):Prop where
 nc:Nc d 45
 row:isRow n ss d=false
 tree:isTree n ss d=false
 len:(leavesD d).length < 1000
theorem BadV.pile {n:Nat} {ss:List Str} {d:D} (h:BadV n ss d):isPile n ss (.lst [d])=false:=by
 show pileOf n ss [d]=false
 unfold pileOf
 simp [h.row]
theorem BadV.no {A:Ad} {fs ss:List Str} {d:D} (h:BadV fs.length ss d) (hl:fs.length < 3000):gsp_Shape_rows_in A [shp A fs ss,d] [] (some (xTree A)):=
 ⟨fs,ss,d,rfl,hl,Nc.mono _ _ _ (by decide) h.nc,by have:=h.len;omega, .inr ⟨h.tree,rfl,rfl⟩⟩
structure TK (fs ss:List Str) (rows:List D) (t:D):Prop where
 row:∀d∈rows,RowAt fs.length ss (momI d) d
 nd:(rows.map momI).Nodup
 ne:rows≠ []
 len:rows.length≤12
 lv:leavesD t=rows
 nc:Nc t 42
 f5:fs.length≤5
 s:NamesOk ss
theorem TK.pile {fs ss:List Str} {rows:List D} {t:D} (k:TK fs ss rows t):pileOf fs.length ss rows=true:=by
 unfold pileOf
 rw [decide_eq_false (fun e=>k.ne (List.eq_nil_of_length_eq_zero e)),Bool.not_false,Bool.true_and,Bool.and_eq_true]
 refine ⟨List.all_eq_true.mpr fun d hd=>(k.row d hd).is,dist_iff.mpr ?_⟩
 have e:rows.map momK=(rows.map momI).map Sum.inl:=by rw [List.map_map];rfl
 rw [e]
 exact List.Pairwise.map _ (fun a b hn e=>hn (Sum.inl.inj e)) k.nd
theorem TK.tree {fs ss:List Str} {rows:List D} {t:D} (k:TK fs ss rows t):isTree fs.length ss t=true:=by
 unfold isTree
 rw [k.lv]
 exact k.pile
theorem TK.rnc {fs ss:List Str} {rows:List D} {t:D} (k:TK fs ss rows t) {n:Nat} (h:2≤n):∀d∈rows,Nc d n:=fun d hd=>Nc.mono _ _ _ h ((k.row d hd).nc k.s (by have:=k.f5;omega))
theorem TK.rsnc {fs ss:List Str} {rows:List D} {t:D} (k:TK fs ss rows t):Nc (.lst rows) 44:=⟨⟨by decide,by have:=k.len;omega⟩,Ncs_iff.mpr (k.rnc (by decide))⟩
theorem pile_no {n:Nat} {ss:List Str} {xs:List D} {d:D} (hd:d∈xs) (h:isRow n ss d=false):pileOf n ss xs=false:=by
 have e:xs.all (isRow n ss)=false:=List.all_eq_false.mpr ⟨d,hd,by rw [h];decide⟩
 unfold pileOf
 rw [e,Bool.false_and,Bool.and_false]
theorem leaf_bad {n:Nat} {ss:List Str} {d:D} (p:isPair d=false) (h:isRow n ss d=false) (hn:Nc d 45):BadV n ss d:=
 ⟨hn,h,by unfold isTree;rw [leaves_one p];exact pile_no List.mem_cons_self h,by rw [leaves_one p];simp⟩
theorem TK.bad {fs ss:List Str} {rows:List D} {t:D} (k:TK fs ss rows t):∀d∈ [D.non, .tup [], .lst [t], .tup [t,t], .tup [t, .non], .lst rows, .int 5],BadV fs.length ss d:=by
 have l:=k.len
 have nt:Nc t 44:=Nc.mono _ _ _ (by decide) k.nc
 have e2:∀a b:D,leavesD (.tup [a,b])=leavesD a ++ leavesD b:=fun a b=>by simp [leavesD]
 intro d hd
 simp only [List.mem_cons,List.not_mem_nil,or_false] at hd
 rcases hd with rfl | rfl | rfl | rfl | rfl | rfl | rfl
 ·exact leaf_bad rfl rfl trivial
 ·exact leaf_bad rfl rfl ⟨⟨by decide,by decide⟩,trivial⟩
 ·exact leaf_bad rfl rfl ⟨⟨by decide,by simp⟩,nt,trivial⟩
 ·refine ⟨⟨⟨by decide,by simp⟩,nt,nt,trivial⟩,rfl,?_,by rw [e2,k.lv,List.length_append];omega⟩
  unfold isTree
  rw [e2,k.lv]
  cases hp:pileOf fs.length ss (rows ++ rows) with
  | false=>rfl
  | true=>
   unfold pileOf at hp
   rw [Bool.and_eq_true,Bool.and_eq_true] at hp
   have nd:=dist_iff.mp hp.2.2
   rw [List.map_append] at nd
   obtain ⟨r,rs,e⟩:=List.exists_cons_of_ne_nil k.ne
   rw [e] at nd
   exact absurd rfl ((List.nodup_append.mp nd).2.2 _ List.mem_cons_self _ List.mem_cons_self)
 ·refine ⟨⟨⟨by decide,by simp⟩,nt,trivial,trivial⟩,rfl,?_,by rw [e2,k.lv,List.length_append];simp [leavesD];omega⟩
  unfold isTree
  rw [e2]
  exact pile_no (d:= .non) (List.mem_append_right _ (by simp [leavesD])) rfl
 ·exact leaf_bad rfl rfl (Nc.mono _ _ _ (by decide) k.rsnc)
 ·exact leaf_bad rfl rfl trivial
theorem turn_nc:∀{n:Nat} {t:D},TreeN n t→∀m,Nc t m→Nc (turnD t) m
 | _,_, .leaf,m,h=>by rw [turnD_leaf];exact h
 | _,_, .node ha hb,m,h=>by
  rw [turnD_node]
  exact ⟨⟨h.1.1,by simp⟩,turn_nc hb _ h.2.2.1,turn_nc ha _ h.2.1,trivial⟩
theorem turn_lv:∀{n:Nat} {t:D},TreeN n t→leavesD (turnD t)=(leavesD t).reverse
 | _,_, .leaf=>by
  rw [turnD_leaf]
  simp [leavesD]
 | _,_, .node ha hb=>by
  rw [turnD_node]
  have e2:∀a b:D,leavesD (.tup [a,b])=leavesD a ++ leavesD b:=fun a b=>by simp [leavesD]
  rw [e2,e2,turn_lv ha,turn_lv hb,List.reverse_append]
theorem TK.tn {fs ss:List Str} {rows:List D} {t:D} (k:TK fs ss rows t):TreeN 44 t:=(tree_n 42 (L:=rows) (fun r h=>⟨_,k.row r h⟩) (fun r h=>by rw [k.lv] at h;exact h) k.nc).up (by decide)
theorem TK.turn {fs ss:List Str} {rows:List D} {t:D} (k:TK fs ss rows t):TK fs ss rows.reverse (turnD t) where
 row:=fun d hd=>k.row d (List.mem_reverse.mp hd)
 nd:=by rw [List.map_reverse];exact List.pairwise_reverse.mpr (List.Pairwise.imp (fun h e=>h e.symm) k.nd)
 ne:=fun e=>k.ne (List.reverse_eq_nil_iff.mp e)
 len:=by rw [List.length_reverse];exact k.len
 lv:=by rw [turn_lv k.tn,k.lv]
 nc:=turn_nc k.tn _ k.nc
 f5:=k.f5
 s:=k.s
theorem TK.gen {A:Ad} {fs ss:List Str} {rows:List D} {t:D} (k:TK fs ss rows t):gsp_Shape_rows_in A [shp A fs ss,t] rows none:=
 ⟨fs,ss,t,rfl,by have:=k.f5;omega,Nc.mono _ _ _ (by decide) k.nc,by rw [k.lv];have:=k.len;omega, .inl ⟨k.tree,k.lv.symm,rfl⟩⟩
theorem chain_nc {m:Nat}:∀(xs:List D) {x:D} {n:Nat},Nc x n→2≤n→(∀y∈xs,Nc y 2)→Nc (chainL x xs) (n + xs.length)
 | [],x,n,h,_,_=>h
 | y :: ys,x,n,h,h2,hy=>by
  have z:=chain_nc (m:=m) ys (x:= .tup [x,y]) (n:=n + 1) ⟨⟨by omega,by simp⟩,by simpa using h,Nc.mono _ _ _ (by omega) (hy y List.mem_cons_self),trivial⟩ (by omega) fun w hw=>hy w (List.mem_cons_of_mem _ hw)
  have e:n + (y :: ys).length=n + 1 + ys.length:=by rw [List.length_cons];omega
  rw [e]
  exact z
section
variable (A : Ad) {fs ss ws : List Str} {b : Addr} {E : ED} {M N : Mem} {bad : D} {x0 x4 x5 x6 x7 x8 x9 x10 x11 x12 x13 x14 : Option D}
abbrev KQ (A:Ad) (fs ss ws:List Str) (b:Addr) (E:ED) (M:Mem) (x0:Option D):Prop:=∀r:SD,r.length=11→∀N2,LB M b N2→E.nx (x0 :: some (.ref b) :: some (grD fs ss ws) :: some (shp A fs ss) :: r) N2
theorem law_c13 (hl:fs.length < 3000) (bv:BadV fs.length ss bad) (lb:LB M b N) (q:KQ A fs ss ws b E M x0):
  wb_law_c13 A E [x0,some (.ref b),some (grD fs ss ws),some (shp A fs ss),x4,x5,x6,x7,x8,x9,x10,x11,x12,some bad,x14] N:=by
 have big:=sizeLine_big
 simp only [wb_law_c13,↓pGen,↓pGenM,↓pGenMK,↓pForN,↓pLcN,↓piZipN,↓pDclr,↓pLcUO,↓pSrtSetO,↓pLstV,↓lvK_dct,↓pMakeD,↓rLenO_p,↓pOrX,↓rIsM_p,↓rMinL_p,↓rMax_p,↓rOr2_p,↓rOrs_p,↓pMakeKD,↓pDcU,↓zR,↓reduceIte,zV,wipeD,shp]
 have dn:Dat (.lst []) 60:=Nc.dat _ 60 ⟨⟨by decide,by simp⟩,trivial⟩
 refine ⟨by omega, [],some (xTree A),bv.no hl,by omega,dn,dn,?_⟩
 simp only [deq_self,Bool.not_true,Bool.false_eq_true,if_false]
 exact q [x4,x5,x6,x7,x8,x9,x10,x11,x12,some bad,x14] rfl _ lb
theorem nc_pile:LikeG 51 (.tup [.str "InvalidPile", .tup []]):=by
 have ok:PyData.strOk ("InvalidPile":Str)=true:=by decide +kernel
 have l:(("InvalidPile":Str)).length < 90000:=by decide +kernel
 exact .of ⟨⟨by decide,by simp⟩,⟨l,ok⟩,⟨⟨by decide,by simp⟩,trivial⟩,trivial⟩
theorem nc_row {d:D} (h:Nc d 45):LikeG 51 (.tup [.str "InvalidRow", .tup [d]]):=by
 have ok:PyData.strOk ("InvalidRow":Str)=true:=by decide +kernel
 have l:(("InvalidRow":Str)).length < 90000:=by decide +kernel
 exact .of ⟨⟨by decide,by simp⟩,⟨l,ok⟩,⟨⟨by decide,by simp⟩,Nc.mono _ _ _ (by decide) h,trivial⟩,trivial⟩
theorem nc_tree:Nc (.tup [.str "InvalidTree", .tup []]) 50:=by
 have ok:PyData.strOk ("InvalidTree":Str)=true:=by decide +kernel
 have l:(("InvalidTree":Str)).length < 90000:=by decide +kernel
 exact ⟨⟨by decide,by simp⟩,⟨l,ok⟩,⟨⟨by decide,by simp⟩,trivial⟩,trivial⟩
theorem law_c12 (hl:fs.length < 3000) (hT:M A.lt=some (.tab lamq)) (bv:BadV fs.length ss bad) (lb:LB M b N) (q:KQ A fs ss ws b E M x0):
  wb_law_c12 A E [x0,some (.ref b),some (grD fs ss ws),some (shp A fs ss),x4,x5,x6,x7,x8,x9,x10,x11,x12,some bad,x14] N:=by
 have big:=sizeLine_big
 have c13:=law_c13 A (N:=N) (x4:=x4) (x5:=x5) (x6:=x6) (x7:=x7) (x8:=x8) (x9:=x9) (x10:=x10) (x11:=x11) (x12:=x12) (x14:=x14) hl bv lb q
 simp only [wb_law_c12,pTry,↓pGen,↓pGenM,↓pGenMK,↓pForN,↓pLcN,↓piZipN,↓pDclr,↓pLcUO,↓pSrtSetO,↓pLstV,↓lvK_dct,↓pMakeD,↓rLenO_p,↓pOrX,↓rIsM_p,↓rMinL_p,↓rMax_p,↓rOr2_p,↓rOrs_p,↓pMakeKD,↓pDcU,↓zR,↓reduceIte,zV,wipeD,shp]
 refine ⟨lb.sub _ _ hT,by omega,fs,ss,_,rfl,hl,⟨⟨by decide,by simp⟩,Nc.mono _ _ _ (by decide) bv.nc,trivial⟩, .inr ⟨bv.pile,x_pile A ?_⟩⟩
 refine ⟨by omega,by omega,like_at A nc_pile rfl ?_⟩
 simp only [↓pGen,↓pGenM,↓pGenMK,↓pForN,↓pLcN,↓piZipN,↓pDclr,↓pLcUO,↓pSrtSetO,↓pLstV,↓lvK_dct,↓pMakeD,↓rLenO_p,↓pOrX,↓rIsM_p,↓rMinL_p,↓rMax_p,↓rOr2_p,↓rOrs_p,↓pMakeKD,↓pDcU,↓zR,↓reduceIte,zV,wipeD]
 exact c13
theorem law_c11 (hl:fs.length < 3000) (hT:M A.lt=some (.tab lamq)) (bv:BadV fs.length ss bad) {a:Addr} (lb:LB M b N) (ha:N a=none) (q:KQ A fs ss ws b E M x0):
  wb_law_c11 A E [x0,some (.ref b),some (grD fs ss ws),some (shp A fs ss),x4,x5,x6,x7,x8,x9,x10,x11,x12,some bad,some (.ref a)] (mput N a (.lst [.tup [.str "InvalidTree", .tup []], .tup [.str "InvalidTree", .tup []]])):=by
 have big:=sizeLine_big
 have c12:=law_c12 A (N:=N) (x4:=x4) (x5:=x5) (x6:=x6) (x7:=x7) (x8:=x8) (x9:=x9) (x10:=x10) (x11:=x11) (x12:=x12) (x14:=some (.ref a)) hl hT bv lb q
 simp only [wb_law_c11,↓pGen,↓pGenM,↓pGenMK,↓pForN,↓pLcN,↓piZipN,↓pDclr,↓pLcUO,↓pSrtSetO,↓pLstV,↓lvK_dct,↓pMakeD,↓rLenO_p,↓pOrX,↓rIsM_p,↓rMinL_p,↓rMax_p,↓rOr2_p,↓rOrs_p,↓pMakeKD,↓pDcU,↓zR,↓reduceIte,zV,wipeD,shp]
 refine fin_lst (M':=N) mput_same ha (sub_put ha) ?_
 refine ⟨by omega,by omega,by omega,by decide,by decide,by simp only [Int.toNat];omega,like_at A (.of ⟨⟨by decide,by simp⟩,nc_tree,nc_tree,trivial⟩) rfl ?_⟩
 simp only [↓pGen,↓pGenM,↓pGenMK,↓pForN,↓pLcN,↓piZipN,↓pDclr,↓pLcUO,↓pSrtSetO,↓pLstV,↓lvK_dct,↓pMakeD,↓rLenO_p,↓pOrX,↓rIsM_p,↓rMinL_p,↓rMax_p,↓rOr2_p,↓rOrs_p,↓pMakeKD,↓pDcU,↓zR,↓reduceIte,zV,wipeD]
 exact c12
theorem law_c10 (hl:fs.length < 3000) (hT:M A.lt=some (.tab lamq)) (bv:BadV fs.length ss bad) (lb:LB M b N) (q:KQ A fs ss ws b E M x0):
  wb_law_c10 A E [x0,some (.ref b),some (grD fs ss ws),some (shp A fs ss),x4,x5,x6,x7,x8,x9,x10,x11,x12,some bad,x14] N:=by
 have big:=sizeLine_big
 simp only [wb_law_c10,pTry,↓pGen,↓pGenM,↓pGenMK,↓pForN,↓pLcN,↓piZipN,↓pDclr,↓pLcUO,↓pSrtSetO,↓pLstV,↓lvK_dct,↓pMakeD,↓rLenO_p,↓pOrX,↓rIsM_p,↓rMinL_p,↓rMax_p,↓rOr2_p,↓rOrs_p,↓pMakeKD,↓pDcU,↓zR,↓reduceIte,zV,wipeD,shp]
 refine ⟨lb.sub _ _ hT, [],some (xTree A),bv.no hl,by simp,x_tree A ⟨by omega,fun a ha=>?_⟩⟩
 obtain ⟨m1,m2⟩:=lb.free ha
 refine ⟨tyD_own mput_same,(lb.new m1 m2).sub _ _ hT,fs,ss,_,rfl,hl,Nc.mono _ _ _ (by decide) bv.nc,by have:=bv.len;omega, .inr ⟨bv.tree,x_tree A ?_⟩⟩
 refine app_own mput_same (by simp only [List.length_singleton];omega) ?_
 rw [mput_mput]
 exact law_c11 A hl hT bv lb ha q
theorem law_c9 {rows:List D} {t:D} (k:TK fs ss rows t) (hf:NamesOk fs) (ho:OwnOk fs) (hT:M A.lt=some (.tab lamq)) (lb:LB M b N) (q:KQ A fs ss ws b E M x0):
  wb_law_c9 A E [x0,some (.ref b),some (grD fs ss ws),some (shp A fs ss),x4,some (.lst rows),some t,x7,x8,x9,x10,x11,x12,x13,x14] N:=by
 have big:=sizeLine_big
 have hl:fs.length < 3000:=by have:=k.f5;omega
 simp only [wb_law_c9,pTry,↓pGen,↓pGenM,↓pGenMK,↓pForN,↓pLcN,↓piZipN,↓pDclr,↓pLcUO,↓pSrtSetO,↓pLstV,↓lvK_dct,↓pMakeD,↓rLenO_p,↓pOrX,↓rIsM_p,↓rMinL_p,↓rMax_p,↓rOr2_p,↓rOrs_p,↓pMakeKD,↓pDcU,↓zR,↓reduceIte,zV,wipeD,shp]
 refine ⟨by omega,by omega,by omega,by omega,by omega,any_b A lb.self (by simp) (by simp) fun d hd N2 g2 _=>?_⟩
 have bv:=k.bad d hd
 have lb2:=lb.bgd g2
 refine ⟨lb2.sub _ _ hT,fs,ss,d,rfl,hf,ho,Nc.mono _ _ _ (by decide) bv.nc,fun _ _ _ _ _ e=>(by rw [bv.row] at e;cases e),fun _=>x_row A ?_⟩
 refine ⟨by omega,by omega,like_at A (nc_row bv.nc) rfl ?_⟩
 simp only [↓pGen,↓pGenM,↓pGenMK,↓pForN,↓pLcN,↓piZipN,↓pDclr,↓pLcUO,↓pSrtSetO,↓pLstV,↓lvK_dct,↓pMakeD,↓rLenO_p,↓pOrX,↓rIsM_p,↓rMinL_p,↓rMax_p,↓rOr2_p,↓rOrs_p,↓pMakeKD,↓pDcU,↓zR,↓reduceIte,zV,wipeD]
 exact law_c10 A hl hT bv lb2 q
theorem law_c8 {rows:List D} {t row:D} (k:TK fs ss rows t) (hr:row∈rows) (hf:NamesOk fs) (ho:OwnOk fs) (hT:M A.lt=some (.tab lamq)) (lb:LB M b N) (q:KQ A fs ss ws b E M x0):
  wb_law_c8 A E [x0,some (.ref b),some (grD fs ss ws),some (shp A fs ss),x4,some (.lst rows),some t,some row,x8,x9,x10,x11,x12,x13,x14] N:=by
 have big:=sizeLine_big
 have hl:fs.length < 3000:=by have:=k.f5;omega
 simp only [wb_law_c8,↓pGen,↓pGenM,↓pGenMK,↓pForN,↓pLcN,↓piZipN,↓pDclr,↓pLcUO,↓pSrtSetO,↓pLstV,↓lvK_dct,↓pMakeD,↓rLenO_p,↓pOrX,↓rIsM_p,↓rMinL_p,↓rMax_p,↓rOr2_p,↓rOrs_p,↓pMakeKD,↓pDcU,↓zR,↓reduceIte,zV,wipeD,shp]
 refine ⟨fs,ss,row,rfl,hf,ho,k.rnc (by decide) row hr,fun m s vs e h1 h2 a ha=>?_,fun e=>(by rw [(k.row row hr).is] at e;cases e)⟩
 obtain ⟨m1,m2⟩:=lb.free ha
 refine ⟨a,_,_,rfl,mput_same,?_⟩
 rw [mput_mput]
 exact law_c9 A k hf ho hT (lb.new m1 m2) q
theorem law_c7 {rows:List D} {t row r1:D} (k:TK fs ss rows t) (hr:row∈rows) (hf:NamesOk fs) (ho:OwnOk fs) (hT:M A.lt=some (.tab lamq)) {a:Addr} (lb:LB M b N) (ha:N a=some (.lst (rows.take 1))) (q:KQ A fs ss ws b E M x0):
  wb_law_c7 A E [x0,some (.ref b),some (grD fs ss ws),some (shp A fs ss),x4,some (.lst rows),some t,some row,x8,x9,x10,some (.ref a),some (.lst rows.reverse),x13,x14] N:=by
 have big:=sizeLine_big
 have l:=k.len
 have pos:1≤rows.length:=List.length_pos_iff.mpr k.ne
 have e1:cutL rows none (some 1)=rows.take 1:=cutL_hi (k:=1) pos
 have d1:Dat (.lst (rows.take 1)) 60:=Nc.dat _ 60 ⟨⟨by decide,by rw [List.length_take];omega⟩,Ncs_iff.mpr fun d hd=>k.rnc (by decide) d (List.mem_of_mem_take hd)⟩
 have d2:Dat (.lst rows.reverse) 60:=Nc.dat _ 60 ⟨⟨by decide,by rw [List.length_reverse];omega⟩,Ncs_iff.mpr fun d hd=>k.rnc (by decide) d (List.mem_reverse.mp hd)⟩
 have v:viw N (.ref a)= .lst (rows.take 1):=by
  show (match N a with | some (.lst xs)=>D.lst xs | _=>D.ref a)=_
  rw [ha]
 simp only [wb_law_c7,↓pGen,↓pGenM,↓pGenMK,↓pForN,↓pLcN,↓piZipN,↓pDclr,↓pLcUO,↓pSrtSetO,↓pLstV,↓lvK_dct,↓pMakeD,↓rLenO_p,↓pOrX,↓rIsM_p,↓rMinL_p,↓rMax_p,↓rOr2_p,↓rOrs_p,↓pMakeKD,↓pDcU,↓zR,↓reduceIte,zV,wipeD,shp,e1]
 refine ⟨by rw [v];exact d1,d1,?_⟩
 rw [v]
 simp only [viw,deq_self,↓pGen,↓pGenM,↓pGenMK,↓pForN,↓pLcN,↓piZipN,↓pDclr,↓pLcUO,↓pSrtSetO,↓pLstV,↓lvK_dct,↓pMakeD,↓rLenO_p,↓pOrX,↓rIsM_p,↓rMinL_p,↓rMax_p,↓rOr2_p,↓rOrs_p,↓pMakeKD,↓pDcU,↓zR,↓reduceIte,zV,wipeD,Bool.xor_true,Bool.not_true]
 refine ⟨d2,d2,?_⟩
 try simp only [deq_self,Bool.not_true,Bool.false_eq_true,if_false]
 exact law_c8 A k hr hf ho hT lb q
theorem law_c6 {rows:List D} {t row:D} (k:TK fs ss rows t) (hr:row∈rows) (hf:NamesOk fs) (ho:OwnOk fs) (hT:M A.lt=some (.tab lamq)) {a:Addr} (lb:LB M b N) (ha:N a=some (.lst (rows.take 1))) (q:KQ A fs ss ws b E M x0):
  wb_law_c6 A E [x0,some (.ref b),some (grD fs ss ws),some (shp A fs ss),x4,some (.lst rows),some t,some row,x8,x9,x10,some (.ref a),x12,x13,x14] N:=by
 have big:=sizeLine_big
 have l:=k.len
 have hl:fs.length < 3000:=by have:=k.f5;omega
 simp only [wb_law_c6,↓pGen,↓pGenM,↓pGenMK,↓pForN,↓pLcN,↓piZipN,↓pDclr,↓pLcUO,↓pSrtSetO,↓pLstV,↓lvK_dct,↓pMakeD,↓rLenO_p,↓pOrX,↓rIsM_p,↓rMinL_p,↓rMax_p,↓rOr2_p,↓rOrs_p,↓pMakeKD,↓pDcU,↓zR,↓reduceIte,zV,wipeD,shp]
 refine ⟨fs,ss,t,rfl,hl,Nc.mono _ _ _ (by decide) k.nc,by rw [k.lv];omega, .inl ⟨k.tree,k.tn,rows.reverse,none,k.turn.gen,by rw [List.length_reverse];omega,?_⟩⟩
 exact law_c7 A (r1:=row) k hr hf ho hT lb ha q
theorem law_c5 {rows:List D} {t row:D} (k:TK fs ss rows t) (hr:row∈rows) (hf:NamesOk fs) (ho:OwnOk fs) (hT:M A.lt=some (.tab lamq)) (lb:LB M b N) (q:KQ A fs ss ws b E M x0):
  wb_law_c5 A E [x0,some (.ref b),some (grD fs ss ws),some (shp A fs ss),x4,some (.lst rows),some t,some row,x8,x9,x10,x11,x12,x13,x14] N:=by
 have big:=sizeLine_big
 have l:=k.len
 have hl:fs.length < 3000:=by have:=k.f5;omega
 simp only [wb_law_c5,↓pGen,↓pGenM,↓pGenMK,↓pForN,↓pLcN,↓piZipN,↓pDclr,↓pLcUO,↓pSrtSetO,↓pLstV,↓lvK_dct,↓pMakeD,↓rLenO_p,↓pOrX,↓rIsM_p,↓rMinL_p,↓rMax_p,↓rOr2_p,↓rOrs_p,↓pMakeKD,↓pDcU,↓zR,↓reduceIte,zV,wipeD,shp]
 refine ⟨by omega,fun a ha=>⟨rows,none,k.gen,?_⟩⟩
 obtain ⟨m1,m2⟩:=lb.free ha
 obtain ⟨r0,rs,e⟩:=List.exists_cons_of_ne_nil k.ne
 subst e
 simp only [forG_cons,↓pGen,↓pGenM,↓pGenMK,↓pForN,↓pLcN,↓piZipN,↓pDclr,↓pLcUO,↓pSrtSetO,↓pLstV,↓lvK_dct,↓pMakeD,↓rLenO_p,↓pOrX,↓rIsM_p,↓rMinL_p,↓rMax_p,↓rOr2_p,↓rOrs_p,↓pMakeKD,↓pDcU,↓zR,↓reduceIte,zV,wipeD]
 refine ⟨tyD_own mput_same,app_own mput_same (by simp only [List.length_nil];omega) ?_⟩
 rw [mput_mput]
 try simp only [seqE_nx]
 exact law_c6 A k hr hf ho hT (lb.new m1 m2) mput_same q
theorem law_c4 {t row:D} {r0:D} {rs:List D} (k:TK fs ss (r0 :: rs) t) (hr:row∈r0 :: rs) (hf:NamesOk fs) (ho:OwnOk fs) (hT:M A.lt=some (.tab lamq)) (lb:LB M b N) (q:KQ A fs ss ws b E M x0):
  wb_law_c4 A E [x0,some (.ref b),some (grD fs ss ws),some (shp A fs ss),x4,some (.lst (r0 :: rs)),some t,some row,x8,some (chainL r0 rs),x10,x11,x12,x13,x14] N:=by
 have big:=sizeLine_big
 have l:=k.len
 rw [List.length_cons] at l
 have hl:fs.length < 3000:=by have:=k.f5;omega
 have ht:Nc (.tup (r0 :: rs)) 50:=⟨⟨by decide,by rw [List.length_cons];omega⟩,Ncs_iff.mpr (k.rnc (by decide))⟩
 have hc:Nc (chainL r0 rs) 50:=Nc.mono _ _ _ (by omega) (chain_nc (m:=0) rs (k.rnc (n:=2) (by decide) r0 List.mem_cons_self) (by decide) fun y hy=>k.rnc (by decide) y (List.mem_cons_of_mem _ hy))
 simp only [wb_law_c4,↓pGen,↓pGenM,↓pGenMK,↓pForN,↓pLcN,↓piZipN,↓pDclr,↓pLcUO,↓pSrtSetO,↓pLstV,↓lvK_dct,↓pMakeD,↓rLenO_p,↓pOrX,↓rIsM_p,↓rMinL_p,↓rMax_p,↓rOr2_p,↓rOrs_p,↓pMakeKD,↓pDcU,↓zR,↓reduceIte,zV,wipeD,shp]
 refine ⟨fs,ss,t,rfl,hl,Nc.mono _ _ _ (by decide) k.nc,by rw [k.lv,List.length_cons];omega, .inl ⟨k.tree,k.tn,?_⟩⟩
 refine ⟨fs,ss,_,rfl,hl,Nc.mono _ _ _ (by decide) k.rsnc, .inl ⟨r0,rs, .inl rfl,k.pile,by omega,?_⟩⟩
 refine ⟨fs,ss,_,rfl,hl,ht, .inl ⟨r0,rs, .inr rfl,k.pile,by omega,?_⟩⟩
 refine ⟨by omega,t,rfl,k.tn,by omega,like_at A (.of ⟨⟨by decide,by simp⟩,Nc.mono _ _ _ (by decide) k.turn.nc,hc,hc,trivial⟩) rfl ?_⟩
 simp only [↓pGen,↓pGenM,↓pGenMK,↓pForN,↓pLcN,↓piZipN,↓pDclr,↓pLcUO,↓pSrtSetO,↓pLstV,↓lvK_dct,↓pMakeD,↓rLenO_p,↓pOrX,↓rIsM_p,↓rMinL_p,↓rMax_p,↓rOr2_p,↓rOrs_p,↓pMakeKD,↓pDcU,↓zR,↓reduceIte,zV,wipeD]
 exact law_c5 A k hr hf ho hT lb q
theorem law_loop {r0:D} {E:ED} {v0 v1 v2 v3 v4 v5 v6 v7 v8 v11 v12 v13 v14:Option D}:∀(xs ys:List D) {M:Mem} {o:Option D} (_:∀o,E.nx [v0,v1,v2,v3,v4,v5,v6,v7,v8,some (chainL r0 (ys ++ xs)),o,v11,v12,v13,v14] M),
  forR (gN 10) (wAsg (wTup (wCons (wVar 9) (wCons (wVar 10) wNil))) (gN 9)) E xs [v0,v1,v2,v3,v4,v5,v6,v7,v8,some (chainL r0 ys),o,v11,v12,v13,v14] M
 | [],ys,M,o,q=>by
  rw [List.append_nil] at q
  exact q o
 | z :: zs,ys,M,o,q=>by
  have big:=sizeLine_big
  simp only [forR,↓pGen,↓pGenM,↓pGenMK,↓pForN,↓pLcN,↓piZipN,↓pDclr,↓pLcUO,↓pSrtSetO,↓pLstV,↓lvK_dct,↓pMakeD,↓rLenO_p,↓pOrX,↓rIsM_p,↓rMinL_p,↓rMax_p,↓rOr2_p,↓rOrs_p,↓pMakeKD,↓pDcU,↓zR,↓reduceIte,zV,wipeD]
  refine ⟨by omega,?_⟩
  rw [← chain_snoc]
  exact law_loop zs (ys ++ [z]) fun o=>by rw [List.append_assoc];exact q o
theorem law_c3 {t row:D} {r0:D} {rs:List D} (k:TK fs ss (r0 :: rs) t) (hr:row∈r0 :: rs) (hf:NamesOk fs) (ho:OwnOk fs) (hT:M A.lt=some (.tab lamq)) (lb:LB M b N) (q:KQ A fs ss ws b E M x0):
  wb_law_c3 A E [x0,some (.ref b),some (grD fs ss ws),some (shp A fs ss),x4,some (.lst (r0 :: rs)),some t,some row,x8,x9,x10,x11,x12,x13,x14] N:=by
 have big:=sizeLine_big
 simp only [wb_law_c3,↓pGen,↓pGenM,↓pGenMK,↓pForN,↓pLcN,↓piZipN,↓pDclr,↓pLcUO,↓pSrtSetO,↓pLstV,↓lvK_dct,↓pMakeD,↓rLenO_p,↓pOrX,↓rIsM_p,↓rMinL_p,↓rMax_p,↓rOr2_p,↓rOrs_p,↓pMakeKD,↓pDcU,↓zR,↓reduceIte,zV,wipeD,shp]
 refine law_loop (r0:=r0) rs [] fun o=>?_
 rw [List.nil_append,seqE_nx]
 exact law_c4 A k hr hf ho hT lb q
theorem fz_dct {a:Addr} {ks:List Key} {xs:List D} {M M':Mem} (e:M a=some (.dct ks xs)) (n:M' a=none) (h:∀b o,M' b=some o→M b=some o):Fz (.ref a) M (.dct ks xs) M':=⟨h,fun K H F v R g=>by
  obtain ⟨kvs,h1,h2,h3⟩:=R.get e
  exact ⟨a,kvs,g, .inl h1,by rw [uni_get (R.fr e)];exact n,h2,DVs.down (sub_none h) _ _ h3⟩⟩
theorem val_mem:∀{ks:List Key} {vs:List D} {k:Key},k∈ks→vs.length=ks.length→∃v,valD ks vs k=some v∧v∈vs
 | [],_,_,h,_=>nomatch h
 | j :: ks, [],_,h,hl=>nomatch hl
 | j :: ks,v :: vs,k,h,hl=>by
  show ∃w,(if j=k then some v else valD ks vs k)=some w∧w∈v :: vs
  by_cases e:j=k
  ·rw [if_pos e];exact ⟨v,rfl,List.mem_cons_self⟩
  ·rw [if_neg e]
   have hk:k∈ks:=(List.mem_cons.mp h).resolve_left fun z=>e z.symm
   rw [List.length_cons,List.length_cons] at hl
   obtain ⟨w,h1,h2⟩:=val_mem hk (by omega:vs.length=ks.length)
   exact ⟨w,h1,List.mem_cons_of_mem _ h2⟩
theorem law_c2 {t row:D} {rows:List D} (k:TK fs ss rows t) (hr:row∈rows) (hf:NamesOk fs) (ho:OwnOk fs) (hT:M A.lt=some (.tab lamq)) (lb:LB M b N) (q:KQ A fs ss ws b E M x0):
  wb_law_c2 A E [x0,some (.ref b),some (grD fs ss ws),some (shp A fs ss),x4,some (.lst rows),some t,some row,x8,x9,x10,x11,x12,x13,x14] N:=by
 have big:=sizeLine_big
 have l:=k.len
 have f5:=k.f5
 have hl:fs.length < 3000:=by omega
 obtain ⟨s,vs,e,hs,hv,hw⟩:=(k.row row hr).ex
 have rnc:=k.rnc (n:=50) (by decide) row hr
 have ris:=(k.row row hr).is
 generalize momI row=m at e
 subst e
 have ek: [D.str "moment",D.str "source"] ++ fs.map D.str=(cols fs).map D.str:=rfl
 have ec:cutL [D.int m,D.str s,D.tup vs] none (some 2)= [D.int m,D.str s]:=rfl
 have cl:(cols fs).length=fs.length + 2:=rfl
 have okM:PyData.strOk ("moment":Str)=true:=by decide +kernel
 have okS:PyData.strOk ("source":Str)=true:=by decide +kernel
 simp only [wb_law_c2,↓pGen,↓pGenM,↓pGenMK,↓pForN,↓pLcN,↓piZipN,↓pDclr,↓pLcUO,↓pSrtSetO,↓pLstV,↓lvK_dct,↓pMakeD,↓rLenO_p,↓pOrX,↓rIsM_p,↓rMinL_p,↓rMax_p,↓rOr2_p,↓rOrs_p,↓pMakeKD,↓pDcU,↓zR,↓reduceIte,zV,wipeD,shp,grD,ek,ec,keysD_strs]
 refine ⟨by omega,by rw [List.length_map];omega,by first | omega | (simp;omega),keys_ndx (cols_ndx hf ho),by rw [List.length_map,cl,List.length_append,hv];simp;omega,by rw [List.length_map,cl];omega,?_⟩
 refine ⟨fs,ss,_,rfl,hf,ho,rnc,fun m1 s1 vs1 e1 h1 h2 a ha=>?_,fun e=>(by rw [ris] at e;cases e)⟩
 cases e1
 have up:∀c o,N c=some o→mput N a (shtO fs m s vs) c=some o:=sub_put ha
 refine ⟨.dct ((cols fs).map Sum.inr) (.int m :: .str s :: vs),N,fz_dct mput_same ha up,rows,none,k.gen,by omega,by omega,by omega,?_⟩
 have lk:LikeG 50 (.dct ((cols fs).map Sum.inr) (.int m :: .str s :: vs)):=by
  refine .inr (.inr (.inr ⟨_,_,48,rfl,rfl,by rw [List.length_map,cl];omega,?_,fun x hx=>?_⟩))
  ·rw [List.map_map]
   refine Ncs_iff.mpr fun d hd=>?_
   obtain ⟨z,hz,rfl⟩:=List.mem_map.mp hd
   show Nc (.str z) 48
   rcases List.mem_cons.mp hz with rfl | hz
   ·exact ⟨by decide +kernel,okM⟩
   ·rcases List.mem_cons.mp hz with rfl | hz
    ·exact ⟨by decide +kernel,okS⟩
    ·exact made_nc okLET (hf.ok z hz)
  ·obtain ⟨v,h1,h2⟩:=val_mem (vs:= .int m :: .str s :: vs) hx (by simp [cl,hv])
   refine ⟨v,h1, .of ?_⟩
   rcases List.mem_cons.mp h2 with rfl | h2
   ·trivial
   ·rcases List.mem_cons.mp h2 with rfl | h2
    ·exact made_nc okLET (k.s.ok s hs)
    ·exact (hw v h2).nc
 refine like_at A (.inr (.inl ⟨_,rfl,by simp,fun x hx=>?_⟩)) rfl ?_
 ·rcases List.mem_cons.mp hx with rfl | hx
  ·exact lk
  ·rw [List.mem_singleton.mp hx]
   exact .of (Nc.mono _ _ _ (by decide) k.rsnc)
 simp only [↓pGen,↓pGenM,↓pGenMK,↓pForN,↓pLcN,↓piZipN,↓pDclr,↓pLcUO,↓pSrtSetO,↓pLstV,↓lvK_dct,↓pMakeD,↓rLenO_p,↓pOrX,↓rIsM_p,↓rMinL_p,↓rMax_p,↓rOr2_p,↓rOrs_p,↓pMakeKD,↓pDcU,↓zR,↓reduceIte,zV,wipeD]
 obtain ⟨r0,rs,e⟩:=List.exists_cons_of_ne_nil k.ne
 subst e
 exact law_c3 A k hr hf ho hT lb q
theorem law_c1 {rows:List D} {many:Nat} (gr:GrOk 4 3 fs ss ws) (hrw:RowsOk fs.length ss many rows) (hm:1≤many) (hm2:many≤10) (hT:M A.lt=some (.tab lamq)) (lb:LB M b N) (q:KQ A fs ss ws b E M x0):
  wb_law_c1 A E [x0,some (.ref b),some (grD fs ss ws),some (shp A fs ss),x4,some (.lst rows),x6,x7,x8,x9,x10,x11,x12,x13,x14] N:=by
 have big:=sizeLine_big
 have f5:=gr.f.hi
 have hl:=hrw.len
 have ne:rows≠ []:=fun e=>by rw [e] at hl;simp at hl;omega
 have fl:rows.flatMap leavesD=rows:=leaf_flat fun d hd=>(hrw.row d hd).leaf
 obtain ⟨o,eo,go⟩:=lb.bag
 simp only [wb_law_c1,↓pGen,↓pGenM,↓pGenMK,↓pForN,↓pLcN,↓piZipN,↓pDclr,↓pLcUO,↓pSrtSetO,↓pLstV,↓lvK_dct,↓pMakeD,↓rLenO_p,↓pOrX,↓rIsM_p,↓rMinL_p,↓rMax_p,↓rOr2_p,↓rOrs_p,↓pMakeKD,↓pDcU,↓zR,↓reduceIte,zV,wipeD]
 refine ⟨b,rows,o,rfl,eo,go,ne,by omega,Ncs_iff.mpr fun d hd=>(hrw.row d hd).nc gr.s (by omega),fun t ht hn o2 g2=>?_⟩
 have lb2:=lb.put g2
 have k:TK fs ss rows t:=⟨hrw.row,hrw.nd,ne,by omega,ht.trans fl,hn,f5,gr.s⟩
 refine any_b A lb2.self ne (by omega) fun row hr N3 g3 _=>?_
 exact law_c2 A k hr gr.f gr.o hT (lb2.bgd g3) q
end
theorem rd_law (A:Ad):∀ds M Q Xc,sp_law A ds M Q Xc→ds.length=P_law.length∧RD (wb_law A) Q Xc (startD N_law ds) M:=by
 rintro _ M Q Xc ⟨ns,d0,rfl,hd,hT,q⟩
 have hT:M A.lt=some (.tab lamq):=hT _ List.mem_cons_self
 refine ⟨rfl,?_⟩
 rw [st_law]
 have big:=sizeLine_big
 simp only [RD,wb_law,↓pGen,↓pGenM,↓pGenMK,↓pForN,↓pLcN,↓piZipN,↓pDclr,↓pLcUO,↓pSrtSetO,↓pLstV,↓lvK_dct,↓pMakeD,↓rLenO_p,↓pOrX,↓rIsM_p,↓rMinL_p,↓rMax_p,↓rOr2_p,↓rOrs_p,↓pMakeKD,↓pDcU,↓zR,↓reduceIte,zV,wipeD]
 refine ⟨ns,d0,rfl,hd,fun b o hb hg=>?_⟩
 have hne:A.lt≠b:=fun e=>by rw [← e,hT] at hb;cases hb
 have lb0:LB M b (mput M b o):=⟨⟨o,mput_same,hg⟩,sub_put hb,hb⟩
 refine ⟨b,4,3,o,rfl,mput_same,hg,by decide,by decide,by decide,by decide,fun fs ss ws gr o2 g2=>?_⟩
 have lb1:=lb0.put g2
 generalize mput (mput M b o) b o2=N0 at lb1 ⊢
 refine ⟨fs,ss,ws,rfl,gr.f,gr.s,gr.o,?_⟩
 simp only [wb_law_c0,↓pGen,↓pGenM,↓pGenMK,↓pForN,↓pLcN,↓piZipN,↓pDclr,↓pLcUO,↓pSrtSetO,↓pLstV,↓lvK_dct,↓pMakeD,↓rLenO_p,↓pOrX,↓rIsM_p,↓rMinL_p,↓rMax_p,↓rOr2_p,↓rOrs_p,↓pMakeKD,↓pDcU,↓zR,↓reduceIte,zV,wipeD]
 refine ⟨by decide,?_⟩
 refine forR_rng (fun _ ds N=>∃r:SD,r.length=11∧LB M b N∧ds=some d0 :: some (.ref b) :: some (grD fs ss ws) :: some (shp A fs ss) :: r) ?_ ?_ ⟨_,rfl,lb1,rfl⟩
 ·rintro ds N ⟨r,hr,lb,rfl⟩
  simp only [seqE_nx,↓pGen,↓pGenM,↓pGenMK,↓pForN,↓pLcN,↓piZipN,↓pDclr,↓pLcUO,↓pSrtSetO,↓pLstV,↓lvK_dct,↓pMakeD,↓rLenO_p,↓pOrX,↓rIsM_p,↓rMinL_p,↓rMax_p,↓rOr2_p,↓rOrs_p,↓pMakeKD,↓pDcU,↓zR,↓reduceIte,zV,wipeD]
  exact fin_dn (M':=M) lb.sub q
 ·rintro k _ ds N R hR ⟨r,hr,lb,rfl⟩
  obtain ⟨x4,x5,x6,x7,x8,x9,x10,x11,x12,x13,x14,rfl⟩:∃x4 x5 x6 x7 x8 x9 x10 x11 x12 x13 x14,r= [x4,x5,x6,x7,x8,x9,x10,x11,x12,x13,x14]:=by
   rcases r with _ | ⟨a,_ | ⟨b,_ | ⟨c,_ | ⟨d,_ | ⟨e,_ | ⟨f,_ | ⟨g,_ | ⟨h,_ | ⟨i,_ | ⟨j,_ | ⟨l,_ | ⟨m,r⟩⟩⟩⟩⟩⟩⟩⟩⟩⟩⟩⟩
   case cons.cons.cons.cons.cons.cons.cons.cons.cons.cons.cons.nil=>exact ⟨_,_,_,_,_,_,_,_,_,_,_,rfl⟩
   all_goals
    simp only [List.length_cons,List.length_nil] at hr
    omega
  simp only [↓pGen,↓pGenM,↓pGenMK,↓pForN,↓pLcN,↓piZipN,↓pDclr,↓pLcUO,↓pSrtSetO,↓pLstV,↓lvK_dct,↓pMakeD,↓rLenO_p,↓pOrX,↓rIsM_p,↓rMinL_p,↓rMax_p,↓rOr2_p,↓rOrs_p,↓pMakeKD,↓pDcU,↓zR,↓reduceIte,zV,wipeD]
  refine pull_b A lb.self (by decide) (by decide) fun v hv N2 g2 _=>?_
  have lb2:=lb.bgd g2
  obtain ⟨o3,e3,g3⟩:=lb2.bag
  have ev:(1:Int) + (v:Nat)=((v + 1:Nat):Int):=by omega
  simp only [↓pGen,↓pGenM,↓pGenMK,↓pForN,↓pLcN,↓piZipN,↓pDclr,↓pLcUO,↓pSrtSetO,↓pLstV,↓lvK_dct,↓pMakeD,↓rLenO_p,↓pOrX,↓rIsM_p,↓rMinL_p,↓rMax_p,↓rOr2_p,↓rOrs_p,↓pMakeKD,↓pDcU,↓zR,↓reduceIte,zV,wipeD,ev]
  refine ⟨b,fs,ss,ws,_,o3,4,3,rfl,gr,e3,g3,by omega,by omega,fun rows hrw o4 g4=>?_⟩
  rw [Int.toNat_natCast] at hrw
  refine law_c1 A (many:=v + 1) gr hrw (by omega) (by omega) hT (lb2.put g4) fun r hr N3 lb3=>?_
  exact hR _ _ ⟨r,hr,lb3,rfl⟩
end DL.K05
namespace DL.K05
open PySem PySem.Spec PyProof.Rows L2 RZ
def mkA (K:PySem.W.Frag):Ad:=⟨He.ga K "is_number",
 He.ga K "is_listed",
 He.ga K "is_made_of",
 He.ga K "is_plain_name",
 He.ga K "is_plain_word",
 He.ga K "unlike",
 He.ga K "are_names",
 He.ga K "leaves",
 He.ma K (He.ga K "Shape") "__init__",
 prG K (He.ma K (He.ga K "Shape") "columns"),
 He.ma K (He.ga K "Shape") "is_row",
 He.ma K (He.ga K "Shape") "is_pile",
 He.ma K (He.ga K "Shape") "is_tree",
 He.ma K (He.ga K "Shape") "need_row",
 He.ma K (He.ga K "Shape") "need_pile",
 He.ma K (He.ga K "Shape") "need_tree",
 He.ma K (He.ga K "Shape") "sheet",
 He.ma K (He.ga K "Shape") "rows_in",
 He.ga K "turned_pair",
 He.ma K (He.ga K "Shape") "turned",
 He.ma K (He.ga K "Shape") "chain",
 He.ga K "_law_opened",
 He.ga K "_law_pull",
 He.ga K "_law_any",
 He.ga K "_law_mixed",
 He.ga K "_law_like",
 He.ga K "_law_field",
 He.ga K "_law_stems",
 He.ga K "_law_words",
 He.ga K "_law_ground",
 He.ga K "_law_shape",
 He.ga K "_law_row",
 He.ga K "_law_rows",
 He.ga K "_law_tree",
 He.ga K "_law_turned",
 He.ga K "law",
 He.ga K "Shape",
 He.ma K (He.ga K "Shape") "columns",
 He.ga K "InvalidRow",
 He.ma K (He.ga K "InvalidRow") "__init__",
 He.ga K "InvalidPile",
 He.ma K (He.ga K "InvalidPile") "__init__",
 He.ga K "InvalidTree",
 He.ma K (He.ga K "InvalidTree") "__init__",
 He.ga K "_law_try",
 He.ga K "SightError",
 He.ga K "Missing",
 He.ga K "NothingLeft",
 (tbZ K (He.ga K "law")).1,
 (tbZ K (He.ga K "law")).2⟩
def fbs (file:Str) (K:PySem.W.Frag):List Bool:= [bNone K "all",
 bNone K "any",
 bNone K "bool",
 bNone K "dict",
 bNone K "int",
 bNone K "isinstance",
 bNone K "len",
 bNone K "list",
 bNone K "range",
 bNone K "set",
 bNone K "str",
 bNone K "tuple",
 bNone K "zip",
 bCon K "DIGITS" k_DIGITS,
 bCon K "LETTERS" k_LETTERS,
 bCon K "MAX_WORD" k_MAX_WORD,
 bCon K "OWN_COLUMNS" k_OWN_COLUMNS,
 bGlo K "is_number",
 bGlo K "is_listed",
 bGlo K "is_made_of",
 bGlo K "is_plain_name",
 bGlo K "is_plain_word",
 bGlo K "unlike",
 bGlo K "are_names",
 bGlo K "leaves",
 bGlo K "turned_pair",
 bGlo K "_law_opened",
 bGlo K "_law_pull",
 bGlo K "_law_any",
 bGlo K "_law_mixed",
 bGlo K "_law_like",
 bGlo K "_law_field",
 bGlo K "_law_stems",
 bGlo K "_law_words",
 bGlo K "_law_ground",
 bGlo K "_law_shape",
 bGlo K "_law_row",
 bGlo K "_law_rows",
 bGlo K "_law_tree",
 bGlo K "_law_turned",
 bGlo K "law",
 bNst K (mkA K).c_InvalidTree,
 bGlo K "Shape",
 bCls K (mkA K).c_Shape,
 bNo K (mkA K).c_Shape "own_fields",
 bNo K (mkA K).c_Shape "own_sources",
 bMk K (mkA K).c_Shape (mkA K).f_Shape___init__,
 bMeth K (mkA K).c_Shape "is_row" (mkA K).f_Shape_is_row,
 bMeth K (mkA K).c_Shape "is_pile" (mkA K).f_Shape_is_pile,
 bMeth K (mkA K).c_Shape "is_tree" (mkA K).f_Shape_is_tree,
 bMeth K (mkA K).c_Shape "need_row" (mkA K).f_Shape_need_row,
 bMeth K (mkA K).c_Shape "need_pile" (mkA K).f_Shape_need_pile,
 bMeth K (mkA K).c_Shape "need_tree" (mkA K).f_Shape_need_tree,
 bMeth K (mkA K).c_Shape "sheet" (mkA K).f_Shape_sheet,
 bMeth K (mkA K).c_Shape "rows_in" (mkA K).f_Shape_rows_in,
 bMeth K (mkA K).c_Shape "turned" (mkA K).f_Shape_turned,
 bMeth K (mkA K).c_Shape "chain" (mkA K).f_Shape_chain,
 bProp K (mkA K).c_Shape "columns" (mkA K).q_Shape_columns (mkA K).f_Shape_columns,
 bCv K (mkA K).c_Shape "FIELDS" (.int 5),
 bCv K (mkA K).c_Shape "SOURCES" (.int 5),
 bNone K "super",
 bGlo K "InvalidRow",
 bExC K (mkA K).c_InvalidRow (mkA K).f_InvalidRow___init__ file,
 bNo K (mkA K).c_InvalidRow "given",
 bNo K (mkA K).c_InvalidRow "tag",
 bGlo K "InvalidPile",
 bExC K (mkA K).c_InvalidPile (mkA K).f_InvalidPile___init__ file,
 bNo K (mkA K).c_InvalidPile "tag",
 bGlo K "InvalidTree",
 bExC K (mkA K).c_InvalidTree (mkA K).f_InvalidTree___init__ file,
 bNo K (mkA K).c_InvalidTree "tag",
 bGlo K "SightError",
 bGlo K "Missing",
 bGlo K "NothingLeft",
 bExm K (mkA K).c_InvalidRow (xcs (mkA K)),
 bExm K (mkA K).c_InvalidPile (xcs (mkA K)),
 bExm K (mkA K).c_InvalidTree (xcs (mkA K)),
 bGlo K "_law_try"]
def z_is_number:DfR:=⟨fun K=>(mkA K).f_is_number,"is_number","is_number",s_is_number, []⟩
def z_is_listed:DfR:=⟨fun K=>(mkA K).f_is_listed,"is_listed","is_listed",s_is_listed, []⟩
def z_is_made_of:DfR:=⟨fun K=>(mkA K).f_is_made_of,"is_made_of","is_made_of",s_is_made_of, []⟩
def z_is_plain_name:DfR:=⟨fun K=>(mkA K).f_is_plain_name,"is_plain_name","is_plain_name",s_is_plain_name, []⟩
def z_is_plain_word:DfR:=⟨fun K=>(mkA K).f_is_plain_word,"is_plain_word","is_plain_word",s_is_plain_word, []⟩
def z_unlike:DfR:=⟨fun K=>(mkA K).f_unlike,"unlike","unlike",s_unlike, []⟩
def z_are_names:DfR:=⟨fun K=>(mkA K).f_are_names,"are_names","are_names",s_are_names, []⟩
def z_leaves:DfR:=⟨fun K=>(mkA K).f_leaves,"leaves","leaves",s_leaves, []⟩
def z_Shape___init__:DfR:=⟨fun K=>(mkA K).f_Shape___init__,"__init__","Shape.__init__",s_Shape___init__, []⟩
def z_Shape_columns:DfR:=⟨fun K=>(mkA K).f_Shape_columns,"columns","Shape.columns",s_Shape_columns, []⟩
def z_Shape_is_row:DfR:=⟨fun K=>(mkA K).f_Shape_is_row,"is_row","Shape.is_row",s_Shape_is_row, []⟩
def z_Shape_is_pile:DfR:=⟨fun K=>(mkA K).f_Shape_is_pile,"is_pile","Shape.is_pile",s_Shape_is_pile, []⟩
def z_Shape_is_tree:DfR:=⟨fun K=>(mkA K).f_Shape_is_tree,"is_tree","Shape.is_tree",s_Shape_is_tree, []⟩
def z_Shape_need_row:DfR:=⟨fun K=>(mkA K).f_Shape_need_row,"need_row","Shape.need_row",s_Shape_need_row, []⟩
def z_Shape_need_pile:DfR:=⟨fun K=>(mkA K).f_Shape_need_pile,"need_pile","Shape.need_pile",s_Shape_need_pile, []⟩
def z_Shape_need_tree:DfR:=⟨fun K=>(mkA K).f_Shape_need_tree,"need_tree","Shape.need_tree",s_Shape_need_tree, []⟩
def z_Shape_sheet:DfR:=⟨fun K=>(mkA K).f_Shape_sheet,"sheet","Shape.sheet",s_Shape_sheet, []⟩
def z_Shape_rows_in:DfR:=⟨fun K=>(mkA K).f_Shape_rows_in,"rows_in","Shape.rows_in",s_Shape_rows_in, []⟩
def z_turned_pair:DfR:=⟨fun K=>(mkA K).f_turned_pair,"turned_pair","turned_pair",s_turned_pair, []⟩
def z_Shape_turned:DfR:=⟨fun K=>(mkA K).f_Shape_turned,"turned","Shape.turned",s_Shape_turned, []⟩
def z_Shape_chain:DfR:=⟨fun K=>(mkA K).f_Shape_chain,"chain","Shape.chain",s_Shape_chain, []⟩
def z__law_opened:DfR:=⟨fun K=>(mkA K).f__law_opened,"_law_opened","_law_opened",s__law_opened, []⟩
def z__law_pull:DfR:=⟨fun K=>(mkA K).f__law_pull,"_law_pull","_law_pull",s__law_pull, []⟩
def z__law_any:DfR:=⟨fun K=>(mkA K).f__law_any,"_law_any","_law_any",s__law_any, []⟩
def z__law_mixed:DfR:=⟨fun K=>(mkA K).f__law_mixed,"_law_mixed","_law_mixed",s__law_mixed, []⟩
def z__law_like:DfR:=⟨fun K=>(mkA K).f__law_like,"_law_like","_law_like",s__law_like, []⟩
def z__law_field:DfR:=⟨fun K=>(mkA K).f__law_field,"_law_field","_law_field",s__law_field, []⟩
def z__law_stems:DfR:=⟨fun K=>(mkA K).f__law_stems,"_law_stems","_law_stems",s__law_stems, []⟩
def z__law_words:DfR:=⟨fun K=>(mkA K).f__law_words,"_law_words","_law_words",s__law_words, []⟩
def z__law_ground:DfR:=⟨fun K=>(mkA K).f__law_ground,"_law_ground","_law_ground",s__law_ground, []⟩
def z__law_shape:DfR:=⟨fun K=>(mkA K).f__law_shape,"_law_shape","_law_shape",s__law_shape, []⟩
def z__law_row:DfR:=⟨fun K=>(mkA K).f__law_row,"_law_row","_law_row",s__law_row, []⟩
def z__law_rows:DfR:=⟨fun K=>(mkA K).f__law_rows,"_law_rows","_law_rows",s__law_rows, []⟩
def z__law_tree:DfR:=⟨fun K=>(mkA K).f__law_tree,"_law_tree","_law_tree",s__law_tree, []⟩
def z__law_turned:DfR:=⟨fun K=>(mkA K).f__law_turned,"_law_turned","_law_turned",s__law_turned, []⟩
def z_law:DfR:=⟨fun K=>(mkA K).f_law,"law","law",s_law, []⟩
def z_InvalidRow___init__:DfR:=⟨fun K=>(mkA K).f_InvalidRow___init__,"__init__","InvalidRow.__init__",s_InvalidRow___init__, ["__class__"]⟩
def z_InvalidPile___init__:DfR:=⟨fun K=>(mkA K).f_InvalidPile___init__,"__init__","InvalidPile.__init__",s_InvalidPile___init__, ["__class__"]⟩
def z_InvalidTree___init__:DfR:=⟨fun K=>(mkA K).f_InvalidTree___init__,"__init__","InvalidTree.__init__",s_InvalidTree___init__, ["__class__"]⟩
def z__law_try:DfR:=⟨fun K=>(mkA K).f__law_try,"_law_try","_law_try",s__law_try, []⟩
def fns:List DfR:= [z_is_number,z_is_listed,z_is_made_of,z_is_plain_name,z_is_plain_word,z_unlike,z_are_names,z_leaves,z_Shape___init__,z_Shape_columns,z_Shape_is_row,z_Shape_is_pile,z_Shape_is_tree,z_Shape_need_row,z_Shape_need_pile,z_Shape_need_tree,z_Shape_sheet,z_Shape_rows_in,z_turned_pair,z_Shape_turned,z_Shape_chain,z__law_opened,z__law_pull,z__law_any,z__law_mixed,z__law_like,z__law_field,z__law_stems,z__law_words,z__law_ground,z__law_shape,z__law_row,z__law_rows,z__law_tree,z__law_turned,z_law,z_InvalidRow___init__,z_InvalidPile___init__,z_InvalidTree___init__,z__law_try]
def tfs (K:PySem.W.Frag):List (Addr×Addr):= [((mkA K).lc,(mkA K).lt)]
def nms:List Str:=(["is_number","is_listed","is_made_of","is_plain_name","is_plain_word","unlike","are_names","leaves","turned_pair","_law_opened","_law_pull","_law_any","_law_mixed","_law_like","_law_field","_law_stems","_law_words","_law_ground","_law_shape","_law_row","_law_rows","_law_tree","_law_turned","law","Shape","InvalidRow","InvalidPile","InvalidTree","SightError","Missing"]:List Str) ++ (["NothingLeft","_law_try","DIGITS","LETTERS","MAX_WORD","OWN_COLUMNS"]:List Str)
set_option maxHeartbeats 4000000 in
theorem txt_mk {P:Program} {K:PySem.W.Frag} {h:Heap} {mg:Str→Option Value} (X:K.In h) (G:h.Ns mainGlobals mg) (c:SaysZ (fbs P.main.file) fns tfs h K) (hsup:(P.main.scope.names.lookup ("super":Str)).isSome=false):Txt P K mg (mkA K):=
 ⟨bNone_ok X G (factZ c.facts 0),
  bNone_ok X G (factZ c.facts 1),
  bNone_ok X G (factZ c.facts 2),
  bNone_ok X G (factZ c.facts 3),
  bNone_ok X G (factZ c.facts 4),
  bNone_ok X G (factZ c.facts 5),
  bNone_ok X G (factZ c.facts 6),
  bNone_ok X G (factZ c.facts 7),
  bNone_ok X G (factZ c.facts 8),
  bNone_ok X G (factZ c.facts 9),
  bNone_ok X G (factZ c.facts 10),
  bNone_ok X G (factZ c.facts 11),
  bNone_ok X G (factZ c.facts 12),
  bCon_ok X G (factZ c.facts 13),
  bCon_ok X G (factZ c.facts 14),
  bCon_ok X G (factZ c.facts 15),
  bCon_ok X G (factZ c.facts 16),
  bGlo_ok X G (factZ c.facts 17),
  DfR.defAt (d:=z_is_number) (c.defs 0 _ rfl).1 (c.defs 0 _ rfl).2 rfl (fun _ _ _ _ _ _ _ _ us hl=>match us,hl with | [_],_=>rfl),
  bGlo_ok X G (factZ c.facts 18),
  DfR.defAt (d:=z_is_listed) (c.defs 1 _ rfl).1 (c.defs 1 _ rfl).2 rfl (fun _ _ _ _ _ _ _ _ us hl=>match us,hl with | [_],_=>rfl),
  bGlo_ok X G (factZ c.facts 19),
  DfR.defAt (d:=z_is_made_of) (c.defs 2 _ rfl).1 (c.defs 2 _ rfl).2 rfl (fun _ _ _ _ _ _ _ _ us hl=>match us,hl with | [_,_,_],_=>rfl),
  bGlo_ok X G (factZ c.facts 20),
  DfR.defAt (d:=z_is_plain_name) (c.defs 3 _ rfl).1 (c.defs 3 _ rfl).2 rfl (fun _ _ _ _ _ _ _ _ us hl=>match us,hl with | [_],_=>rfl),
  bGlo_ok X G (factZ c.facts 21),
  DfR.defAt (d:=z_is_plain_word) (c.defs 4 _ rfl).1 (c.defs 4 _ rfl).2 rfl (fun _ _ _ _ _ _ _ _ us hl=>match us,hl with | [_],_=>rfl),
  bGlo_ok X G (factZ c.facts 22),
  DfR.defAt (d:=z_unlike) (c.defs 5 _ rfl).1 (c.defs 5 _ rfl).2 rfl (fun _ _ _ _ _ _ _ _ us hl=>match us,hl with | [_],_=>rfl),
  bGlo_ok X G (factZ c.facts 23),
  DfR.defAt (d:=z_are_names) (c.defs 6 _ rfl).1 (c.defs 6 _ rfl).2 rfl (fun _ _ _ _ _ _ _ _ us hl=>match us,hl with | [_,_],_=>rfl),
  bGlo_ok X G (factZ c.facts 24),
  DfR.defAt (d:=z_leaves) (c.defs 7 _ rfl).1 (c.defs 7 _ rfl).2 rfl (fun _ _ _ _ _ _ _ _ us hl=>match us,hl with | [_],_=>rfl),
  DfR.defAt (d:=z_Shape___init__) (c.defs 8 _ rfl).1 (c.defs 8 _ rfl).2 rfl (fun _ _ _ _ _ _ _ _ us hl=>match us,hl with | [_,_,_],_=>rfl),
  DfR.defAt (d:=z_Shape_columns) (c.defs 9 _ rfl).1 (c.defs 9 _ rfl).2 rfl (fun _ _ _ _ _ _ _ _ us hl=>match us,hl with | [_],_=>rfl),
  DfR.defAt (d:=z_Shape_is_row) (c.defs 10 _ rfl).1 (c.defs 10 _ rfl).2 rfl (fun _ _ _ _ _ _ _ _ us hl=>match us,hl with | [_,_],_=>rfl),
  DfR.defAt (d:=z_Shape_is_pile) (c.defs 11 _ rfl).1 (c.defs 11 _ rfl).2 rfl (fun _ _ _ _ _ _ _ _ us hl=>match us,hl with | [_,_],_=>rfl),
  DfR.defAt (d:=z_Shape_is_tree) (c.defs 12 _ rfl).1 (c.defs 12 _ rfl).2 rfl (fun _ _ _ _ _ _ _ _ us hl=>match us,hl with | [_,_],_=>rfl),
  DfR.defAt (d:=z_Shape_need_row) (c.defs 13 _ rfl).1 (c.defs 13 _ rfl).2 rfl (fun _ _ _ _ _ _ _ _ us hl=>match us,hl with | [_,_],_=>rfl),
  DfR.defAt (d:=z_Shape_need_pile) (c.defs 14 _ rfl).1 (c.defs 14 _ rfl).2 rfl (fun _ _ _ _ _ _ _ _ us hl=>match us,hl with | [_,_],_=>rfl),
  DfR.defAt (d:=z_Shape_need_tree) (c.defs 15 _ rfl).1 (c.defs 15 _ rfl).2 rfl (fun _ _ _ _ _ _ _ _ us hl=>match us,hl with | [_,_],_=>rfl),
  DfR.defAt (d:=z_Shape_sheet) (c.defs 16 _ rfl).1 (c.defs 16 _ rfl).2 rfl (fun _ _ _ _ _ _ _ _ us hl=>match us,hl with | [_,_],_=>rfl),
  DfR.defAt (d:=z_Shape_rows_in) (c.defs 17 _ rfl).1 (c.defs 17 _ rfl).2 rfl (fun _ _ _ _ _ _ _ _ us hl=>match us,hl with | [_,_],_=>rfl),
  bGlo_ok X G (factZ c.facts 25),
  DfR.defAt (d:=z_turned_pair) (c.defs 18 _ rfl).1 (c.defs 18 _ rfl).2 rfl (fun _ _ _ _ _ _ _ _ us hl=>match us,hl with | [_],_=>rfl),
  DfR.defAt (d:=z_Shape_turned) (c.defs 19 _ rfl).1 (c.defs 19 _ rfl).2 rfl (fun _ _ _ _ _ _ _ _ us hl=>match us,hl with | [_,_],_=>rfl),
  DfR.defAt (d:=z_Shape_chain) (c.defs 20 _ rfl).1 (c.defs 20 _ rfl).2 rfl (fun _ _ _ _ _ _ _ _ us hl=>match us,hl with | [_,_],_=>rfl),
  bGlo_ok X G (factZ c.facts 26),
  DfR.defAt (d:=z__law_opened) (c.defs 21 _ rfl).1 (c.defs 21 _ rfl).2 rfl (fun _ _ _ _ _ _ _ _ us hl=>match us,hl with | [_],_=>rfl),
  bGlo_ok X G (factZ c.facts 27),
  DfR.defAt (d:=z__law_pull) (c.defs 22 _ rfl).1 (c.defs 22 _ rfl).2 rfl (fun _ _ _ _ _ _ _ _ us hl=>match us,hl with | [_,_],_=>rfl),
  bGlo_ok X G (factZ c.facts 28),
  DfR.defAt (d:=z__law_any) (c.defs 23 _ rfl).1 (c.defs 23 _ rfl).2 rfl (fun _ _ _ _ _ _ _ _ us hl=>match us,hl with | [_,_],_=>rfl),
  bGlo_ok X G (factZ c.facts 29),
  DfR.defAt (d:=z__law_mixed) (c.defs 24 _ rfl).1 (c.defs 24 _ rfl).2 rfl (fun _ _ _ _ _ _ _ _ us hl=>match us,hl with | [_,_],_=>rfl),
  bGlo_ok X G (factZ c.facts 30),
  DfR.defAt (d:=z__law_like) (c.defs 25 _ rfl).1 (c.defs 25 _ rfl).2 rfl (fun _ _ _ _ _ _ _ _ us hl=>match us,hl with | [_,_],_=>rfl),
  bGlo_ok X G (factZ c.facts 31),
  DfR.defAt (d:=z__law_field) (c.defs 26 _ rfl).1 (c.defs 26 _ rfl).2 rfl (fun _ _ _ _ _ _ _ _ us hl=>match us,hl with | [_],_=>rfl),
  bGlo_ok X G (factZ c.facts 32),
  DfR.defAt (d:=z__law_stems) (c.defs 27 _ rfl).1 (c.defs 27 _ rfl).2 rfl (fun _ _ _ _ _ _ _ _ us hl=>match us,hl with | [_,_,_],_=>rfl),
  bGlo_ok X G (factZ c.facts 33),
  DfR.defAt (d:=z__law_words) (c.defs 28 _ rfl).1 (c.defs 28 _ rfl).2 rfl (fun _ _ _ _ _ _ _ _ us hl=>match us,hl with | [_,_],_=>rfl),
  bGlo_ok X G (factZ c.facts 34),
  DfR.defAt (d:=z__law_ground) (c.defs 29 _ rfl).1 (c.defs 29 _ rfl).2 rfl (fun _ _ _ _ _ _ _ _ us hl=>match us,hl with | [_,_,_],_=>rfl),
  bGlo_ok X G (factZ c.facts 35),
  DfR.defAt (d:=z__law_shape) (c.defs 30 _ rfl).1 (c.defs 30 _ rfl).2 rfl (fun _ _ _ _ _ _ _ _ us hl=>match us,hl with | [_],_=>rfl),
  bGlo_ok X G (factZ c.facts 36),
  DfR.defAt (d:=z__law_row) (c.defs 31 _ rfl).1 (c.defs 31 _ rfl).2 rfl (fun _ _ _ _ _ _ _ _ us hl=>match us,hl with | [_,_,_],_=>rfl),
  bGlo_ok X G (factZ c.facts 37),
  DfR.defAt (d:=z__law_rows) (c.defs 32 _ rfl).1 (c.defs 32 _ rfl).2 rfl (fun _ _ _ _ _ _ _ _ us hl=>match us,hl with | [_,_,_],_=>rfl),
  bGlo_ok X G (factZ c.facts 38),
  DfR.defAt (d:=z__law_tree) (c.defs 33 _ rfl).1 (c.defs 33 _ rfl).2 rfl (fun _ _ _ _ _ _ _ _ us hl=>match us,hl with | [_,_],_=>rfl),
  bGlo_ok X G (factZ c.facts 39),
  DfR.defAt (d:=z__law_turned) (c.defs 34 _ rfl).1 (c.defs 34 _ rfl).2 rfl (fun _ _ _ _ _ _ _ _ us hl=>match us,hl with | [_],_=>rfl),
  bGlo_ok X G (factZ c.facts 40),
  DfR.defAt (d:=z_law) (c.defs 35 _ rfl).1 (c.defs 35 _ rfl).2 rfl (fun _ _ _ _ _ _ _ _ us hl=>match us,hl with | [_],_=>rfl),
  bNst_ok (factZ c.facts 41),
  bGlo_ok X G (factZ c.facts 42),
  bCls_ok (factZ c.facts 43),
  bNo_ok (factZ c.facts 44),
  bNo_ok (factZ c.facts 45),
  bMk_ok (factZ c.facts 46),
  bMeth_ok (factZ c.facts 47),
  bMeth_ok (factZ c.facts 48),
  bMeth_ok (factZ c.facts 49),
  bMeth_ok (factZ c.facts 50),
  bMeth_ok (factZ c.facts 51),
  bMeth_ok (factZ c.facts 52),
  bMeth_ok (factZ c.facts 53),
  bMeth_ok (factZ c.facts 54),
  bMeth_ok (factZ c.facts 55),
  bMeth_ok (factZ c.facts 56),
  bProp_ok (factZ c.facts 57),
  bCv_ok (factZ c.facts 58),
  bCv_ok (factZ c.facts 59),
  bNone_ok X G (factZ c.facts 60),
  bGlo_ok X G (factZ c.facts 61),
  bExC_ok (d:=z_InvalidRow___init__) (c.defs 36 _ rfl).1 (c.defs 36 _ rfl).2 (factZ c.facts 62) hsup rfl rfl rfl rfl,
  bNo_ok (factZ c.facts 63),
  bNo_ok (factZ c.facts 64),
  bGlo_ok X G (factZ c.facts 65),
  bExC_ok (d:=z_InvalidPile___init__) (c.defs 37 _ rfl).1 (c.defs 37 _ rfl).2 (factZ c.facts 66) hsup rfl rfl rfl rfl,
  bNo_ok (factZ c.facts 67),
  bGlo_ok X G (factZ c.facts 68),
  bExC_ok (d:=z_InvalidTree___init__) (c.defs 38 _ rfl).1 (c.defs 38 _ rfl).2 (factZ c.facts 69) hsup rfl rfl rfl rfl,
  bNo_ok (factZ c.facts 70),
  bGlo_ok X G (factZ c.facts 71),
  bGlo_ok X G (factZ c.facts 72),
  bGlo_ok X G (factZ c.facts 73),
  bExm_ok (factZ c.facts 74),
  bExm_ok (factZ c.facts 75),
  bExm_ok (factZ c.facts 76),
  bGlo_ok X G (factZ c.facts 77),
  DfR.defAt (d:=z__law_try) (c.defs 39 _ rfl).1 (c.defs 39 _ rfl).2 rfl (fun _ _ _ _ _ _ _ _ us hl=>match us,hl with | [_],_=>rfl)⟩
abbrev RR:PySem.W.OpenRow:=PySem.W.OpenLaw.row PySem.Challenge.rw_mergesight_k05_sheets_and_walks
abbrev qv:Program:=PySem.W.view RR.prog [41]
def lse:List Str:=(["_wall","__name__","LETTERS","DIGITS","MAX_WORD","is_number","is_listed","is_made_of","is_plain_name","is_plain_word","unlike","SightError","Missing","InvalidShape","InvalidRow","InvalidPile","InvalidTree","NothingLeft","OWN_COLUMNS","are_names","leaves","Shape","turned_pair","_law_opened","_law_pull","_law_any","_law_mixed","_law_like","_law_field","_law_try"]:List Str) ++ (["_law_stems","_law_words","_law_ground","_law_shape","_law_row","_law_rows","_law_tree","_law_turned"]:List Str)
abbrev hk:PySem.W.Hook:=hookZ nms (fbs RR.prog.main.file) fns tfs
def ob (s:PySem.W.SharedT):AlZ:=obsZ nms (fbs RR.prog.main.file) fns tfs (HandSHeadRun.getT s)
theorem ob_eq (s:PySem.W.SharedT):ob s=hk.obs s.abs:=obsZ_eq (HandSHeadRun.getT_eq s)
theorem run (w:World):HandSHeadRun.RunEq RR qv hk ob 15000 lse w:=by
 intro os
 kernel_rfl
end DL.K05
namespace DL.K05
open PySem PySem.Spec PyProof.Rows L2 RZ
theorem law_at {w:World} {mg:Str→Option Value} {fa:Addr} {h:Heap} {K:PySem.W.Frag} (X:K.In h) (G:h.Ns mainGlobals mg) (hmg:mg "law"=some (.ref fa)) (c:SaysZ (fbs RR.prog.main.file) fns tfs h K):LamX.LawAtS PySem.Challenge.rw_mergesight_k05_sheets_and_walks w K (L2.CX (PySem.Challenge.rw_mergesight_k05_sheets_and_walks).prog w) 80 63 "_law_script" mg fa h:=by
 have T:Txt RR.prog K mg (mkA K):=txt_mk (P:=RR.prog) X G c (by decide +kernel)
 have e:=hmg.symm.trans T.g_law
 cases e
 exact law_atZ (d:=z_law) (q:=lamq) X c (c.defs 35 _ rfl) rfl sc_law (fun _ _ _ _ _ _ _ _=> .of_eq rfl) (fun base TB cdv ec A outer s H E hr tk=>by subst ec;exact bd_law T (TB _ List.mem_cons_self) A outer s H E hr tk) (rd_law (mkA K))
end DL.K05
open PySem PySem.W PySem.Calls PyProof.Rows in
set_option maxRecDepth 100000 in
set_option maxHeartbeats 0 in
theorem PySem.Challenge.cw_mergesight_k05_sheets_and_walks_holds : PySem.Challenge.rw_mergesight_k05_sheets_and_walks.Holds := by
  w_on; o_law
  refine HandSHeadRun.head_any (r := DL.K05.RR) (q := DL.K05.qv) (H := DL.K05.hk) (ob := DL.K05.ob) (M := 15000) (loose := DL.K05.lse) (d := HandSHeadRun.topDef DL.K05.RR.prog 41) (kwd := []) DL.K05.ob_eq
    (by kernel_rfl) (fun s => by kernel_rfl) DL.K05.run (by kernel_rfl) (by kernel_rfl) (by kernel_rfl) (by rfl) (by first | assumption | decide +kernel) (by decide +kernel) ⟨rfl, rfl, rfl, rfl, rfl, by decide +kernel⟩ ?hw ?hc
  case hw => w_witness2
  case hc =>
    refine LamX.walk_ofTsE (l := PySem.Challenge.rw_mergesight_k05_sheets_and_walks) (n := 63) (k := 80) (x := "_law_script") (CX := fun w => L2.CX (PySem.Challenge.rw_mergesight_k05_sheets_and_walks).prog w) rfl (by decide) (by kernel_rfl) ⟨rfl, by decide, by decide⟩ ?F (fun w H s e s' ⟨_, _, _, _, _, _, _, _, _, _, _, _, hE⟩ => hE)
    intro w mg fa h Y G hmg0
    obtain ⟨K, KX, c⟩ := Y
    have hmg : mg ("law" : PySem.Str) = some (.ref fa) := by
      have e : (HandSHeadRun.topDef DL.K05.RR.prog 41).name = ("law" : PySem.Str) := by kernel_rfl
      rw [← e]
      exact hmg0
    exact ⟨K, KX, DL.K05.law_at KX G hmg c⟩
