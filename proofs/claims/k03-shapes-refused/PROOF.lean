import PyProof.Rows.All
import Wide.All
import OpenK.AllK
import Wide.FinOn
import HandS.ForMost
import HandS.ForExc
import HandS.Lambda
import HandS.TupAny
import HandS.IsInst
import HandS.Iter
import HandS.Zip
import HandS.Comp
import HandS.More
import HandS.Property
import HandS.ClsMeth
import HandS.Strs
import HandS.SetKeys
import HandS.Style
import HandS.Small
import HandS.Zip0
import KE.KDictZip
import KE.GoesMore
import HandS.TupMul
import PyProof.Draws
import HandS.Deep
import HandS.Star
import KE.DataCmp
import HandS.ExcInit
import HandS.Nested
import KE.KExcSuper
import KE.KSuper
import HandS.ExcField
import HandS.HotCalls
import KE.KTryMore
import HandS.ExcInitHot
import HandS.FStr
import KE.KNestM
import HandS.Head2
import HandS.HeadHook4
import HandS.HeadNt
import HandS.HeadWalk
import PySem.Challenge.RW_mergesight_k03_shapes_refused
set_option Elab.async false
set_option linter.all false
set_option maxRecDepth 100000
/-! Deep values over the hand layer: values without addresses (tuples, frozen lists, dicts, instances), owned objects by address. -/
namespace DL
open PySem PySem.Spec PyProof.Rows L2

/-- a deep value: tuples, lists, dicts, instances that nobody changes are values; `ref a` is an owned object, a class, a function -/
inductive D where
  | non | bl (b : Bool) | int (i : Int) | str (x : Str) | ty (n : String) | ref (a : Addr)
  | tup (xs : List D) | lst (xs : List D)
  | dct (ks : List Key) (xs : List D)
  | ins (C : Addr) (ns : List Str) (xs : List D)
  /-- the script -/
  | scr (ns : List Int)
  /-- a tuple that is known to bear no dict: its methods may be called -/
  | tpn (xs : List D)
  /-- a caught exception at a: its class, its dict at dd with the fields -/
  | exc (a dd C : Addr) (ns : List Str) (xs : List D)
/-- an owned object -/
inductive MO where
  | lst (xs : List D) | dct (ks : List Key) (xs : List D) | ins (C : Addr) (ns : List Str) (xs : List D)
  /-- the table of the code objects of lambdas, all of the name q -/
  | tab (q : Str)
abbrev Mem := Addr → Option MO
def mput (M : Mem) (a : Addr) (o : MO) : Mem := fun b => if b = a then some o else M b
def mdel (M : Mem) (a : Addr) : Mem := fun b => if b = a then none else M b
theorem mput_same {M : Mem} {a : Addr} {o : MO} : mput M a o a = some o := by unfold mput; rw [if_pos rfl]
theorem mput_ne {M : Mem} {a b : Addr} {o : MO} (h : b ≠ a) : mput M a o b = M b := by unfold mput; rw [if_neg h]
theorem mput_mput {M : Mem} {a : Addr} {o u : MO} : mput (mput M a o) a u = mput M a u := by
  funext b; unfold mput; split <;> rfl
theorem mdel_same {M : Mem} {a : Addr} : mdel M a a = none := by unfold mdel; rw [if_pos rfl]
theorem mdel_ne {M : Mem} {a b : Addr} (h : b ≠ a) : mdel M a b = M b := by unfold mdel; rw [if_neg h]
theorem mne_of_none {M : Mem} {a b : Addr} {o : MO} (h : M a = some o) (h' : M b = none) : a ≠ b := by
  intro e; subst e; rw [h] at h'; cases h'

/-- a dict that a walk locks is the same dict -/
def core : HO → HO
  | .frz _ (.dK kvs) => .dK kvs
  | o => o

/-- the script stands at a: locked, or of the written part -/
def Scr (K : PySem.W.Frag) (H : Hp) (a : Addr) (ns : List Int) : Prop := (∃ o, H a = some (.frz o (.lst (ns.map V.int)))) ∨
  ∃ (o : Obj) (its : Array Value) (n : Nat), K.lookup a = some o ∧ o.cls = .type "list" ∧ o.dict = none ∧ o.data = .seq its n ∧ its.size ≤ sizeLine ∧ Vals (ns.map V.int) its.toList
mutual
def DV (K : PySem.W.Frag) (H : Hp) (M : Mem) : D → V → Prop
  | .non, v => v = .non
  | .bl b, v => v = .bl b
  | .int i, v => v = .int i
  | .str x, v => v = .str x
  | .ty n, v => v = .ty n
  | .ref a, v => v = .ref a
  | .tup ds, v => ∃ a xs, v = .ref a ∧ SqT K H a xs ∧ DVs K H M ds xs
  | .lst ds, v => ∃ a xs, v = .ref a ∧ H a = some (.lst xs) ∧ M a = none ∧ DVs K H M ds xs
  | .dct ks ds, v => ∃ a kvs, v = .ref a ∧ Rd H a (.dK kvs) ∧ M a = none ∧ kvs.map (·.1) = ks ∧ DVs K H M ds (kvs.map (·.2))
  | .ins C ns ds, v => ∃ a dx fs, v = .ref a ∧ H a = some (.ins C dx fs) ∧ M a = none ∧ fs.map (·.1) = ns ∧ DVs K H M ds (fs.map (·.2))
  | .scr ns, v => ∃ a, v = .ref a ∧ Scr K H a ns
  | .exc a dd C ns ds, v => v = .ref a ∧ ∃ fs, H dd = some (.xd fs) ∧ M dd = none ∧ fs.map (·.1) = ns ∧ DVs K H M ds (fs.map (·.2))
  | .tpn ds, v => ∃ a xs o, v = .ref a ∧ H a = some (.frz o (.tup xs)) ∧ o.dict = none ∧ DVs K H M ds xs
def DVs (K : PySem.W.Frag) (H : Hp) (M : Mem) : List D → List V → Prop
  | [], xs => xs = []
  | d :: ds, xs => ∃ y ys, xs = y :: ys ∧ DV K H M d y ∧ DVs K H M ds ys
end

/-- the table at a: each code object that it tells bears the name q and stays -/
def TabM (H : Hp) (M : Mem) (a : Addr) (q : Str) : Prop := ∃ ps : Array Value, H a = some (.tbl ps) ∧ TriplesOk ps.toList ∧ ∀ (pos : Pos) (cv : Value), codeAmong pos ps.toList = some cv → ∃ c, cv = .ref c ∧ H c = some (LamX.CodeO c q) ∧ M c = none
def MOk (K : PySem.W.Frag) (H : Hp) (M : Mem) (a : Addr) : MO → Prop
  | .lst ds => ∃ xs, H a = some (.lst xs) ∧ DVs K H M ds xs
  | .dct ks ds => ∃ kvs, H a = some (.dK kvs) ∧ kvs.map (·.1) = ks ∧ DVs K H M ds (kvs.map (·.2))
  | .ins C ns ds => ∃ dx fs, H a = some (.ins C dx fs) ∧ fs.map (·.1) = ns ∧ DVs K H M ds (fs.map (·.2))
  | .tab q => TabM H M a q
def RelM (K : PySem.W.Frag) (H : Hp) (M : Mem) : Prop := ∀ a o, M a = some o → MOk K H M a o
/-- what is frozen stays -/
def Ext (H : Hp) (M : Mem) (H' : Hp) (M' : Mem) : Prop := ∀ a o, H a = some o → M a = none → (∀ ps, o ≠ .tbl ps) → (∃ o', H' a = some o' ∧ core o' = core o) ∧ M' a = none
theorem Ext.rfl' {H : Hp} {M : Mem} : Ext H M H M := fun a o h m _ => ⟨⟨o, h, rfl⟩, m⟩
theorem core_tbl {o o' : HO} (h : ∀ ps, o ≠ .tbl ps) (e : core o' = core o) : ∀ ps, o' ≠ .tbl ps := fun ps z => by
  subst z
  have e : HO.tbl ps = core o := e
  unfold core at e
  split at e
  · cases e
  · exact h ps e.symm
theorem Ext.trans {H H1 H2 : Hp} {M M1 M2 : Mem} (a : Ext H M H1 M1) (b : Ext H1 M1 H2 M2) : Ext H M H2 M2 := fun c o h m n => by
  obtain ⟨⟨o1, h1, e1⟩, m1⟩ := a c o h m n
  obtain ⟨⟨o2, h2, e2⟩, m2⟩ := b c o1 h1 m1 (core_tbl n e1)
  exact ⟨⟨o2, h2, e2.trans e1⟩, m2⟩

/-- what core leaves alone -/
def Plain (o : HO) : Prop := (∀ ps, o ≠ .tbl ps) ∧ ∀ o', core o' = core o → o' = o
theorem plain_lst {xs : List V} : Plain (.lst xs) := ⟨(fun ps z => by cases z), (fun o' e => by
  unfold core at e
  split at e
  · cases e
  · exact e)⟩
theorem plain_tup {xs : List V} : Plain (.tup xs) := ⟨(fun ps z => by cases z), (fun o' e => by
  unfold core at e
  split at e
  · cases e
  · exact e)⟩
theorem plain_ins {C dx : Addr} {fs : List (Str × V)} : Plain (.ins C dx fs) := ⟨(fun ps z => by cases z), (fun o' e => by
  unfold core at e
  split at e
  · cases e
  · exact e)⟩
theorem plain_xd {fs : List (Str × V)} : Plain (.xd fs) := ⟨(fun ps z => by cases z), (fun o' e => by
  unfold core at e
  split at e
  · cases e
  · exact e)⟩
theorem plain_ftup {o : Obj} {xs : List V} : Plain (.frz o (.tup xs)) := ⟨(fun ps z => by cases z), (fun o' e => by
  unfold core at e
  split at e
  · cases e
  · exact e)⟩
theorem core_dK {o' : HO} {kvs : List (Key × V)} (e : core o' = .dK kvs) : o' = .dK kvs ∨ ∃ ob, o' = .frz ob (.dK kvs) := by
  unfold core at e
  split at e
  · rename_i ob k
    cases e
    exact .inr ⟨ob, rfl⟩
  · exact .inl e
theorem plain_flst {o : Obj} {xs : List V} : Plain (.frz o (.lst xs)) := ⟨(fun ps z => by cases z), (fun o' e => by
  unfold core at e
  split at e
  · cases e
  · exact e)⟩
theorem Ext.at {H H' : Hp} {M M' : Mem} {a : Addr} {o : HO} (e : Ext H M H' M') (h : H a = some o) (m : M a = none) (p : Plain o) : H' a = some o ∧ M' a = none := by
  obtain ⟨⟨o', h', c⟩, m'⟩ := e a o h m p.1
  rw [p.2 o' c] at h'
  exact ⟨h', m'⟩
theorem Ext.dict {H H' : Hp} {M M' : Mem} {a : Addr} {kvs : List (Key × V)} (e : Ext H M H' M') (h : Rd H a (.dK kvs)) (m : M a = none) : Rd H' a (.dK kvs) ∧ M' a = none := by
  have key : ∀ o, H a = some o → core o = .dK kvs → Rd H' a (.dK kvs) ∧ M' a = none := fun o ho hc => by
    obtain ⟨⟨o', h', c⟩, m'⟩ := e a o ho m fun ps z => by
      rw [z] at hc
      cases (show HO.tbl ps = .dK kvs from hc)
    refine ⟨?_, m'⟩
    rcases core_dK (c.trans hc) with q | ⟨ob, q⟩
    · exact .inl (q ▸ h')
    · exact .inr ⟨ob, q ▸ h'⟩
  rcases h with h | ⟨o, h⟩
  · exact key _ h rfl
  · exact key _ h rfl
section
variable {K : PySem.W.Frag} {H H' : Hp} {M M' : Mem}
/-- a tuple is never owned -/
theorem RelM.tup (R : RelM K H M) {a : Addr} {xs : List V} (h : H a = some (.tup xs)) : M a = none := by
  cases e : M a with
  | none => rfl
  | some o =>
    have q := R a o e
    cases o with
    | lst ds => obtain ⟨_, q, _⟩ := q; rw [h] at q; cases q
    | dct ks ds => obtain ⟨_, q, _⟩ := q; rw [h] at q; cases q
    | ins C ns ds => obtain ⟨_, _, q, _⟩ := q; rw [h] at q; cases q
    | tab q' => obtain ⟨_, q, _⟩ := q; rw [h] at q; cases q
theorem RelM.ftup (R : RelM K H M) {a : Addr} {o : Obj} {xs : List V} (h : H a = some (.frz o (.tup xs))) : M a = none := by
  cases e : M a with
  | none => rfl
  | some o =>
    have q := R a o e
    cases o with
    | lst ds => obtain ⟨_, q, _⟩ := q; rw [h] at q; cases q
    | dct ks ds => obtain ⟨_, q, _⟩ := q; rw [h] at q; cases q
    | ins C ns ds => obtain ⟨_, _, q, _⟩ := q; rw [h] at q; cases q
    | tab q' => obtain ⟨_, q, _⟩ := q; rw [h] at q; cases q
theorem RelM.flst (R : RelM K H M) {a : Addr} {o : Obj} {xs : List V} (h : H a = some (.frz o (.lst xs))) : M a = none := by
  cases e : M a with
  | none => rfl
  | some o =>
    have q := R a o e
    cases o with
    | lst ds => obtain ⟨_, q, _⟩ := q; rw [h] at q; cases q
    | dct ks ds => obtain ⟨_, q, _⟩ := q; rw [h] at q; cases q
    | ins C ns ds => obtain ⟨_, _, q, _⟩ := q; rw [h] at q; cases q
    | tab q' => obtain ⟨_, q, _⟩ := q; rw [h] at q; cases q
theorem Scr.ext (R : RelM K H M) (e : Ext H M H' M') {a : Addr} {ns : List Int} (h : Scr K H a ns) : Scr K H' a ns := by
  rcases h with ⟨o, h⟩ | h
  · exact .inl ⟨o, (e.at h (R.flst h) plain_flst).1⟩
  · exact .inr h
theorem SqT.ext (R : RelM K H M) (e : Ext H M H' M') {a : Addr} {xs : List V} (h : SqT K H a xs) : SqT K H' a xs := by
  rcases h with (h | ⟨o, h⟩) | h
  · exact .inl (.inl (e.at h (R.tup h) plain_tup).1)
  · exact .inl (.inr ⟨o, (e.at h (R.ftup h) plain_ftup).1⟩)
  · exact .inr h
mutual
theorem DV.ext (R : RelM K H M) (e : Ext H M H' M') : ∀ (d : D) (v : V), DV K H M d v → DV K H' M' d v
  | .non, v, h => h
  | .bl b, v, h => h
  | .int i, v, h => h
  | .str x, v, h => h
  | .ty n, v, h => h
  | .ref a, v, h => h
  | .tup ds, v, h => by
    obtain ⟨a, xs, h1, h2, h3⟩ := h
    exact ⟨a, xs, h1, SqT.ext R e h2, DVs.ext R e ds xs h3⟩
  | .lst ds, v, h => by
    obtain ⟨a, xs, h1, h2, h3, h4⟩ := h
    obtain ⟨q1, q2⟩ := e.at h2 h3 plain_lst
    exact ⟨a, xs, h1, q1, q2, DVs.ext R e ds xs h4⟩
  | .dct ks ds, v, h => by
    obtain ⟨a, kvs, h1, h2, h3, h4, h5⟩ := h
    obtain ⟨q1, q2⟩ := e.dict h2 h3
    exact ⟨a, kvs, h1, q1, q2, h4, DVs.ext R e ds _ h5⟩
  | .ins C ns ds, v, h => by
    obtain ⟨a, dx, fs, h1, h2, h3, h4, h5⟩ := h
    obtain ⟨q1, q2⟩ := e.at h2 h3 plain_ins
    exact ⟨a, dx, fs, h1, q1, q2, h4, DVs.ext R e ds _ h5⟩
  | .scr ns, v, h => by
    obtain ⟨a, h1, h2⟩ := h
    exact ⟨a, h1, Scr.ext R e h2⟩
  | .exc a dd C ns ds, v, h => by
    obtain ⟨h1, fs, h2, h3, h4, h5⟩ := h
    obtain ⟨q1, q2⟩ := e.at h2 h3 plain_xd
    exact ⟨h1, fs, q1, q2, h4, DVs.ext R e ds _ h5⟩
  | .tpn ds, v, h => by
    obtain ⟨a, xs, o, h1, h2, h3, h4⟩ := h
    exact ⟨a, xs, o, h1, (e.at h2 (R.ftup h2) plain_ftup).1, h3, DVs.ext R e ds xs h4⟩
theorem DVs.ext (R : RelM K H M) (e : Ext H M H' M') : ∀ (ds : List D) (xs : List V), DVs K H M ds xs → DVs K H' M' ds xs
  | [], xs, h => h
  | d :: ds, xs, h => by
    obtain ⟨y, ys, h1, h2, h3⟩ := h
    exact ⟨y, ys, h1, DV.ext R e d y h2, DVs.ext R e ds ys h3⟩
end
end
end DL
namespace DL
open PySem PySem.Spec PyProof.Rows L2

abbrev SD := List (Option D)
/-- an exception: of an own class with its fields, or of a built-in class -/
inductive Exn where
  | own (C : Addr) (ns : List Str) (ds : List D) | bi (n : String)
abbrev KN := D → Mem → Prop
abbrev KX := Exn → Mem → Prop
/-- what an expression asks: slots, memory, what follows, what follows an exception -/
abbrev WG (α : Type) := SD → Mem → (α → Mem → Prop) → KX → Prop
abbrev WE := WG D
abbrev WT := WG Bool
abbrev WA := WG (List D)

/-- the memory with what stands aside -/
def uni (M F : Mem) : Mem := fun a => match F a with
  | some o => some o
  | none => M a
structure Rm (K : PySem.W.Frag) (H : Hp) (M F : Mem) : Prop where
  rel : RelM K H (uni M F)
  dj : ∀ a o, F a = some o → M a = none
theorem uni_get {M F : Mem} {a : Addr} (h : F a = none) : uni M F a = M a := by unfold uni; rw [h]
theorem uni_none {M F : Mem} {a : Addr} (h : uni M F a = none) : F a = none ∧ M a = none := by
  unfold uni at h
  split at h
  · cases h
  · rename_i e
    exact ⟨e, h⟩
theorem uni_put {M F : Mem} {a : Addr} {o : MO} (h : F a = none) : uni (mput M a o) F = mput (uni M F) a o := by
  funext b
  unfold uni mput
  by_cases e : b = a
  · subst e
    simp [h]
  · simp [e]
theorem Rm.fr {K : PySem.W.Frag} {H : Hp} {M F : Mem} (R : Rm K H M F) {a : Addr} {o : MO} (h : M a = some o) : F a = none := by
  cases e : F a with
  | none => rfl
  | some u => have q := R.dj a u e; rw [h] at q; cases q
theorem Rm.at {K : PySem.W.Frag} {H : Hp} {M F : Mem} (R : Rm K H M F) {a : Addr} {o : MO} (h : M a = some o) : uni M F a = some o := by rw [uni_get (R.fr h)]; exact h
theorem Rm.get {K : PySem.W.Frag} {H : Hp} {M F : Mem} (R : Rm K H M F) {a : Addr} {o : MO} (h : M a = some o) : MOk K H (uni M F) a o := R.rel a o (R.at h)
def RelS (K : PySem.W.Frag) (F : Mem) (σ : L2.St) (H : Hp) (ds : SD) (M : Mem) : Prop :=
  Rm K H M F ∧ ds.length = σ.length ∧ ∀ (i : Nat) (d : D), ds[i]? = some (some d) → ∃ v, σ[i]? = some (some v) ∧ DV K H (uni M F) d v
def ExV (K : PySem.W.Frag) (H : Hp) (M : Mem) (cls : Value) (dc : Option Addr) : Exn → Prop
  | .own C ns ds => cls = .ref C ∧ ∃ dd fs, dc = some dd ∧ H dd = some (.xd fs) ∧ M dd = none ∧ fs.map (·.1) = ns ∧ DVs K H M ds (fs.map (·.2))
  | .bi n => cls = .type n
/-- the ends hang together -/
def LkG (K : PySem.W.Frag) (F : Mem) {α β : Type} (Rr : Hp → Mem → α → β → Prop) (H : Hp) (M : Mem) (Qd : α → Mem → Prop) (Q : β → Hp → Prop) : Prop :=
  ∀ (v : β) (H' : Hp) (d : α) (M' : Mem), Ext H (uni M F) H' (uni M' F) → Rm K H' M' F → Rr H' (uni M' F) d v → Qd d M' → Q v H'
def LkX (K : PySem.W.Frag) (F : Mem) (H : Hp) (M : Mem) (σ : L2.St) (Xd : KX) (W : WX) : Prop :=
  ∀ (cls : Value) (dc : Option Addr) (H' : Hp) (x : Exn) (M' : Mem), Ext H (uni M F) H' (uni M' F) → Rm K H' M' F → ExV K H' (uni M' F) cls dc x → Xd x M' → W cls dc σ H'
abbrev rE (K : PySem.W.Frag) : Hp → Mem → D → V → Prop := fun H M d v => DV K H M d v
abbrev rT : Hp → Mem → Bool → Bool → Prop := fun _ _ b c => c = b
abbrev rA (K : PySem.W.Frag) : Hp → Mem → List D → List V → Prop := fun H M ds vs => DVs K H M ds vs
abbrev rO : Hp → Mem → Option Int → Option Int → Prop := fun _ _ b c => c = b
def lift (K : PySem.W.Frag) (W : WX) {α β : Type} (Rr : Hp → Mem → α → β → Prop) (es : List D) (vs : List V) (w : WG α) : L2.St → Hp → (β → Hp → Prop) → Prop := fun σ H Q =>
  ∃ ds M F Qd Xd, RelS K F σ H ds M ∧ DVs K H (uni M F) es vs ∧ w ds M Qd Xd ∧ LkG K F Rr H M Qd Q ∧ LkX K F H M σ Xd W
abbrev liftE (K : PySem.W.Frag) (W : WX) (w : WE) : TE := lift K W (rE K) [] [] w
abbrev liftT (K : PySem.W.Frag) (W : WX) (w : WT) : TT := lift K W rT [] [] w
abbrev liftA (K : PySem.W.Frag) (W : WX) (w : WA) : TA := lift K W (rA K) [] [] w
abbrev liftO (K : PySem.W.Frag) (W : WX) (w : WG (Option Int)) : TO := lift K W rO [] [] w
abbrev JE (X : Cx) (W : WX) (e : Expr) (w : WE) : Prop := PE X e (liftE X.K W w)
abbrev JT (X : Cx) (W : WX) (e : Expr) (w : WT) : Prop := PT X e (liftT X.K W w)
abbrev JW (X : Cx) (W : WX) (e : Expr) (w : WT) : Prop := PW X e (liftT X.K W w)
abbrev JA (X : Cx) (W : WX) (es : List Expr) (w : WA) : Prop := PA X es (liftA X.K W w)
abbrev JK (X : Cx) (W : WX) (es : List Keyword) (w : WA) : Prop := PK X es (liftA X.K W w)
abbrev JO (X : Cx) (W : WX) (e : Option Expr) (w : WG (Option Int)) : Prop := PO X e (liftO X.K W w)

section
variable {K : PySem.W.Frag} {W : WX} {H H' : Hp} {M M' : Mem} {σ : L2.St} {ds : SD} {α β : Type} {Rr : Hp → Mem → α → β → Prop} {es : List D} {vs : List V} {Q : β → Hp → Prop}
theorem RelS.ext {F : Mem} (R : RelS K F σ H ds M) (e : Ext H (uni M F) H' (uni M' F)) (r : Rm K H' M' F) : RelS K F σ H' ds M' :=
  ⟨r, R.2.1, fun i d h => by
    obtain ⟨v, h1, h2⟩ := R.2.2 i d h
    exact ⟨v, h1, DV.ext R.1.rel e d v h2⟩⟩
theorem LkG.ext {F : Mem} {Qd : α → Mem → Prop} (l : LkG K F Rr H M Qd Q) (e : Ext H (uni M F) H' (uni M' F)) : LkG K F Rr H' M' Qd Q := fun v H2 d M2 e2 r q w => l v H2 d M2 (e.trans e2) r q w
theorem LkX.ext {F : Mem} {Xd : KX} (l : LkX K F H M σ Xd W) (e : Ext H (uni M F) H' (uni M' F)) : LkX K F H' M' σ Xd W := fun c dc H2 x M2 e2 r q w => l c dc H2 x M2 (e.trans e2) r q w
/-- one part of an expression first -/
theorem bindE {wa : WE} {f : D → WG α} {R : V → Hp → Prop} (h : lift K W Rr es vs (fun ds M Q Xc => wa ds M (fun d M1 => f d ds M1 Q Xc) Xc) σ H Q)
    (k : ∀ v d H1, lift K W Rr (d :: es) (v :: vs) (f d) σ H1 Q → R v H1) : liftE K W wa σ H R := by
  obtain ⟨ds, M, F, Qd, Xd, hs, hv, hw, l1, l2⟩ := h
  exact ⟨ds, M, F, fun d M1 => f d ds M1 Qd Xd, Xd, hs, rfl, hw, fun v H' d M' e r dv q => k v d H' ⟨ds, M', F, Qd, Xd, hs.ext e r, ⟨v, vs, rfl, dv, DVs.ext hs.1.rel e es vs hv⟩, q, l1.ext e, l2.ext e⟩, l2⟩
theorem bindT {wa : WT} {f : Bool → WG α} {R : Bool → Hp → Prop} (h : lift K W Rr es vs (fun ds M Q Xc => wa ds M (fun d M1 => f d ds M1 Q Xc) Xc) σ H Q)
    (k : ∀ b H1, lift K W Rr es vs (f b) σ H1 Q → R b H1) : liftT K W wa σ H R := by
  obtain ⟨ds, M, F, Qd, Xd, hs, hv, hw, l1, l2⟩ := h
  exact ⟨ds, M, F, fun d M1 => f d ds M1 Qd Xd, Xd, hs, rfl, hw, fun v H' d M' e r dv q => k v H' ⟨ds, M', F, Qd, Xd, hs.ext e r, DVs.ext hs.1.rel e es vs hv, by rw [show v = d from dv]; exact q, l1.ext e, l2.ext e⟩, l2⟩
theorem bindO {wa : WG (Option Int)} {f : Option Int → WG α} {R : Option Int → Hp → Prop} (h : lift K W Rr es vs (fun ds M Q Xc => wa ds M (fun d M1 => f d ds M1 Q Xc) Xc) σ H Q)
    (k : ∀ b H1, lift K W Rr es vs (f b) σ H1 Q → R b H1) : liftO K W wa σ H R := by
  obtain ⟨ds, M, F, Qd, Xd, hs, hv, hw, l1, l2⟩ := h
  exact ⟨ds, M, F, fun d M1 => f d ds M1 Qd Xd, Xd, hs, rfl, hw, fun v H' d M' e r dv q => k v H' ⟨ds, M', F, Qd, Xd, hs.ext e r, DVs.ext hs.1.rel e es vs hv, by rw [show v = d from dv]; exact q, l1.ext e, l2.ext e⟩, l2⟩
theorem DVs.app : ∀ {ds es : List D} {xs ys : List V}, DVs K H M ds xs → DVs K H M es ys → DVs K H M (ds ++ es) (xs ++ ys)
  | [], es, xs, ys, h, g => by
    have e : xs = [] := h
    subst e
    exact g
  | d :: ds, es, xs, ys, h, g => by
    obtain ⟨y, zs, e, h1, h2⟩ := h
    subst e
    exact ⟨y, zs ++ ys, rfl, h1, DVs.app h2 g⟩
theorem bindA {wa : WA} {f : List D → WG α} {R : List V → Hp → Prop} (h : lift K W Rr es vs (fun ds M Q Xc => wa ds M (fun d M1 => f d ds M1 Q Xc) Xc) σ H Q)
    (k : ∀ v d H1, lift K W Rr (d ++ es) (v ++ vs) (f d) σ H1 Q → R v H1) : liftA K W wa σ H R := by
  obtain ⟨ds, M, F, Qd, Xd, hs, hv, hw, l1, l2⟩ := h
  exact ⟨ds, M, F, fun d M1 => f d ds M1 Qd Xd, Xd, hs, rfl, hw, fun v H' d M' e r dv q => k v d H' ⟨ds, M', F, Qd, Xd, hs.ext e r, DVs.app dv (DVs.ext hs.1.rel e es vs hv), q, l1.ext e, l2.ext e⟩, l2⟩
end

section
variable {X : Cx} {W : WX} {e : Expr} {t t' : TE}
theorem pe_mono (h : PE X e t) (i : ∀ σ H Q, t' σ H Q → t σ H Q) : PE X e t' := ⟨fun pins s σ H Q I hw => h.run pins s σ H Q I (i σ H Q hw)⟩
theorem pt_mono {t t' : TT} (h : PT X e t) (i : ∀ σ H Q, t' σ H Q → t σ H Q) : PT X e t' := ⟨fun pins s σ H Q I hw => h.run pins s σ H Q I (i σ H Q hw)⟩
theorem pw_mono {t t' : TT} (h : PW X e t) (i : ∀ σ H Q, t' σ H Q → t σ H Q) : PW X e t' := ⟨fun wh pins s σ H Q I hw => h.run wh pins s σ H Q I (i σ H Q hw)⟩
theorem pa_mono {es : List Expr} {t t' : TA} (h : PA X es t) (i : ∀ σ H Q, t' σ H Q → t σ H Q) : PA X es t' := ⟨fun pos pins s σ H Q I hw => h.run pos pins s σ H Q I (i σ H Q hw)⟩
theorem po_mono {o : Option Expr} {t t' : TO} (h : PO X o t) (i : ∀ σ H Q, t' σ H Q → t σ H Q) : PO X o t' := ⟨fun pins s σ H Q I hw => h.run pins s σ H Q I (i σ H Q hw)⟩
theorem ps_mono {st : Stmt} {t t' : TS} (h : PS X st t) (i : ∀ D σ H, t' D σ H → t D σ H) : PS X st t' := ⟨fun pins s σ H D I hw => h.run pins s σ H D I (i D σ H hw)⟩
theorem pss_mono {st : List Stmt} {t t' : TS} (h : PSs X st t) (i : ∀ D σ H, t' D σ H → t D σ H) : PSs X st t' := ⟨fun pins s σ H D I hw => h.run pins s σ H D I (i D σ H hw)⟩
end

/-! ### names, constants -/
def wGet : Option (Option D) → (D → Prop) → Prop
  | some (some d), k => k d
  | _, _ => False
def wVar (i : Nat) : WE := fun ds M Q _ => wGet ds[i]? fun d => Q d M
def wC (d : D) : WE := fun _ M Q _ => Q d M
section
variable {X : Cx} {W : WX}
theorem jv (i : Nat) {x : Str} {pos : Pos} (hN : X.N[i]? = some x := by rfl) (hv : Vis X.env.scope x := by first | exact Or.inl rfl | exact Or.inr (Or.inl rfl) | exact Or.inr (Or.inr rfl)) (hd : (x == ("__debug__" : Str)) = false := by decide)
    (hcd : (x == ("__classdict__" : Str)) = false := by decide) : JE X W (.Name x pos) (wVar i) := pe_mono (pe_var hN hv hd hcd) fun σ H Q h => by
  obtain ⟨ds, M, F, Qd, Xd, hs, _, hw, l1, _⟩ := h
  unfold wVar at hw
  cases e : ds[i]? with
  | none => rw [e] at hw; exact hw.elim
  | some o =>
    cases o with
    | none => rw [e] at hw; exact hw.elim
    | some d =>
      rw [e] at hw
      obtain ⟨v, h1, h2⟩ := hs.2.2 i d e
      exact ⟨v, h1, l1 v H d M Ext.rfl' hs.1 h2 hw⟩
/-- a constant -/
theorem je_c {e : Expr} {v : V} {d : D} (h : PE X e (tC v)) (r : ∀ H M, DV X.K H M d v) : JE X W e (wC d) := pe_mono h fun σ H Q h => by
  obtain ⟨ds, M, F, Qd, Xd, hs, _, hw, l1, _⟩ := h
  exact l1 v H d M Ext.rfl' hs.1 (r H _) hw
theorem j_int {i : Int} {j pos} : JE X W (.Constant (.int i) j pos) (wC (.int i)) := je_c pe_int fun _ _ => rfl
theorem j_bl {b : Bool} {j pos} : JE X W (.Constant (.bool b) j pos) (wC (.bl b)) := je_c pe_bl fun _ _ => rfl
theorem j_non {j pos} : JE X W (.Constant .none j pos) (wC .non) := je_c pe_non fun _ _ => rfl
theorem j_str {x : Str} {j pos} : JE X W (.Constant (.str x) j pos) (wC (.str x)) := je_c pe_str fun _ _ => rfl
/-- a module's constant -/
theorem j_glob {x : Str} {v : V} {d : D} {u : Value} {pos : Pos} (hm : X.mg x = some u) (r : RelV v u) (rd : ∀ H M, DV X.K H M d v) (hg : Gl X x := by rfl) (hd : (x == ("__debug__" : Str)) = false := by decide) : JE X W (.Name x pos) (wC d) := je_c (pe_glob hg hm r hd) rd
/-- a builtin's name as a value -/
theorem j_bltn {x : Str} {n : String} {pos : Pos} (hm : X.mg x = none) (hv : bootBuiltins x = some (.type n)) (hg : Gl X x := by rfl) (hn : x ≠ "__name__" := by decide) (hd : (x == ("__debug__" : Str)) = false := by decide) : JE X W (.Name x pos) (wC (.ty n)) :=
  je_c (pe_bltn (v := .ty n) hg hm hv rfl hn hd) fun _ _ => rfl
end

/-! ### operators by values -/
abbrev RD1 := D → Mem → KN → Prop
abbrev RD2 := D → D → Mem → KN → Prop
abbrev RDs := List D → Mem → KN → Prop
def liftV1 (K : PySem.W.Frag) (r : RD1) : V → Hp → VK → Prop := fun x H Q => ∃ d M F Qd, Rm K H M F ∧ DV K H (uni M F) d x ∧ r d M Qd ∧ LkG K F (rE K) H M Qd Q
def liftV2 (K : PySem.W.Frag) (r : RD2) : R2 := fun x y H Q => ∃ d e M F Qd, Rm K H M F ∧ DV K H (uni M F) d x ∧ DV K H (uni M F) e y ∧ r d e M Qd ∧ LkG K F (rE K) H M Qd Q
def liftVs (K : PySem.W.Frag) (r : RDs) : List V → Hp → VK → Prop := fun xs H Q => ∃ ds M F Qd, Rm K H M F ∧ DVs K H (uni M F) ds xs ∧ r ds M Qd ∧ LkG K F (rE K) H M Qd Q
def wOp (r : RD2) (wa wb : WE) : WE := fun ds M Q Xc => wa ds M (fun x M1 => wb ds M1 (fun y M2 => r x y M2 Q) Xc) Xc
def wUn (r : RD1) (wa : WE) : WE := fun ds M Q Xc => wa ds M (fun x M1 => r x M1 Q) Xc
def wCB (r : RDs) (wa : WA) : WE := fun ds M Q Xc => wa ds M (fun xs M1 => r xs M1 Q) Xc
section
variable {X : Cx} {W : WX} {a b : Expr} {wa wb : WE} {pos : Pos} {K : PySem.W.Frag} {σ : L2.St} {H : Hp} {Q : VK}
theorem fin2 {r : RD2} {x y : V} {d e : D} (h : lift K W (rE K) [e, d] [y, x] (fun _ M Q _ => r d e M Q) σ H Q) : liftV2 K r x y H Q := by
  obtain ⟨ds, M, F, Qd, Xd, hs, hv, hw, l1, _⟩ := h
  obtain ⟨_, _, e1, h1, _, _, e2, h2, e3⟩ := hv
  cases e1
  cases e2
  exact ⟨d, e, M, F, Qd, hs.1, h2, h1, hw, l1⟩
theorem fin1 {r : RD1} {x : V} {d : D} (h : lift K W (rE K) [d] [x] (fun _ M Q _ => r d M Q) σ H Q) : liftV1 K r x H Q := by
  obtain ⟨ds, M, F, Qd, Xd, hs, hv, hw, l1, _⟩ := h
  obtain ⟨_, _, e1, h1, _⟩ := hv
  cases e1
  exact ⟨d, M, F, Qd, hs.1, h1, hw, l1⟩
theorem finS {r : RDs} {xs : List V} {ds : List D} (h : lift K W (rE K) ds xs (fun _ M Q _ => r ds M Q) σ H Q) : liftVs K r xs H Q := by
  obtain ⟨_, M, F, Qd, Xd, hs, hv, hw, l1, _⟩ := h
  exact ⟨ds, M, F, Qd, hs.1, hv, hw, l1⟩
/-- a op b -/
theorem j_op {op : Operator} {r : RD2} (ho : OpR X (binaryOp op) (liftV2 X.K r)) (ha : JE X W a wa) (hb : JE X W b wb) : JE X W (.BinOp a op b pos) (wOp r wa wb) :=
  pe_mono (pe_op ho ha hb) fun σ H Q h => bindE (wa := wa) (f := fun x ds M Q Xc => wb ds M (fun y M2 => r x y M2 Q) Xc) h fun x d H1 h => bindE (wa := wb) (f := fun y _ M Q _ => r d y M Q) h fun y e H2 h => fin2 h
theorem j_un {op : UnaryOp} {r : RD1} (ho : UnR X (unaryOp op) (liftV1 X.K r)) (ha : JE X W a wa) : JE X W (.UnaryOp op a pos) (wUn r wa) :=
  pe_mono (pe_un ho ha) fun σ H Q h => bindE (wa := wa) (f := fun x _ M Q _ => r x M Q) h fun x d H1 h => fin1 h
/-- a comparison as a value -/
theorem j_cmp {op : CmpOp} {r : RD2} (ho : OpR X (compareOp op) (liftV2 X.K r)) (ha : JE X W a wa) (hb : JE X W b wb) (hm : behindInMarks op b = false := by first | exact nomark _ | rfl) : JE X W (.Compare a [op] [b] pos) (wOp r wa wb) :=
  pe_mono (pe_cmpR ho ha hb hm) fun σ H Q h => bindE (wa := wa) (f := fun x ds M Q Xc => wb ds M (fun y M2 => r x y M2 Q) Xc) h fun x d H1 h => bindE (wa := wb) (f := fun y _ M Q _ => r d y M Q) h fun y e H2 h => fin2 h
theorem j_ix {r : RD2} (hr : IxR X (liftV2 X.K r)) (ha : JE X W a wa) (hb : JE X W b wb) (hs : PlainIx b := by exact fun _ _ => rfl) : JE X W (.Subscript a b pos) (wOp r wa wb) :=
  pe_mono (pe_ix hr ha hb hs) fun σ H Q h => bindE (wa := wa) (f := fun x ds M Q Xc => wb ds M (fun y M2 => r x y M2 Q) Xc) h fun x d H1 h => bindE (wa := wb) (f := fun y _ M Q _ => r d y M Q) h fun y e H2 h => fin2 h
end

/-! ### arguments -/
def wNil : WA := fun _ M Q _ => Q [] M
def wCons (wa : WE) (wr : WA) : WA := fun ds M Q Xc => wa ds M (fun d M1 => wr ds M1 (fun xs M2 => Q (d :: xs) M2) Xc) Xc
section
variable {X : Cx} {W : WX} {e : Expr} {es : List Expr} {we : WE} {wr : WA} {pos : Pos}
theorem j_nil : JA X W [] wNil := pa_mono pa_nil fun σ H Q h => by
  obtain ⟨ds, M, F, Qd, Xd, hs, _, hw, l1, _⟩ := h
  exact l1 [] H [] M Ext.rfl' hs.1 rfl hw
theorem j_cons (ha : JE X W e we) (hr : JA X W es wr) (hs : starEach (e :: es) X.env = (false, eval e X.env) :: starEach es X.env := by rfl) : JA X W (e :: es) (wCons we wr) :=
  pa_mono (pa_cons ha hr hs) fun σ H Q h => bindE (wa := we) (f := fun d ds M Q Xc => wr ds M (fun xs M2 => Q (d :: xs) M2) Xc) h fun v d H1 h => bindA (wa := wr) (f := fun xs _ M Q _ => Q (d :: xs) M) h fun vs ds H2 h => by
    obtain ⟨_, M, F, Qd, Xd, hs, hv, hw, l1, _⟩ := h
    refine l1 (v :: vs) H2 (d :: ds) M Ext.rfl' hs.1 ?_ hw
    -- the values stand in the other order
    have key : ∀ (ds : List D) (vs : List V), DVs X.K H2 (uni M F) (ds ++ [d]) (vs ++ [v]) → DVs X.K H2 (uni M F) (d :: ds) (v :: vs) := by
      intro ds
      induction ds with
      | nil =>
        intro vs h
        obtain ⟨y, ys, e, h1, h2⟩ := h
        have e2 : ys = [] := h2
        subst e2
        cases vs with
        | nil => cases e; exact ⟨_, _, rfl, h1, rfl⟩
        | cons z zs =>
          exfalso
          have := congrArg List.length e
          simp at this
      | cons c cs ih =>
        intro vs h
        obtain ⟨y, ys, e, h1, h2⟩ := h
        cases vs with
        | nil =>
          exfalso
          have e3 : ys = [] := by
            have := congrArg List.length e
            simp at this
            exact this
          subst e3
          cases cs with
          | nil => obtain ⟨_, _, z, _⟩ := h2; cases z
          | cons _ _ => obtain ⟨_, _, z, _⟩ := h2; cases z
        | cons z zs =>
          cases e
          obtain ⟨y2, ys2, e2, g1, g2⟩ := ih zs h2
          cases e2
          exact ⟨_, _, rfl, g1, ⟨_, _, rfl, h1, g2⟩⟩
    exact key ds vs hv
end
end DL
namespace DL
open PySem PySem.Spec PyProof.Rows L2

/-! ### heaps that grow or change -/
section
variable {K : PySem.W.Frag} {H H' : Hp} {M M' : Mem}
theorem TabM.ext {a : Addr} {q : Str} (e : Ext H M H' M') (h : TabM H M a q) (hs : ∀ u, H a = some u → H' a = some u) : TabM H' M' a q := by
  obtain ⟨ps, h1, h2, h3⟩ := h
  refine ⟨ps, hs _ h1, h2, fun pos cv hc => ?_⟩
  obtain ⟨c, e1, e2, e3⟩ := h3 pos cv hc
  obtain ⟨g1, g2⟩ := e.at e2 e3 ⟨LamX.codeO_ne, fun o' z => by
    unfold core at z
    split at z
    · cases z
    · exact z⟩
  exact ⟨c, e1, g1, g2⟩
theorem MOk.ext (R : RelM K H M) (e : Ext H M H' M') {a : Addr} {o : MO} (h : MOk K H M a o)
    (hs : ∀ u, H a = some u → H' a = some u) : MOk K H' M' a o := by
  cases o with
  | lst ds => obtain ⟨xs, h1, h2⟩ := h; exact ⟨xs, hs _ h1, DVs.ext R e ds xs h2⟩
  | dct ks ds => obtain ⟨kvs, h1, h2, h3⟩ := h; exact ⟨kvs, hs _ h1, h2, DVs.ext R e ds _ h3⟩
  | ins C ns ds => obtain ⟨dx, fs, h1, h2, h3⟩ := h; exact ⟨dx, fs, hs _ h1, h2, DVs.ext R e ds _ h3⟩
  | tab q => exact TabM.ext e h hs
theorem RelM.free (R : RelM K H M) {p : Addr} (h : H p = none) : M p = none := by
  cases e : M p with
  | none => rfl
  | some o =>
    have q := R p o e
    cases o with
    | lst ds => obtain ⟨_, q, _⟩ := q; rw [h] at q; cases q
    | dct ks ds => obtain ⟨_, q, _⟩ := q; rw [h] at q; cases q
    | ins C ns ds => obtain ⟨_, _, q, _⟩ := q; rw [h] at q; cases q
    | tab q' => obtain ⟨_, q, _⟩ := q; rw [h] at q; cases q
/-- a new object that nobody owns -/
theorem new_ext (R : RelM K H M) {p : Addr} {o : HO} (h : H p = none) : Ext H M (upd H p o) M := fun a u e m _ => ⟨⟨u, by rw [upd_ne (ne_of_none e h)]; exact e, rfl⟩, m⟩
theorem new_rel (R : RelM K H M) {p : Addr} {o : HO} (h : H p = none) : RelM K (upd H p o) M := fun a u e =>
  MOk.ext R (new_ext R h) (R a u e) fun w q => by rw [upd_ne (ne_of_none q h)]; exact q
/-- a new owned object -/
theorem own_ext (R : RelM K H M) {p : Addr} {o : HO} {u : MO} (h : H p = none) : Ext H M (upd H p o) (mput M p u) := fun a w e m _ =>
  ⟨⟨w, by rw [upd_ne (ne_of_none e h)]; exact e, rfl⟩, by rw [mput_ne (ne_of_none e h)]; exact m⟩
theorem own_rel (R : RelM K H M) {p : Addr} {o : HO} {u : MO} (h : H p = none) (ok : MOk K (upd H p o) (mput M p u) p u) : RelM K (upd H p o) (mput M p u) := fun a w e => by
  by_cases ha : a = p
  · subst ha
    rw [mput_same] at e
    cases e
    exact ok
  · rw [mput_ne ha] at e
    exact MOk.ext R (own_ext R h) (R a w e) fun w q => by rw [upd_ne ha]; exact q
/-- an owned object is changed -/
theorem set_ext {p : Addr} {o : HO} {u v : MO} (h : M p = some v) : Ext H M (upd H p o) (mput M p u) := fun a w e m _ => by
  have ha : a ≠ p := fun z => by subst z; rw [h] at m; cases m
  exact ⟨⟨w, by rw [upd_ne ha]; exact e, rfl⟩, by rw [mput_ne ha]; exact m⟩
theorem set_rel (R : RelM K H M) {p : Addr} {o : HO} {u v : MO} (h : M p = some v) (ok : MOk K (upd H p o) (mput M p u) p u) : RelM K (upd H p o) (mput M p u) := fun a w e => by
  by_cases ha : a = p
  · subst ha
    rw [mput_same] at e
    cases e
    exact ok
  · rw [mput_ne ha] at e
    exact MOk.ext R (set_ext h) (R a w e) fun w q => by rw [upd_ne ha]; exact q
theorem DVs.len : ∀ {ds : List D} {xs : List V}, DVs K H M ds xs → xs.length = ds.length
  | [], xs, h => by
    have e : xs = [] := h
    subst e
    rfl
  | d :: ds, xs, h => by
    obtain ⟨y, ys, e, _, h2⟩ := h
    subst e
    show ys.length + 1 = ds.length + 1
    rw [DVs.len h2]
theorem DVs.get : ∀ {ds : List D} {xs : List V} {i : Nat} {d : D}, DVs K H M ds xs → ds[i]? = some d → ∃ x, xs[i]? = some x ∧ DV K H M d x
  | [], _, _, _, _, h => by simp at h
  | d :: ds, xs, 0, d', h, e => by
    obtain ⟨y, ys, e1, h1, _⟩ := h
    subst e1
    have e2 : d = d' := Option.some.inj e
    subst e2
    exact ⟨y, rfl, h1⟩
  | d :: ds, xs, i + 1, d', h, e => by
    obtain ⟨y, ys, e1, _, h2⟩ := h
    subst e1
    exact DVs.get (i := i) h2 e
theorem DVs.of_get : ∀ {ds : List D} {xs : List V}, xs.length = ds.length → (∀ (i : Nat) (d : D), ds[i]? = some d → ∃ x, xs[i]? = some x ∧ DV K H M d x) → DVs K H M ds xs
  | [], xs, h, _ => List.eq_nil_of_length_eq_zero h
  | d :: ds, [], h, _ => by cases h
  | d :: ds, x :: xs, h, g => by
    obtain ⟨y, e, q⟩ := g 0 d rfl
    cases e
    exact ⟨x, xs, rfl, q, DVs.of_get (Nat.succ.inj h) fun i d' e => g (i + 1) d' e⟩
theorem DVs.take {ds : List D} {xs : List V} (h : DVs K H M ds xs) (n : Nat) : DVs K H M (ds.take n) (xs.take n) :=
  DVs.of_get (by rw [List.length_take, List.length_take, h.len]) fun i d e => by
    rw [List.getElem?_take] at e ⊢
    split at e
    · rename_i hi
      rw [if_pos hi]
      exact h.get e
    · cases e
theorem DVs.drop {ds : List D} {xs : List V} (h : DVs K H M ds xs) (n : Nat) : DVs K H M (ds.drop n) (xs.drop n) :=
  DVs.of_get (by rw [List.length_drop, List.length_drop, h.len]) fun i d e => by
    rw [List.getElem?_drop] at e ⊢
    exact h.get e
theorem Rm.mfree {F : Mem} (R : Rm K H M F) {p : Addr} (h : H p = none) : M p = none := (uni_none (R.rel.free h)).2
theorem Rm.new {F : Mem} (R : Rm K H M F) {p : Addr} {o : HO} (h : H p = none) : Rm K (upd H p o) M F := ⟨new_rel R.rel h, R.dj⟩
theorem Rm.xown {F : Mem} (R : Rm K H M F) {p : Addr} {o : HO} {u : MO} (h : H p = none) : Ext H (uni M F) (upd H p o) (uni (mput M p u) F) := by
  rw [uni_put (uni_none (R.rel.free h)).1]
  exact own_ext R.rel h
theorem Rm.own {F : Mem} (R : Rm K H M F) {p : Addr} {o : HO} {u : MO} (h : H p = none) (ok : MOk K (upd H p o) (uni (mput M p u) F) p u) : Rm K (upd H p o) (mput M p u) F := by
  have hf := (uni_none (R.rel.free h)).1
  refine ⟨?_, fun a w e => ?_⟩
  · rw [uni_put hf] at ok ⊢
    exact own_rel R.rel h ok
  · rw [mput_ne (fun z => by subst z; rw [hf] at e; cases e)]
    exact R.dj a w e
theorem Rm.xset {F : Mem} (R : Rm K H M F) {p : Addr} {o : HO} {u v : MO} (h : M p = some v) : Ext H (uni M F) (upd H p o) (uni (mput M p u) F) := by
  rw [uni_put (R.fr h)]
  exact set_ext (R.at h)
theorem Rm.set {F : Mem} (R : Rm K H M F) {p : Addr} {o : HO} {u v : MO} (h : M p = some v) (ok : MOk K (upd H p o) (uni (mput M p u) F) p u) : Rm K (upd H p o) (mput M p u) F := by
  have hf := R.fr h
  refine ⟨?_, fun a w e => ?_⟩
  · rw [uni_put hf] at ok ⊢
    exact set_rel R.rel (R.at h) ok
  · rw [mput_ne (fun z => by subst z; rw [hf] at e; cases e)]
    exact R.dj a w e
end

/-! ### plain data: as the library's PyData -/
mutual
def toPy : D → PyData
  | .non => .none
  | .bl b => .bool b
  | .int i => .int i
  | .str x => .str x
  | .tup xs => .tuple (toPys xs)
  | .lst xs => .list (toPys xs)
  | _ => .none
def toPys : List D → List PyData
  | [] => []
  | d :: ds => toPy d :: toPys ds
end
mutual
/-- plain data, at most n deep -/
def Dat : D → Nat → Prop
  | .non, _ => True
  | .bl _, _ => True
  | .int _, _ => True
  | .str x, _ => PyData.strOk x = true
  | .tup xs, n => 0 < n ∧ Dats xs (n - 1)
  | .lst xs, n => 0 < n ∧ Dats xs (n - 1)
  | _, _ => False
def Dats : List D → Nat → Prop
  | [], _ => True
  | d :: ds, n => Dat d n ∧ Dats ds n
end
mutual
theorem Dat.lay : ∀ {d : D} {n : Nat}, Dat d n → (toPy d).canLay0 = true ∧ (toPy d).depth ≤ n
  | .non, n, _ => ⟨rfl, Nat.zero_le _⟩
  | .bl _, n, _ => ⟨rfl, Nat.zero_le _⟩
  | .int _, n, _ => ⟨rfl, Nat.zero_le _⟩
  | .str x, n, h => ⟨h, Nat.zero_le _⟩
  | .tup xs, n, h => by
    obtain ⟨h0, h⟩ := h
    obtain ⟨q1, q2⟩ := Dats.lay h
    exact ⟨q1, by show PyData.depthAll (toPys xs) + 1 ≤ n; omega⟩
  | .lst xs, n, h => by
    obtain ⟨h0, h⟩ := h
    obtain ⟨q1, q2⟩ := Dats.lay h
    exact ⟨q1, by show PyData.depthAll (toPys xs) + 1 ≤ n; omega⟩
  | .ty _, n, h => h.elim
  | .ref _, n, h => h.elim
  | .dct _ _, n, h => h.elim
  | .ins _ _ _, n, h => h.elim
  | .scr _, n, h => h.elim
  | .tpn _, n, h => h.elim
  | .exc _ _ _ _ _, n, h => h.elim
theorem Dats.lay : ∀ {ds : List D} {n : Nat}, Dats ds n → PyData.canLayAll0 (toPys ds) = true ∧ PyData.depthAll (toPys ds) ≤ n
  | [], n, _ => ⟨rfl, Nat.zero_le _⟩
  | d :: ds, n, h => by
    obtain ⟨h1, h2⟩ := h
    obtain ⟨q1, q2⟩ := Dat.lay h1
    obtain ⟨r1, r2⟩ := Dats.lay h2
    refine ⟨?_, ?_⟩
    · show ((toPy d).canLay0 && PyData.canLayAll0 (toPys ds)) = true
      rw [q1, r1]
      rfl
    · show max (toPy d).depth (PyData.depthAll (toPys ds)) ≤ n
      omega
end
theorem Dat.shaped {d : D} {n : Nat} (h : Dat d n) (hn : n ≤ 64) : SeqAt.shaped (toPy d) = true := by
  obtain ⟨q1, q2⟩ := h.lay
  unfold SeqAt.shaped
  rw [q1, decide_eq_true (Nat.le_trans q2 hn)]
  rfl
section
variable {K : PySem.W.Frag} {H : Hp} {M : Mem}
mutual
theorem Dat.dp : ∀ {d : D} {n : Nat} {v : V}, Dat d n → DV K H M d v → Dp K H v (toPy d)
  | .non, n, v, _, h => by cases (show v = .non from h); exact .non
  | .bl b, n, v, _, h => by cases (show v = .bl b from h); exact .bl b
  | .int i, n, v, _, h => by cases (show v = .int i from h); exact .int i
  | .str x, n, v, _, h => by cases (show v = .str x from h); exact .str x
  | .tup xs, n, v, p, h => by
    obtain ⟨a, ys, h1, h2, h3⟩ := h
    subst h1
    exact .tup h2 (Dats.dp p.2 h3)
  | .lst xs, n, v, p, h => by
    obtain ⟨a, ys, h1, h2, _, h3⟩ := h
    subst h1
    exact .lst (SqL.of h2) (Dats.dp p.2 h3)
  | .ty _, n, v, p, _ => p.elim
  | .ref _, n, v, p, _ => p.elim
  | .dct _ _, n, v, p, _ => p.elim
  | .ins _ _ _, n, v, p, _ => p.elim
  | .scr _, n, v, p, _ => p.elim
  | .tpn _, n, v, p, _ => p.elim
  | .exc _ _ _ _ _, n, v, p, _ => p.elim
theorem Dats.dp : ∀ {ds : List D} {n : Nat} {vs : List V}, Dats ds n → DVs K H M ds vs → DpAll K H vs (toPys ds)
  | [], n, vs, _, h => by
    have e : vs = [] := h
    subst e
    exact .nil
  | d :: ds, n, vs, p, h => by
    obtain ⟨y, ys, e, h1, h2⟩ := h
    subst e
    exact .cons (Dat.dp p.1 h1) (Dats.dp p.2 h2)
end
end
/-- == of plain data -/
def deq (d e : D) : Bool := PyData.eqv (toPy d) (toPy e)

/-! ### arithmetic -/
def rAddD : RD2 := fun d e M Q => match d, e with
  | .int i, .int j => Q (.int (i + j)) M
  | .str x, .str y => x.length + y.length ≤ sizeLine ∧ Q (.str (x ++ y)) M
  | .tup xs, .tup ys => xs.length + ys.length ≤ sizeLine ∧ Q (.tup (xs ++ ys)) M
  | .lst xs, .lst ys => xs.length + ys.length ≤ sizeLine ∧ Q (.lst (xs ++ ys)) M
  | _, _ => False
def rIntD (C : Int → Int → Prop) (g : Int → Int → D) : RD2 := fun d e M Q => match d, e with
  | .int i, .int j => C i j ∧ Q (g i j) M
  | _, _ => False
def rInt0D (g : Int → Int → D) : RD2 := fun d e M Q => match d, e with
  | .int i, .int j => Q (g i j) M
  | _, _ => False
section
variable {X : Cx}
theorem od_int {f : Value → Value → Sem Value} {C : Int → Int → Prop} {gv : Int → Int → V} {g : Int → Int → D} (h : OpR X f (rI C gv)) (r : ∀ i j H M, DV X.K H M (g i j) (gv i j)) : OpR X f (liftV2 X.K (rIntD C g)) := by
  intro pins s σ H x y v u Q I rx ry hh
  obtain ⟨d, e, M, F, Qd, R, h1, h2, h3, l⟩ := hh
  cases d <;> first | exact h3.elim | skip
  cases e <;> first | exact h3.elim | skip
  rename_i i j
  cases (show x = .int i from h1)
  cases (show y = .int j from h2)
  exact h pins s σ H _ _ v u Q I rx ry ⟨i, j, rfl, rfl, h3.1, l _ H _ M Ext.rfl' R (r i j H _) h3.2⟩
theorem od_int0 {f : Value → Value → Sem Value} {gv : Int → Int → V} {g : Int → Int → D} (h : OpR X f (rI0 gv)) (r : ∀ i j H M, DV X.K H M (g i j) (gv i j)) : OpR X f (liftV2 X.K (rInt0D g)) := by
  intro pins s σ H x y v u Q I rx ry hh
  obtain ⟨d, e, M, F, Qd, R, h1, h2, h3, l⟩ := hh
  cases d <;> first | exact h3.elim | skip
  cases e <;> first | exact h3.elim | skip
  rename_i i j
  cases (show x = .int i from h1)
  cases (show y = .int j from h2)
  exact h pins s σ H _ _ v u Q I rx ry ⟨i, j, rfl, rfl, l _ H _ M Ext.rfl' R (r i j H _) h3⟩
theorem od_sub : OpR X (binaryOp .Sub) (liftV2 X.K (rInt0D fun i j => .int (i - j))) := od_int0 op_sub fun _ _ _ _ => rfl
theorem od_mul : OpR X (binaryOp .Mult) (liftV2 X.K (rIntD CMul fun i j => .int (i * j))) := od_int op_mul fun _ _ _ _ => rfl
theorem od_fdiv : OpR X (binaryOp .FloorDiv) (liftV2 X.K (rIntD CDiv fun i j => .int (i / j))) := od_int op_fdiv fun _ _ _ _ => rfl
theorem od_mod : OpR X (binaryOp .Mod) (liftV2 X.K (rIntD (fun _ j => 0 < j) fun i j => .int (i % j))) := od_int op_mod fun _ _ _ _ => rfl
theorem od_pow : OpR X (binaryOp .Pow) (liftV2 X.K (rIntD CPow fun i j => .int (i ^ j.toNat))) := od_int op_pow fun _ _ _ _ => rfl
theorem od_lt : OpR X (compareOp .Lt) (liftV2 X.K (rInt0D fun i j => .bl (decide (i < j)))) := od_int0 op_lt fun _ _ _ _ => rfl
theorem od_le : OpR X (compareOp .LtE) (liftV2 X.K (rInt0D fun i j => .bl (decide (i ≤ j)))) := od_int0 op_le fun _ _ _ _ => rfl
theorem od_gt : OpR X (compareOp .Gt) (liftV2 X.K (rInt0D fun i j => .bl (decide (j < i)))) := od_int0 op_gt fun _ _ _ _ => rfl
theorem od_ge : OpR X (compareOp .GtE) (liftV2 X.K (rInt0D fun i j => .bl (decide (j ≤ i)))) := od_int0 op_ge fun _ _ _ _ => rfl
theorem od_add : OpR X (binaryOp .Add) (liftV2 X.K rAddD) := by
  intro pins s σ H x y v u Q I rx ry hh
  obtain ⟨d, e, M, F, Qd, R, h1, h2, h3, l⟩ := hh
  cases d <;> first | exact h3.elim | skip
  · cases e <;> first | exact h3.elim | skip
    rename_i i j
    cases (show x = .int i from h1)
    cases (show y = .int j from h2)
    exact op_add pins s σ H _ _ v u Q I rx ry ⟨i, j, rfl, rfl, l _ H (.int (i + j)) M Ext.rfl' R rfl h3⟩
  · cases e <;> first | exact h3.elim | skip
    rename_i i j
    cases (show x = .str i from h1)
    cases (show y = .str j from h2)
    exact op_add_str pins s σ H _ _ v u Q I rx ry ⟨i, j, rfl, rfl, h3.1, l _ H (.str (i ++ j)) M Ext.rfl' R rfl h3.2⟩
  · cases e <;> first | exact h3.elim | skip
    rename_i ds es
    obtain ⟨a, xs, e1, a2, a3⟩ := h1
    obtain ⟨b, ys, e2, b2, b3⟩ := h2
    subst e1
    subst e2
    have n1 := a3.len
    have n2 := b3.len
    refine op_catA pins s σ H _ _ v u Q I rx ry ⟨a, b, xs, ys, rfl, rfl, a2, b2, by rw [n1, n2]; exact h3.1, fun z => ?_, fun _ z => ?_, fun _ _ p hp => ?_⟩
    · subst z
      have z' : ds = [] := List.eq_nil_of_length_eq_zero n1.symm
      subst z'
      exact l _ H (.tup es) M Ext.rfl' R ⟨b, ys, rfl, b2, b3⟩ h3.2
    · subst z
      have z' : es = [] := List.eq_nil_of_length_eq_zero n2.symm
      subst z'
      refine l _ H (.tup ds) M Ext.rfl' R ⟨a, xs, rfl, a2, a3⟩ ?_
      have q := h3.2
      rw [List.append_nil] at q
      exact q
    · have e' := new_ext R.rel (o := HO.tup (xs ++ ys)) hp
      exact l _ _ (.tup (ds ++ es)) M e' (R.new hp) ⟨p, xs ++ ys, rfl, SqT.of upd_same, DVs.app (DVs.ext R.rel e' _ _ a3) (DVs.ext R.rel e' _ _ b3)⟩ h3.2
  · cases e <;> first | exact h3.elim | skip
    rename_i ds es
    obtain ⟨a, xs, e1, a2, am, a3⟩ := h1
    obtain ⟨b, ys, e2, b2, bm, b3⟩ := h2
    subst e1
    subst e2
    refine op_cat pins s σ H _ _ v u Q I rx ry ⟨a, b, xs, ys, rfl, rfl, a2, b2, by rw [a3.len, b3.len]; exact h3.1, fun p hp => ?_⟩
    have e' := new_ext R.rel (o := HO.lst (xs ++ ys)) hp
    exact l _ _ (.lst (ds ++ es)) M e' (R.new hp) ⟨p, xs ++ ys, rfl, upd_same, R.rel.free hp, DVs.app (DVs.ext R.rel e' _ _ a3) (DVs.ext R.rel e' _ _ b3)⟩ h3.2
end

/-! ### comparisons -/
def rEqD (neg : Bool) : RD2 := fun d e M Q => match d, e with
  | .int i, .int j => Q (.bl (xor neg (decide (i = j)))) M
  | .str x, .str y => Q (.bl (xor neg (decide (x = y)))) M
  | .bl x, .bl y => Q (.bl (xor neg (decide (x = y)))) M
  | d, e => Dat d 60 ∧ Dat e 60 ∧ Q (.bl (xor neg (deq d e))) M
/-- x is None -/
def rIsND (neg : Bool) : RD2 := fun d e M Q => match e with
  | .non => match d with
    | .non => Q (.bl (!neg)) M
    | _ => Q (.bl neg) M
  | _ => False
section
variable {X : Cx}
theorem od_eq (hu : X.A.units + 64 < cLine) : OpR X (compareOp .Eq) (liftV2 X.K (rEqD false)) := by
  intro pins s σ H x y v u Q I rx ry hh
  obtain ⟨d, e, M, F, Qd, R, h1, h2, h3, l⟩ := hh
  have deep : Dat d 60 ∧ Dat e 60 ∧ Qd (.bl (xor false (deq d e))) M → wpAny (model X.prog X.w) X.A (compareOp .Eq v u) (EP X pins σ Q) X.xe s := fun ⟨p1, p2, q⟩ =>
    op_eqD hu pins s σ H x y v u Q I rx ry ⟨toPy d, toPy e, p1.dp h1, p2.dp h2, p1.shaped (by decide), p2.shaped (by decide), l _ H (.bl (deq d e)) M Ext.rfl' R rfl (by rw [Bool.false_xor] at q; exact q)⟩
  unfold rEqD at h3
  split at h3
  · rename_i i j
    cases (show x = .int i from h1)
    cases (show y = .int j from h2)
    refine op_eq pins s σ H _ _ v u Q I rx ry ⟨rfl, l _ H (.bl _) M Ext.rfl' R rfl ?_⟩
    rw [Bool.false_xor] at h3
    have e : decide (V.int i = V.int j) = decide (i = j) := by simp
    rw [e]; exact h3
  · rename_i i j
    cases (show x = .str i from h1)
    cases (show y = .str j from h2)
    refine op_eq pins s σ H _ _ v u Q I rx ry ⟨rfl, l _ H (.bl _) M Ext.rfl' R rfl ?_⟩
    rw [Bool.false_xor] at h3
    have e : decide (V.str i = V.str j) = decide (i = j) := by simp
    rw [e]; exact h3
  · rename_i i j
    cases (show x = .bl i from h1)
    cases (show y = .bl j from h2)
    refine op_eq pins s σ H _ _ v u Q I rx ry ⟨rfl, l _ H (.bl _) M Ext.rfl' R rfl ?_⟩
    rw [Bool.false_xor] at h3
    have e : decide (V.bl i = V.bl j) = decide (i = j) := by simp
    rw [e]; exact h3
  · exact deep h3
theorem od_ne (hu : X.A.units + 64 < cLine) : OpR X (compareOp .NotEq) (liftV2 X.K (rEqD true)) := by
  intro pins s σ H x y v u Q I rx ry hh
  obtain ⟨d, e, M, F, Qd, R, h1, h2, h3, l⟩ := hh
  have deep : Dat d 60 ∧ Dat e 60 ∧ Qd (.bl (xor true (deq d e))) M → wpAny (model X.prog X.w) X.A (compareOp .NotEq v u) (EP X pins σ Q) X.xe s := fun ⟨p1, p2, q⟩ =>
    op_neD hu pins s σ H x y v u Q I rx ry ⟨toPy d, toPy e, p1.dp h1, p2.dp h2, p1.shaped (by decide), p2.shaped (by decide), l _ H (.bl (!deq d e)) M Ext.rfl' R rfl (by rw [Bool.true_xor] at q; exact q)⟩
  unfold rEqD at h3
  split at h3
  · rename_i i j
    cases (show x = .int i from h1)
    cases (show y = .int j from h2)
    refine op_ne pins s σ H _ _ v u Q I rx ry ⟨rfl, l _ H (.bl _) M Ext.rfl' R rfl ?_⟩
    rw [Bool.true_xor] at h3
    have e : decide (V.int i = V.int j) = decide (i = j) := by simp
    rw [e]; exact h3
  · rename_i i j
    cases (show x = .str i from h1)
    cases (show y = .str j from h2)
    refine op_ne pins s σ H _ _ v u Q I rx ry ⟨rfl, l _ H (.bl _) M Ext.rfl' R rfl ?_⟩
    rw [Bool.true_xor] at h3
    have e : decide (V.str i = V.str j) = decide (i = j) := by simp
    rw [e]; exact h3
  · rename_i i j
    cases (show x = .bl i from h1)
    cases (show y = .bl j from h2)
    refine op_ne pins s σ H _ _ v u Q I rx ry ⟨rfl, l _ H (.bl _) M Ext.rfl' R rfl ?_⟩
    rw [Bool.true_xor] at h3
    have e : decide (V.bl i = V.bl j) = decide (i = j) := by simp
    rw [e]; exact h3
  · exact deep h3
theorem isN_of {K : PySem.W.Frag} {H : Hp} {M : Mem} {d : D} {x : V} (h : DV K H M d x) : decide (x = .non) = (match d with | .non => true | _ => false) := by
  cases d with
  | non => cases (show x = .non from h); rfl
  | bl b => cases (show x = .bl b from h); rfl
  | int b => cases (show x = .int b from h); rfl
  | str b => cases (show x = .str b from h); rfl
  | ty b => cases (show x = .ty b from h); rfl
  | ref b => cases (show x = .ref b from h); rfl
  | tup b => obtain ⟨_, _, e, _⟩ := h; subst e; rfl
  | lst b => obtain ⟨_, _, e, _⟩ := h; subst e; rfl
  | dct b c => obtain ⟨_, _, e, _⟩ := h; subst e; rfl
  | ins a b c => obtain ⟨_, _, _, e, _⟩ := h; subst e; rfl
  | scr b => obtain ⟨_, e, _⟩ := h; subst e; rfl
  | tpn b => obtain ⟨_, _, _, e, _⟩ := h; subst e; rfl
  | exc _ _ _ _ _ => obtain ⟨e, _⟩ := h; subst e; rfl
theorem od_isN : OpR X (compareOp .Is) (liftV2 X.K (rIsND false)) := by
  intro pins s σ H x y v u Q I rx ry hh
  obtain ⟨d, e, M, F, Qd, R, h1, h2, h3, l⟩ := hh
  cases e <;> first | exact h3.elim | skip
  cases (show y = .non from h2)
  refine op_isN pins s σ H _ _ v u Q I rx ry ⟨rfl, l _ H (.bl _) M Ext.rfl' R rfl ?_⟩
  rw [isN_of h1]
  cases d <;> exact h3
theorem od_notN : OpR X (compareOp .IsNot) (liftV2 X.K (rIsND true)) := by
  intro pins s σ H x y v u Q I rx ry hh
  obtain ⟨d, e, M, F, Qd, R, h1, h2, h3, l⟩ := hh
  cases e <;> first | exact h3.elim | skip
  cases (show y = .non from h2)
  refine op_notN pins s σ H _ _ v u Q I rx ry ⟨rfl, l _ H (.bl _) M Ext.rfl' R rfl ?_⟩
  rw [isN_of h1]
  cases d <;> exact h3
end
end DL
namespace DL
open PySem PySem.Spec PyProof.Rows L2

def optK {α : Type} : Option α → (α → Prop) → Prop
  | some a, k => k a
  | none, _ => False
theorem optK_of {α : Type} {o : Option α} {k : α → Prop} (h : optK o k) : ∃ a, o = some a ∧ k a := by
  cases o with
  | none => exact h.elim
  | some a => exact ⟨a, rfl, h⟩
def moSeq : Option MO → Option (List D)
  | some (.lst xs) => some xs
  | _ => none
def moTy : Option MO → Option String
  | some (.lst _) => some "list"
  | some (.dct _ _) => some "dict"
  | _ => none
/-- the items of what is a list or a tuple -/
def seqOf (M : Mem) : D → Option (List D)
  | .lst xs => some xs
  | .tup xs => some xs
  | .ref a => moSeq (M a)
  | _ => none
/-- the type's name -/
def tyN (M : Mem) : D → Option String
  | .non => some "NoneType"
  | .bl _ => some "bool"
  | .int _ => some "int"
  | .str _ => some "str"
  | .tup _ => some "tuple"
  | .lst _ => some "list"
  | .dct _ _ => some "dict"
  | .ref a => moTy (M a)
  | _ => none
def isB (a b : String) : Bool := a == b || (a == "bool" && b == "int")
theorem isB_ok : ∀ a ∈ ["NoneType", "bool", "int", "str", "tuple", "list", "dict"], ∀ b ∈ ["bool", "int", "str", "tuple", "list", "dict"], kitB a b = some (isB a b) := by decide +kernel
section
variable {K : PySem.W.Frag} {H : Hp} {M F : Mem}
theorem seqOf_ok (R : Rm K H M F) {d : D} {xs : List D} {x : V} (h : seqOf M d = some xs) (g : DV K H (uni M F) d x) : ∃ a ys, x = .ref a ∧ (SqL K H a ys ∨ SqT K H a ys) ∧ DVs K H (uni M F) xs ys := by
  cases d <;> first | cases h | skip
  · rename_i a
    cases (show x = .ref a from g)
    have h' : moSeq (M a) = some xs := h
    unfold moSeq at h'
    split at h'
    · rename_i ys e
      cases h'
      obtain ⟨zs, q1, q2⟩ := R.get e
      exact ⟨a, zs, rfl, .inl (SqL.of q1), q2⟩
    · cases h'
  · obtain ⟨a, ys, e, q1, q2⟩ := g
    exact ⟨a, ys, e, .inr q1, q2⟩
  · obtain ⟨a, ys, e, q1, _, q2⟩ := g
    exact ⟨a, ys, e, .inl (SqL.of q1), q2⟩
theorem tyX_tup {a : Addr} {xs : List V} (h : SqT K H a xs) : TyX K H (.ref a) (.type "tuple") := by
  rcases h with (h | ⟨o, h⟩) | ⟨o, its, n, h1, h2, _⟩
  · exact .base (.tup h)
  · exact .fTuple h
  · exact .kTuple h1 h2
theorem tyN_ok (R : Rm K H M F) {d : D} {n : String} {x : V} (h : tyN M d = some n) (g : DV K H (uni M F) d x) : TyX K H x (.type n) ∧ n ∈ ["NoneType", "bool", "int", "str", "tuple", "list", "dict"] := by
  cases d <;> first | cases h | skip
  · cases (show x = .non from g); exact ⟨.base .non, by decide⟩
  · rename_i b; cases (show x = .bl b from g); exact ⟨.base (.bl b), by decide⟩
  · rename_i b; cases (show x = .int b from g); exact ⟨.base (.int b), by decide⟩
  · rename_i b; cases (show x = .str b from g); exact ⟨.base (.str b), by decide⟩
  · rename_i a
    cases (show x = .ref a from g)
    have h' : moTy (M a) = some n := h
    unfold moTy at h'
    split at h'
    · rename_i ys e
      cases h'
      obtain ⟨zs, q1, q2⟩ := R.get e
      exact ⟨.base (.lst q1), by decide⟩
    · rename_i ks ys e
      cases h'
      obtain ⟨zs, q1, q2⟩ := R.get e
      exact ⟨.base (.dK q1), by decide⟩
    · cases h'
  · obtain ⟨a, ys, e, q1, q2⟩ := g
    subst e
    exact ⟨tyX_tup q1, by decide⟩
  · obtain ⟨a, ys, e, q1, _, q2⟩ := g
    subst e
    exact ⟨.base (.lst q1), by decide⟩
  · obtain ⟨a, ys, e, q1, _, q2⟩ := g
    subst e
    rcases q1 with q1 | ⟨o, q1⟩
    · exact ⟨.base (.dK q1), by decide⟩
    · exact ⟨.fDict q1, by decide⟩
theorem atI_rel {ds : List D} {xs : List V} {i : Int} {d : D} (h : DVs K H M ds xs) (e : atI ds i = some d) : ∃ x, atI xs i = some x ∧ DV K H M d x := by
  unfold atI at e ⊢
  rw [h.len]
  cases q : ixN ds.length i with
  | none => rw [q] at e; cases e
  | some j =>
    rw [q] at e
    exact h.get e
theorem cut_rel {ds : List D} {xs : List V} {lo hi : Option Int} (h : DVs K H M ds xs) :
    DVs K H M ((ds.drop (HT.sIx ds.length 0 lo)).take (HT.sIx ds.length ds.length hi - HT.sIx ds.length 0 lo)) (cutV xs lo hi) := by
  unfold cutV
  rw [h.len]
  exact (h.drop _).take _
end

/-! ### subscripts -/
def rIxD : RD2 := fun d e M Q => match e with
  | .int i => match d with
    | .str z => z.length ≤ sizeLine ∧ optK (atI z.cps.toList i) fun c => Q (.str ⟨#[c]⟩) M
    | d => optK (seqOf M d) fun xs => optK (atI xs i) fun v => Q v M
  | _ => False
def cutL {α : Type} (xs : List α) (lo hi : Option Int) : List α := (xs.drop (HT.sIx xs.length 0 lo)).take (HT.sIx xs.length xs.length hi - HT.sIx xs.length 0 lo)
def rSlD (d : D) (lo hi : Option Int) (M : Mem) (Q : KN) : Prop := match d with
  | .str z => z.length ≤ sizeLine ∧ Q (.str (cutS z lo hi)) M
  | .tup xs => Q (.tup (cutL xs lo hi)) M
  | .lst xs => Q (.lst (cutL xs lo hi)) M
  | .scr ns => Q (.lst ((cutL ns lo hi).map D.int)) M
  | .ref a => optK (moSeq (M a)) fun xs => Q (.lst (cutL xs lo hi)) M
  | _ => False
def liftSl (K : PySem.W.Frag) (r : D → Option Int → Option Int → Mem → KN → Prop) : V → Option Int → Option Int → Hp → VK → Prop := fun x lo hi H Q => ∃ d M F Qd, Rm K H M F ∧ DV K H (uni M F) d x ∧ r d lo hi M Qd ∧ LkG K F (rE K) H M Qd Q
theorem cutV_map {α : Type} (f : α → V) (ns : List α) (lo hi : Option Int) : cutV (ns.map f) lo hi = (cutL ns lo hi).map f := by
  unfold cutV cutL
  rw [List.length_map, List.map_take, List.map_drop]
theorem DVs.ints {K : PySem.W.Frag} {H : Hp} {M : Mem} : ∀ ns : List Int, DVs K H M (ns.map D.int) (ns.map V.int)
  | [] => rfl
  | n :: ns => ⟨.int n, ns.map V.int, rfl, rfl, DVs.ints ns⟩
section
variable {X : Cx}
theorem id_ix : IxR X (liftV2 X.K rIxD) := by
  intro value slice pins s σ H x y v u Q I rx ry hh hsub
  obtain ⟨d, e, M, F, Qd, R, h1, h2, h3, l⟩ := hh
  cases e <;> first | exact h3.elim | skip
  rename_i i
  cases (show y = .int i from h2)
  have seq : optK (seqOf M d) (fun xs => optK (atI xs i) fun v => Qd v M) → wpAny (model X.prog X.w) X.A (subscriptTail value slice v u) (EP X pins σ Q) X.xe s := fun q => by
    obtain ⟨xs, q1, q⟩ := optK_of q
    obtain ⟨w, q2, q⟩ := optK_of q
    obtain ⟨a, ys, e, sq, dv⟩ := seqOf_ok R q1 h1
    subst e
    obtain ⟨z, g1, g2⟩ := atI_rel dv q2
    rcases sq with sq | sq
    · exact ix_list value slice pins s σ H _ _ v u Q I rx ry ⟨a, ys, i, z, rfl, rfl, sq, g1, l z H w M Ext.rfl' R g2 q⟩ hsub
    · exact ix_tup value slice pins s σ H _ _ v u Q I rx ry ⟨a, ys, i, z, rfl, rfl, sq, g1, l z H w M Ext.rfl' R g2 q⟩ hsub
  cases d <;> first | exact seq h3 | skip
  rename_i z
  cases (show x = .str z from h1)
  obtain ⟨hz, h3⟩ := h3
  obtain ⟨c, q1, q⟩ := optK_of h3
  exact ix_str value slice pins s σ H _ _ v u Q I rx ry ⟨z, i, c, rfl, rfl, hz, q1, l (.str ⟨#[c]⟩) H (.str ⟨#[c]⟩) M Ext.rfl' R rfl q⟩ hsub
theorem sd_sl : SlR X (liftSl X.K rSlD) := by
  intro pins s σ H x v vl vu lo hi sl Q I rx hs pl pu hh
  obtain ⟨d, M, F, Qd, R, h1, h3, l⟩ := hh
  cases d <;> first | exact h3.elim | skip
  · rename_i z
    cases (show x = .str z from h1)
    exact sl_str pins s σ H _ v vl vu lo hi sl Q I rx hs pl pu ⟨z, rfl, h3.1, l (.str (cutS z lo hi)) H (.str (cutS z lo hi)) M Ext.rfl' R rfl h3.2⟩
  · rename_i a
    cases (show x = .ref a from h1)
    obtain ⟨xs, e, h3⟩ := optK_of (show optK (moSeq (M a)) (fun xs => Qd (.lst (cutL xs lo hi)) M) from h3)
    unfold moSeq at e
    split at e
    · rename_i zs e'
      cases e
      obtain ⟨ys, q1, q2⟩ := R.get e'
      refine sl_list pins s σ H _ v vl vu lo hi sl Q I rx hs pl pu ⟨a, ys, rfl, SqL.of q1, fun p hp => ?_⟩
      have e' := new_ext R.rel (o := HO.lst (cutV ys lo hi)) hp
      exact l _ _ (.lst (cutL xs lo hi)) M e' (R.new hp) ⟨p, _, rfl, upd_same, R.rel.free hp, DVs.ext R.rel e' _ _ (cut_rel q2)⟩ h3
    · cases e
  · rename_i xs
    obtain ⟨a, ys, e, q1, q2⟩ := h1
    subst e
    refine sl_tupA pins s σ H _ v vl vu lo hi sl Q I rx hs pl pu ⟨a, ys, rfl, q1, fun hw => ?_, fun _ p hp => ?_⟩
    · refine l _ H (.tup (cutL xs lo hi)) M Ext.rfl' R ⟨a, ys, rfl, q1, ?_⟩ h3
      have ee : cutL xs lo hi = xs := by
        rw [q2.len] at hw
        unfold cutL
        rw [hw.1, hw.2, List.drop_zero, Nat.sub_zero, List.take_length]
      rw [ee]
      exact q2
    · have e' := new_ext R.rel (o := HO.tup (cutV ys lo hi)) hp
      exact l _ _ (.tup (cutL xs lo hi)) M e' (R.new hp) ⟨p, _, rfl, SqT.of upd_same, DVs.ext R.rel e' _ _ (cut_rel q2)⟩ h3
  · rename_i xs
    obtain ⟨a, ys, e, q1, qm, q2⟩ := h1
    subst e
    refine sl_list pins s σ H _ v vl vu lo hi sl Q I rx hs pl pu ⟨a, ys, rfl, SqL.of q1, fun p hp => ?_⟩
    have e' := new_ext R.rel (o := HO.lst (cutV ys lo hi)) hp
    exact l _ _ (.lst (cutL xs lo hi)) M e' (R.new hp) ⟨p, _, rfl, upd_same, R.rel.free hp, DVs.ext R.rel e' _ _ (cut_rel q2)⟩ h3
  · rename_i ns
    obtain ⟨a, e, q1⟩ := h1
    subst e
    have sq : SqL X.K H a (ns.map V.int) := by
      rcases q1 with ⟨o, q⟩ | q
      · exact .inl (.inr ⟨o, q⟩)
      · exact .inr q
    refine sl_list pins s σ H _ v vl vu lo hi sl Q I rx hs pl pu ⟨a, _, rfl, sq, fun p hp => ?_⟩
    have e' := new_ext R.rel (o := HO.lst (cutV (ns.map V.int) lo hi)) hp
    refine l _ _ (.lst ((cutL ns lo hi).map D.int)) M e' (R.new hp) ⟨p, _, rfl, upd_same, R.rel.free hp, ?_⟩ h3
    rw [cutV_map]
    exact DVs.ints _
end
/-! slices as expressions -/
abbrev WO := WG (Option Int)
def wNo : WO := fun _ M Q _ => Q none M
def intK : D → (Int → Prop) → Prop
  | .int i, k => k i
  | _, _ => False
def wSome (w : WE) : WO := fun ds M Q Xc => w ds M (fun d M1 => intK d fun i => Q (some i) M1) Xc
def wSl (we : WE) (wl wh : WO) : WE := fun ds M Q Xc => we ds M (fun d M1 => wl ds M1 (fun l M2 => wh ds M2 (fun h M3 => rSlD d l h M3 Q) Xc) Xc) Xc
section
variable {X : Cx} {W : WX} {e : Expr} {we : WE} {lo hi : Option Expr} {wl wh : WO} {pos p2 : Pos}
theorem jo_none : JO X W none wNo := po_mono po_none fun σ H Q h => by
  obtain ⟨ds, M, F, Qd, Xd, hs, _, hw, l1, _⟩ := h
  exact l1 none H none M Ext.rfl' hs.1 rfl hw
theorem jo_some (h : JE X W e we) : JO X W (some e) (wSome we) := po_mono (po_some h) fun σ H Q h => bindE (wa := we) (f := fun d _ M Q _ => intK d fun i => Q (some i) M) h fun v d H1 h => by
  obtain ⟨ds, M, F, Qd, Xd, hs, hv, hw, l1, _⟩ := h
  obtain ⟨_, _, e1, h1, _⟩ := hv
  cases e1
  cases d <;> first | exact hw.elim | skip
  rename_i i
  cases (show v = .int i from h1)
  exact ⟨i, rfl, l1 (some i) H1 (some i) M Ext.rfl' hs.1 rfl hw⟩
theorem j_sl (he : JE X W e we) (hl : JO X W lo wl) (hh : JO X W hi wh) : JE X W (.Subscript e (.Slice lo hi none p2) pos) (wSl we wl wh) :=
  pe_mono (pe_slice sd_sl he hl hh) fun σ H Q h => bindE (wa := we) (f := fun d ds M Q Xc => wl ds M (fun l M2 => wh ds M2 (fun h M3 => rSlD d l h M3 Q) Xc) Xc) h fun v d H1 h =>
    bindO (wa := wl) (f := fun l ds M Q Xc => wh ds M (fun h M3 => rSlD d l h M3 Q) Xc) h fun l H2 h => bindO (wa := wh) (f := fun u _ M Q _ => rSlD d l u M Q) h fun u H3 h => by
      obtain ⟨ds, M, F, Qd, Xd, hs, hv, hw, l1, _⟩ := h
      obtain ⟨_, _, e1, h1, _⟩ := hv
      cases e1
      exact ⟨d, M, F, Qd, hs.1, h1, hw, l1⟩
end

/-! ### built-in functions -/
def rLenD : RDs := fun ds M Q => match ds with
  | [.str z] => z.length ≤ sizeLine ∧ Q (.int z.length) M
  | [d] => optK (seqOf M d) fun xs => Q (.int xs.length) M
  | _ => False
def rIsD : RDs := fun ds M Q => match ds with
  | [d, .ty c] => c ∈ ["bool", "int", "str", "tuple", "list", "dict"] ∧ optK (tyN M d) fun n => Q (.bl (isB n c)) M
  | _ => False
def rIntCD : RDs := fun ds M Q => match ds with
  | [.int i] => Q (.int i) M
  | [.bl b] => Q (.int (if b then 1 else 0)) M
  | _ => False
def rStrCD : RDs := fun ds M Q => match ds with
  | [.int i] => i.natAbs.log2 < 1920 ∧ Q (.str (toString i)) M
  | _ => False
/-- a list of a list's or a tuple's items, one that nobody changes -/
def rListD : RDs := fun ds M Q => match ds with
  | [d] => optK (seqOf M d) fun xs => Q (.lst xs) M
  | _ => False
/-- .. one that is owned -/
def rListO : RDs := fun ds M Q => match ds with
  | [d] => optK (seqOf M d) fun xs => ∀ a, M a = none → Q (.ref a) (mput M a (.lst xs))
  | _ => False
def rTupD : RDs := fun ds M Q => match ds with
  | [d] => optK (seqOf M d) fun xs => Q (.tup xs) M
  | _ => False
def bools : List D → Option (List Bool)
  | [] => some []
  | .bl b :: ds => (bools ds).map (b :: ·)
  | _ => none
def rAllD (any : Bool) : RDs := fun ds M Q => match ds with
  | [.lst xs] => optK (bools xs) fun bs => Q (.bl (if any then bs.any id else bs.all id)) M
  | _ => False
theorem bools_map {α : Type} (f : α → Bool) : ∀ xs : List α, bools (xs.map fun x => D.bl (f x)) = some (xs.map f)
  | [] => rfl
  | x :: xs => by
    show (bools (xs.map fun x => D.bl (f x))).map (f x :: ·) = _
    rw [bools_map f xs]
    rfl
theorem DVs.bools {K : PySem.W.Frag} {H : Hp} {M : Mem} : ∀ {ds : List D} {bs : List Bool} {xs : List V}, bools ds = some bs → DVs K H M ds xs → xs = bs.map V.bl
  | [], bs, xs, h, g => by
    cases h
    exact g
  | d :: ds, bs, xs, h, g => by
    obtain ⟨y, ys, e, g1, g2⟩ := g
    subst e
    cases d <;> first | cases h | skip
    rename_i b
    cases (show y = .bl b from g1)
    cases q : DL.bools ds with
    | none =>
      have h' : (DL.bools ds).map (b :: ·) = some bs := h
      rw [q] at h'
      cases h'
    | some cs =>
      have h' : (DL.bools ds).map (b :: ·) = some bs := h
      rw [q] at h'
      cases h'
      rw [DVs.bools q g2]
      rfl
section
variable {X : Cx}
theorem dv1 {K : PySem.W.Frag} {H : Hp} {M : Mem} {d : D} {xs : List V} (h : DVs K H M [d] xs) : ∃ x, xs = [x] ∧ DV K H M d x := by
  obtain ⟨x, ys, e, h1, h2⟩ := h
  cases (show ys = [] from h2)
  exact ⟨x, e, h1⟩
theorem dv2 {K : PySem.W.Frag} {H : Hp} {M : Mem} {d e : D} {xs : List V} (h : DVs K H M [d, e] xs) : ∃ x y, xs = [x, y] ∧ DV K H M d x ∧ DV K H M e y := by
  obtain ⟨x, ys, e, h1, h2⟩ := h
  obtain ⟨y, e2, h3⟩ := dv1 h2
  subst e2
  exact ⟨x, y, e, h1, h3⟩
theorem cd_len : CallR X (.builtin "len") (liftVs X.K rLenD) := by
  intro pins s σ H xs us Q I r hh
  obtain ⟨ds, M, F, Qd, R, h1, h3, l⟩ := hh
  unfold rLenD at h3
  split at h3
  · rename_i z
    obtain ⟨x, e, g⟩ := dv1 h1
    subst e
    cases (show x = .str z from g)
    exact call_len pins s σ H _ us Q I r ⟨_, z.length, rfl, ⟨h3.1, rfl⟩, l (.int z.length) H (.int z.length) M Ext.rfl' R rfl h3.2⟩
  · rename_i d _
    obtain ⟨x, e, g⟩ := dv1 h1
    subst e
    obtain ⟨ys, q1, q⟩ := optK_of h3
    obtain ⟨a, zs, e, sq, dv⟩ := seqOf_ok R q1 g
    subst e
    refine call_len_seq pins s σ H _ us Q I r ⟨a, zs, rfl, sq, ?_⟩
    rw [dv.len]
    exact l (.int ys.length) H (.int ys.length) M Ext.rfl' R rfl q
  · exact h3.elim
theorem cd_isi : CallR X (.builtin "isinstance") (liftVs X.K rIsD) := by
  intro pins s σ H xs us Q I r hh
  obtain ⟨ds, M, F, Qd, R, h1, h3, l⟩ := hh
  unfold rIsD at h3
  split at h3
  · rename_i d c
    obtain ⟨x, y, e, g1, g2⟩ := dv2 h1
    subst e
    cases (show y = .ty c from g2)
    obtain ⟨hc, h3⟩ := h3
    obtain ⟨n, q1, q⟩ := optK_of h3
    obtain ⟨t, hn⟩ := tyN_ok R q1 g1
    exact call_isi pins s σ H _ us Q I r ⟨x, .ty c, .type n, .type c, isB n c, rfl, .ty c, t, kit_ty (isB_ok n hn c hc), l (.bl (isB n c)) H (.bl (isB n c)) M Ext.rfl' R rfl q⟩
  · exact h3.elim
theorem cd_int : CallR X (.type "int") (liftVs X.K rIntCD) := by
  intro pins s σ H xs us Q I r hh
  obtain ⟨ds, M, F, Qd, R, h1, h3, l⟩ := hh
  unfold rIntCD at h3
  split at h3
  · rename_i i
    obtain ⟨x, e, g⟩ := dv1 h1
    subst e
    cases (show x = .int i from g)
    exact call_int1 pins s σ H _ us Q I r (.inl ⟨i, rfl, l (.int i) H (.int i) M Ext.rfl' R rfl h3⟩)
  · rename_i b
    obtain ⟨x, e, g⟩ := dv1 h1
    subst e
    cases (show x = .bl b from g)
    exact call_int1 pins s σ H _ us Q I r (.inr ⟨b, rfl, l (.int (if b then 1 else 0)) H (.int (if b then 1 else 0)) M Ext.rfl' R rfl h3⟩)
  · exact h3.elim
theorem cd_str : CallR X (.type "str") (liftVs X.K rStrCD) := by
  intro pins s σ H xs us Q I r hh
  obtain ⟨ds, M, F, Qd, R, h1, h3, l⟩ := hh
  unfold rStrCD at h3
  split at h3
  · rename_i i
    obtain ⟨x, e, g⟩ := dv1 h1
    subst e
    cases (show x = .int i from g)
    exact call_str_int pins s σ H _ us Q I r ⟨i, rfl, h3.1, l (.str (toString i)) H (.str (toString i)) M Ext.rfl' R rfl h3.2⟩
  · exact h3.elim
theorem cd_list : CallR X (.type "list") (liftVs X.K rListD) := by
  intro pins s σ H xs us Q I r hh
  obtain ⟨ds, M, F, Qd, R, h1, h3, l⟩ := hh
  unfold rListD at h3
  split at h3
  · rename_i d
    obtain ⟨x, e, g⟩ := dv1 h1
    subst e
    obtain ⟨ys, q1, q⟩ := optK_of h3
    obtain ⟨a, zs, e, sq, dv⟩ := seqOf_ok R q1 g
    subst e
    refine call_list_of pins s σ H _ us Q I r ⟨a, zs, rfl, sq, fun p hp => ?_⟩
    have e' := new_ext R.rel (o := HO.lst zs) hp
    exact l _ _ (.lst ys) M e' (R.new hp) ⟨p, _, rfl, upd_same, R.rel.free hp, DVs.ext R.rel e' _ _ dv⟩ q
  · exact h3.elim
theorem cd_listO : CallR X (.type "list") (liftVs X.K rListO) := by
  intro pins s σ H xs us Q I r hh
  obtain ⟨ds, M, F, Qd, R, h1, h3, l⟩ := hh
  unfold rListO at h3
  split at h3
  · rename_i d
    obtain ⟨x, e, g⟩ := dv1 h1
    subst e
    obtain ⟨ys, q1, q⟩ := optK_of h3
    obtain ⟨a, zs, e, sq, dv⟩ := seqOf_ok R q1 g
    subst e
    refine call_list_of pins s σ H _ us Q I r ⟨a, zs, rfl, sq, fun p hp => ?_⟩
    have e' := R.xown (o := HO.lst zs) (u := .lst ys) hp
    exact l _ _ (.ref p) _ e' (R.own hp ⟨zs, upd_same, DVs.ext R.rel e' _ _ dv⟩) rfl (q p (R.mfree hp))
  · exact h3.elim
theorem cd_tup : CallR X (.type "tuple") (liftVs X.K rTupD) := by
  intro pins s σ H xs us Q I r hh
  obtain ⟨ds, M, F, Qd, R, h1, h3, l⟩ := hh
  unfold rTupD at h3
  split at h3
  · rename_i d
    obtain ⟨x, e, g⟩ := dv1 h1
    subst e
    obtain ⟨ys, q1, q⟩ := optK_of h3
    obtain ⟨a, zs, e, sq, dv⟩ := seqOf_ok R q1 g
    subst e
    rcases sq with sq | sq
    · refine call_tuple_of pins s σ H _ us Q I r ⟨a, zs, rfl, .inl ⟨sq, fun p hp => ?_⟩⟩
      have e' := new_ext R.rel (o := HO.tup zs) hp
      exact l _ _ (.tup ys) M e' (R.new hp) ⟨p, _, rfl, SqT.of upd_same, DVs.ext R.rel e' _ _ dv⟩ q
    · exact call_tuple_of pins s σ H _ us Q I r ⟨a, zs, rfl, .inr ⟨sq, l (.ref a) H (.tup ys) M Ext.rfl' R ⟨a, zs, rfl, sq, dv⟩ q⟩⟩
  · exact h3.elim
theorem cd_all (hc : X.calm = true) : CallR X (.builtin "all") (liftVs X.K (rAllD false)) := by
  intro pins s σ H xs us Q I r hh
  obtain ⟨ds, M, F, Qd, R, h1, h3, l⟩ := hh
  unfold rAllD at h3
  split at h3
  · rename_i ys
    obtain ⟨x, e, g⟩ := dv1 h1
    subst e
    obtain ⟨bs, q1, q⟩ := optK_of h3
    obtain ⟨a, zs, e, g1, _, g2⟩ := g
    subst e
    have e := DVs.bools q1 g2
    subst e
    exact cr_all hc pins s σ H _ us Q I r ⟨a, bs, rfl, SqL.of g1, l (.bl (bs.all id)) H (.bl (bs.all id)) M Ext.rfl' R rfl q⟩
  · exact h3.elim
theorem cd_any (hc : X.calm = true) : CallR X (.builtin "any") (liftVs X.K (rAllD true)) := by
  intro pins s σ H xs us Q I r hh
  obtain ⟨ds, M, F, Qd, R, h1, h3, l⟩ := hh
  unfold rAllD at h3
  split at h3
  · rename_i ys
    obtain ⟨x, e, g⟩ := dv1 h1
    subst e
    obtain ⟨bs, q1, q⟩ := optK_of h3
    obtain ⟨a, zs, e, g1, _, g2⟩ := g
    subst e
    have e := DVs.bools q1 g2
    subst e
    exact cr_any hc pins s σ H _ us Q I r ⟨a, bs, rfl, SqL.of g1, l (.bl (bs.any id)) H (.bl (bs.any id)) M Ext.rfl' R rfl q⟩
  · exact h3.elim
end
section
variable {X : Cx} {W : WX} {x : Str} {p pos : Pos} {e : Expr} {es : List Expr} {wa : WA} {id T : String} {r : RDs}
theorem j_callB (hc : CallR X (.builtin id) (liftVs X.K r)) (hm : X.mg x = none) (hv : bootBuiltins x = some (.builtin id)) (ha : JA X W (e :: es) wa) (hg : Gl X x := by rfl) (hn : x ≠ "__name__" := by decide) (hdb : (x == ("__debug__" : Str)) = false := by decide)
    (he : starEach (e :: es) X.env = (false, eval e X.env) :: starEach es X.env := by rfl) (hpl : (backTo pos (starEach es X.env)).any (·.1) = false := by rfl) : JE X W (.Call (.Name x p) (e :: es) [] pos) (wCB r wa) :=
  pe_mono (pe_callB hc hg hm hv ha hn hdb he hpl) fun σ H Q h => bindA (wa := wa) (f := fun xs _ M Q _ => r xs M Q) h fun xs ds H1 h => finS (by rw [List.append_nil, List.append_nil] at h; exact h)
theorem j_callTy (hc : CallR X (.type T) (liftVs X.K r)) (hm : X.mg x = none) (hv : bootBuiltins x = some (.type T)) (ha : JA X W (e :: es) wa) (hg : Gl X x := by rfl) (hn : x ≠ "__name__" := by decide) (hdb : (x == ("__debug__" : Str)) = false := by decide)
    (he : starEach (e :: es) X.env = (false, eval e X.env) :: starEach es X.env := by rfl) (hpl : (backTo pos (starEach es X.env)).any (·.1) = false := by rfl) : JE X W (.Call (.Name x p) (e :: es) [] pos) (wCB r wa) :=
  pe_mono (pe_callTy hc hg hm hv ha hn hdb he hpl) fun σ H Q h => bindA (wa := wa) (f := fun xs _ M Q _ => r xs M Q) h fun xs ds H1 h => finS (by rw [List.append_nil, List.append_nil] at h; exact h)
end
end DL
namespace DL
open PySem PySem.Spec PyProof.Rows L2

/-! ### tests, truth values -/
def isBl : D → (Bool → Prop) → Prop
  | .bl b, k => k b
  | _, _ => False
def wTest (w : WE) : WT := fun ds M Q Xc => w ds M (fun d M1 => isBl d fun b => Q b M1) Xc
def wAndT (t u : WT) : WT := fun ds M Q Xc => t ds M (fun b M1 => if b = true then u ds M1 Q Xc else Q false M1) Xc
def wOrT (t u : WT) : WT := fun ds M Q Xc => t ds M (fun b M1 => if b = true then Q true M1 else u ds M1 Q Xc) Xc
def wNotT (t : WT) : WT := fun ds M Q Xc => t ds M (fun b M1 => Q (!b) M1) Xc
def wAndV (wa wb : WE) : WE := fun ds M Q Xc => wa ds M (fun d M1 => isBl d fun b => if b = true then wb ds M1 Q Xc else Q (.bl false) M1) Xc
def wOrV (wa wb : WE) : WE := fun ds M Q Xc => wa ds M (fun d M1 => isBl d fun b => if b = true then Q (.bl true) M1 else wb ds M1 Q Xc) Xc
def wNotV (wa : WE) : WE := fun ds M Q Xc => wa ds M (fun d M1 => isBl d fun b => Q (.bl (!b)) M1) Xc
def wIfE (t : WT) (wa wb : WE) : WE := fun ds M Q Xc => t ds M (fun b M1 => if b = true then wa ds M1 Q Xc else wb ds M1 Q Xc) Xc
section
variable {X : Cx} {W : WX} {a b c e : Expr} {wa wb wc : WE} {t u : WT} {rest : List Expr} {pos : Pos} {K : PySem.W.Frag} {σ : L2.St} {H : Hp}
theorem isBl_of {d : D} {k : Bool → Prop} (h : isBl d k) : ∃ b, d = .bl b ∧ k b := by
  cases d <;> first | exact h.elim | skip
  exact ⟨_, rfl, h⟩
/-- the end of a test -/
theorem finT {v : V} {d : D} {Q : Bool → Hp → Prop} (h : lift K W rT [d] [v] (fun _ M Q _ => isBl d fun b => Q b M) σ H Q) : ∃ k, v = .bl k ∧ Q k H := by
  obtain ⟨ds, M, F, Qd, Xd, hs, hv, hw, l1, _⟩ := h
  obtain ⟨_, _, e1, h1, _⟩ := hv
  cases e1
  obtain ⟨b, e2, hw⟩ := isBl_of hw
  subst e2
  cases (show v = .bl b from h1)
  exact ⟨b, rfl, l1 b H b M Ext.rfl' hs.1 rfl hw⟩
theorem finB {b : Bool} {Q : Bool → Hp → Prop} {es : List D} {vs : List V} (h : lift K W rT es vs (fun _ M Q _ => Q b M) σ H Q) : Q b H := by
  obtain ⟨ds, M, F, Qd, Xd, hs, hv, hw, l1, _⟩ := h
  exact l1 b H b M Ext.rfl' hs.1 rfl hw
/-- any expression that gives a bool (no comparison) as a test -/
theorem jt_val (h : JE X W e wa) (he : ∀ whole, isTrue e X.env whole = (do let v ← whole; standAt e.pos; holding [v] (truthy v)) := by intro _; rfl) : JT X W e (wTest wa) :=
  pt_mono (pt_val h he) fun σ H Q h => bindE (wa := wa) (f := fun d _ M Q _ => isBl d fun b => Q b M) h fun v d H1 h => finT h
theorem jt_cmp {op : CmpOp} {r : RD2} (ho : OpR X (compareOp op) (liftV2 X.K r)) (ha : JE X W a wa) (hb : JE X W b wb) (hm : behindInMarks op b = false := by first | exact nomark _ | rfl) : JT X W (.Compare a [op] [b] pos) (wTest (wOp r wa wb)) :=
  pt_mono (pt_cmpR ho ha hb hm) fun σ H Q h => bindE (wa := wa) (f := fun x ds M Q Xc => wb ds M (fun y M2 => r x y M2 fun d M3 => isBl d fun b => Q b M3) Xc) h fun x d H1 h =>
    bindE (wa := wb) (f := fun y _ M Q _ => r d y M fun d M3 => isBl d fun b => Q b M3) h fun y e H2 h => by
      obtain ⟨ds, M, F, Qd, Xd, hs, hv, hw, l1, _⟩ := h
      obtain ⟨_, _, e1, h1, _, _, e2, h2, _⟩ := hv
      cases e1
      cases e2
      refine ⟨d, e, M, F, _, hs.1, h2, h1, hw, fun v H' z M' ex r2 dv q => ?_⟩
      obtain ⟨b, e3, q⟩ := isBl_of q
      subst e3
      cases (show v = .bl b from dv)
      exact ⟨b, rfl, l1 b H' b M' ex r2 rfl q⟩
theorem jt_and1 (ha : JT X W a t) : JW X W (.BoolOp .And [a] pos) t := pw_and1 ha
theorem jt_or1 (ha : JT X W a t) : JW X W (.BoolOp .Or [a] pos) t := pw_or1 ha
theorem ite_tt {A B : Prop} (h : if true = true then A else B) : A := by simpa using h
theorem ite_ff {A B : Prop} (h : if false = true then A else B) : B := by simpa using h
theorem jt_and (ha : JT X W a t) (hb : JW X W (.BoolOp .And (b :: rest) pos) u) : JW X W (.BoolOp .And (a :: b :: rest) pos) (wAndT t u) :=
  pw_mono (pw_and ha hb) fun σ H Q h => bindT (wa := t) (f := fun b ds M Q Xc => if b = true then u ds M Q Xc else Q false M) h fun k H1 h => by
    cases k with
    | true =>
      rw [if_pos rfl]
      obtain ⟨ds, M, F, Qd, Xd, hs, hv, hw, l1, l2⟩ := h
      exact ⟨ds, M, F, Qd, Xd, hs, hv, DL.ite_tt hw, l1, l2⟩
    | false =>
      rw [if_neg Bool.false_ne_true]
      obtain ⟨ds, M, F, Qd, Xd, hs, hv, hw, l1, l2⟩ := h
      exact l1 false H1 false M Ext.rfl' hs.1 rfl (DL.ite_ff hw)
theorem jt_or (ha : JT X W a t) (hb : JW X W (.BoolOp .Or (b :: rest) pos) u) : JW X W (.BoolOp .Or (a :: b :: rest) pos) (wOrT t u) :=
  pw_mono (pw_or ha hb) fun σ H Q h => bindT (wa := t) (f := fun b ds M Q Xc => if b = true then Q true M else u ds M Q Xc) h fun k H1 h => by
    cases k with
    | true =>
      rw [if_pos rfl]
      obtain ⟨ds, M, F, Qd, Xd, hs, hv, hw, l1, l2⟩ := h
      exact l1 true H1 true M Ext.rfl' hs.1 rfl (DL.ite_tt hw)
    | false =>
      rw [if_neg Bool.false_ne_true]
      obtain ⟨ds, M, F, Qd, Xd, hs, hv, hw, l1, l2⟩ := h
      exact ⟨ds, M, F, Qd, Xd, hs, hv, DL.ite_ff hw, l1, l2⟩
theorem jt_not (ha : JT X W a t) : JT X W (.UnaryOp .Not a pos) (wNotT t) :=
  pt_mono (pt_not ha) fun σ H Q h => bindT (wa := t) (f := fun b _ M Q _ => Q (!b) M) h fun k H1 h => by
    obtain ⟨ds, M, F, Qd, Xd, hs, hv, hw, l1, _⟩ := h
    exact l1 (!k) H1 (!k) M Ext.rfl' hs.1 rfl hw
theorem jt_bool (h : JW X W e t) : JT X W e t := PW.pt h
theorem j_one {op} (h : JE X W a wa) : JE X W (.BoolOp op [a] pos) wa := pe_one h
theorem j_and (ha : JE X W a wa) (hb : JE X W (.BoolOp .And (b :: rest) pos) wb) : JE X W (.BoolOp .And (a :: b :: rest) pos) (wAndV wa wb) :=
  pe_mono (pe_and ha hb) fun σ H Q h => bindE (wa := wa) (f := fun d ds M Q Xc => isBl d fun b => if b = true then wb ds M Q Xc else Q (D.bl false) M) h fun v d H1 h => by
    obtain ⟨ds, M, F, Qd, Xd, hs, hv, hw, l1, l2⟩ := h
    obtain ⟨_, _, e1, h1, _⟩ := hv
    cases e1
    obtain ⟨k, e2, hw2⟩ := isBl_of hw
    clear hw
    subst e2
    refine ⟨k, h1, ?_⟩
    cases k with
    | true =>
      rw [if_pos rfl]
      exact ⟨ds, M, F, Qd, Xd, hs, rfl, DL.ite_tt hw2, l1, l2⟩
    | false =>
      rw [if_neg Bool.false_ne_true]
      exact l1 (.bl false) H1 (.bl false) M Ext.rfl' hs.1 rfl (DL.ite_ff hw2)
theorem j_or (ha : JE X W a wa) (hb : JE X W (.BoolOp .Or (b :: rest) pos) wb) : JE X W (.BoolOp .Or (a :: b :: rest) pos) (wOrV wa wb) :=
  pe_mono (pe_or ha hb) fun σ H Q h => bindE (wa := wa) (f := fun d ds M Q Xc => isBl d fun b => if b = true then Q (D.bl true) M else wb ds M Q Xc) h fun v d H1 h => by
    obtain ⟨ds, M, F, Qd, Xd, hs, hv, hw, l1, l2⟩ := h
    obtain ⟨_, _, e1, h1, _⟩ := hv
    cases e1
    obtain ⟨k, e2, hw2⟩ := isBl_of hw
    clear hw
    subst e2
    refine ⟨k, h1, ?_⟩
    cases k with
    | true =>
      rw [if_pos rfl]
      exact l1 (.bl true) H1 (.bl true) M Ext.rfl' hs.1 rfl (DL.ite_tt hw2)
    | false =>
      rw [if_neg Bool.false_ne_true]
      exact ⟨ds, M, F, Qd, Xd, hs, rfl, DL.ite_ff hw2, l1, l2⟩
theorem j_not (ha : JE X W a wa) : JE X W (.UnaryOp .Not a pos) (wNotV wa) :=
  pe_mono (pe_not ha) fun σ H Q h => bindE (wa := wa) (f := fun d _ M Q _ => isBl d fun b => Q (D.bl (!b)) M) h fun v d H1 h => by
    obtain ⟨ds, M, F, Qd, Xd, hs, hv, hw, l1, l2⟩ := h
    obtain ⟨_, _, e1, h1, _⟩ := hv
    cases e1
    obtain ⟨k, e2, hw2⟩ := isBl_of hw
    clear hw
    subst e2
    exact ⟨k, h1, l1 (.bl (!k)) H1 (.bl (!k)) M Ext.rfl' hs.1 rfl hw2⟩
theorem j_if (hc : JT X W c t) (ha : JE X W a wa) (hb : JE X W b wb) : JE X W (.IfExp c a b pos) (wIfE t wa wb) :=
  pe_mono (pe_ifExp hc ha hb) fun σ H Q h => bindT (wa := t) (f := fun b ds M Q Xc => if b = true then wa ds M Q Xc else wb ds M Q Xc) h fun k H1 h => by
    obtain ⟨ds, M, F, Qd, Xd, hs, hv, hw, l1, l2⟩ := h
    cases k with
    | true =>
      rw [if_pos rfl]
      exact ⟨ds, M, F, Qd, Xd, hs, rfl, DL.ite_tt hw, l1, l2⟩
    | false =>
      rw [if_neg Bool.false_ne_true]
      exact ⟨ds, M, F, Qd, Xd, hs, rfl, DL.ite_ff hw, l1, l2⟩
/-- a op b op' c -/
def wChain (r r' : RD2) (wa wb wc : WE) : WE := fun ds M Q Xc => wa ds M (fun x M1 => wb ds M1 (fun y M2 => r x y M2 fun z M3 => isBl z fun k =>
  if k = true then wc ds M3 (fun w M4 => r' y w M4 fun z2 M5 => isBl z2 fun k2 => Q (.bl k2) M5) Xc else Q (.bl false) M3) Xc) Xc
end

/-! ### displays -/
def wTup (wa : WA) : WE := fun ds M Q Xc => wa ds M (fun xs M1 => xs.length ≤ sizeLine ∧ Q (.tup xs) M1) Xc
def wLst (wa : WA) : WE := fun ds M Q Xc => wa ds M (fun xs M1 => xs.length ≤ sizeLine ∧ Q (.lst xs) M1) Xc
def wLstO (wa : WA) : WE := fun ds M Q Xc => wa ds M (fun xs M1 => xs.length ≤ sizeLine ∧ ∀ a, M1 a = none → Q (.ref a) (mput M1 a (.lst xs))) Xc
section
variable {X : Cx} {W : WX} {es : List Expr} {wa : WA} {pos : Pos}
theorem j_tup {k : Nat} (h : JA X W es wa) : JE X W (.Tuple es k pos) (wTup wa) :=
  pe_mono (pe_tup h) fun σ H Q h => bindA (wa := wa) (f := fun xs _ M Q _ => xs.length ≤ sizeLine ∧ Q (D.tup xs) M) h fun xs ds H1 h => by
    obtain ⟨_, M, F, Qd, Xd, hs, hv, hw, l1, l2⟩ := h
    rw [List.append_nil, List.append_nil] at hv
    refine ⟨by rw [hv.len]; exact hw.1, fun p hp => ?_⟩
    have e' := new_ext hs.1.rel (o := HO.tup xs) hp
    exact l1 _ _ (.tup ds) M e' (hs.1.new hp) ⟨p, xs, rfl, SqT.of upd_same, DVs.ext hs.1.rel e' _ _ hv⟩ hw.2
theorem j_lst (h : JA X W es wa) : JE X W (.List es pos) (wLst wa) :=
  pe_mono (pe_lst h) fun σ H Q h => bindA (wa := wa) (f := fun xs _ M Q _ => xs.length ≤ sizeLine ∧ Q (D.lst xs) M) h fun xs ds H1 h => by
    obtain ⟨_, M, F, Qd, Xd, hs, hv, hw, l1, l2⟩ := h
    rw [List.append_nil, List.append_nil] at hv
    refine ⟨by rw [hv.len]; exact hw.1, fun p hp => ?_⟩
    have e' := new_ext hs.1.rel (o := HO.lst xs) hp
    exact l1 _ _ (.lst ds) M e' (hs.1.new hp) ⟨p, xs, rfl, upd_same, hs.1.rel.free hp, DVs.ext hs.1.rel e' _ _ hv⟩ hw.2
theorem j_lstO (h : JA X W es wa) : JE X W (.List es pos) (wLstO wa) :=
  pe_mono (pe_lst h) fun σ H Q h => bindA (wa := wa) (f := fun xs _ M Q _ => xs.length ≤ sizeLine ∧ ∀ a, M a = none → Q (D.ref a) (mput M a (.lst xs))) h fun xs ds H1 h => by
    obtain ⟨_, M, F, Qd, Xd, hs, hv, hw, l1, l2⟩ := h
    rw [List.append_nil, List.append_nil] at hv
    refine ⟨by rw [hv.len]; exact hw.1, fun p hp => ?_⟩
    have e' := hs.1.xown (o := HO.lst xs) (u := .lst ds) hp
    exact l1 _ _ (.ref p) _ e' (hs.1.own hp ⟨xs, upd_same, DVs.ext hs.1.rel e' _ _ hv⟩) rfl (hw.2 p (hs.1.mfree hp))
end

/-! ### in -/
def oneSign (x : Str) : Option Nat := match x.cps.toList with
  | [c] => some c
  | _ => none
def flatD : D → Bool
  | .non => true
  | .bl _ => true
  | .int _ => true
  | .str _ => true
  | _ => false
def inD (d : D) (xs : List D) : Bool := xs.any fun y => deq y d
def rInD (neg : Bool) : RD2 := fun d e M Q => match e with
  | .str z => match d with
    | .str x => optK (oneSign x) fun c => Q (.bl (xor neg (decide (c ∈ z.cps.toList)))) M
    | _ => False
  | e => optK (seqOf M e) fun xs => flatD d = true ∧ xs.all flatD = true ∧ Q (.bl (xor neg (inD d xs))) M
section
variable {X : Cx} {K : PySem.W.Frag} {H : Hp} {M : Mem}
theorem flat_ok {d : D} {x : V} (h : flatD d = true) (g : DV K H M d x) : flatV x = true := by
  cases d <;> first | cases h | skip
  · cases (show x = .non from g); rfl
  · rename_i b; cases (show x = .bl b from g); rfl
  · rename_i b; cases (show x = .int b from g); rfl
  · rename_i b; cases (show x = .str b from g); rfl
theorem eqV_ok {d e : D} {x y : V} (h : flatD d = true) (h2 : flatD e = true) (g : DV K H M d x) (g2 : DV K H M e y) : eqV x y = deq d e := by
  cases d <;> first | cases h | skip
  all_goals (cases e <;> first | cases h2 | skip)
  all_goals (cases (show x = _ from g); cases (show y = _ from g2); rfl)
theorem flats_ok : ∀ {ds : List D} {xs : List V}, ds.all flatD = true → DVs K H M ds xs → xs.all flatV = true
  | [], xs, _, g => by
    cases (show xs = [] from g)
    rfl
  | d :: ds, xs, h, g => by
    obtain ⟨y, ys, e, g1, g2⟩ := g
    subst e
    rw [List.all_cons, Bool.and_eq_true] at h
    rw [List.all_cons, flat_ok h.1 g1, flats_ok h.2 g2]
    rfl
theorem inV_ok {d : D} {x : V} (hd : flatD d = true) (g : DV K H M d x) : ∀ {ds : List D} {xs : List V}, ds.all flatD = true → DVs K H M ds xs → inV x xs = inD d ds
  | [], xs, _, g => by
    cases (show xs = [] from g)
    rfl
  | e :: ds, xs, h, g' => by
    obtain ⟨y, ys, e2, g1, g2⟩ := g'
    subst e2
    rw [List.all_cons, Bool.and_eq_true] at h
    show (eqV y x || inV x ys) = (deq e d || inD d ds)
    rw [eqV_ok h.1 hd g1 g, inV_ok hd g h.2 g2]
theorem one_of {x : Str} {c : Nat} (h : oneSign x = some c) : x = ⟨#[c]⟩ := by
  unfold oneSign at h
  split at h
  · rename_i c' e
    cases h
    cases x with
    | mk a =>
      have e' : a.toList = [c] := e
      have : a = #[c] := by
        apply Array.ext'
        rw [e']
      rw [this]
  · cases h
theorem od_in : OpR X (compareOp .In) (liftV2 X.K (rInD false)) := by
  intro pins s σ H x y v u Q I rx ry hh
  obtain ⟨d, e, M, F, Qd, R, h1, h2, h3, l⟩ := hh
  have seq : optK (seqOf M e) (fun xs => flatD d = true ∧ xs.all flatD = true ∧ Qd (.bl (xor false (inD d xs))) M) → wpAny (model X.prog X.w) X.A (compareOp .In v u) (EP X pins σ Q) X.xe s := fun q => by
    obtain ⟨xs, q1, q2, q3, q⟩ := optK_of q
    obtain ⟨a, ys, e, sq, dv⟩ := seqOf_ok R q1 h2
    subst e
    refine op_in_seq pins s σ H _ _ v u Q I rx ry ⟨a, ys, rfl, sq, flat_ok q2 h1, flats_ok q3 dv, ?_⟩
    rw [inV_ok q2 h1 q3 dv]
    rw [Bool.false_xor] at q
    exact l (.bl _) H (.bl _) M Ext.rfl' R rfl q
  cases e <;> first | exact seq h3 | skip
  rename_i z
  cases (show y = .str z from h2)
  cases d <;> first | exact h3.elim | skip
  rename_i w
  cases (show x = .str w from h1)
  obtain ⟨c, q1, q⟩ := optK_of h3
  rw [Bool.false_xor] at q
  cases one_of q1
  exact op_in_sign pins s σ H _ _ v u Q I rx ry ⟨c, z, rfl, rfl, l (.bl _) H (.bl _) M Ext.rfl' R rfl q⟩
theorem od_notIn : OpR X (compareOp .NotIn) (liftV2 X.K (rInD true)) := by
  intro pins s σ H x y v u Q I rx ry hh
  obtain ⟨d, e, M, F, Qd, R, h1, h2, h3, l⟩ := hh
  have seq : optK (seqOf M e) (fun xs => flatD d = true ∧ xs.all flatD = true ∧ Qd (.bl (xor true (inD d xs))) M) → wpAny (model X.prog X.w) X.A (compareOp .NotIn v u) (EP X pins σ Q) X.xe s := fun q => by
    obtain ⟨xs, q1, q2, q3, q⟩ := optK_of q
    obtain ⟨a, ys, e, sq, dv⟩ := seqOf_ok R q1 h2
    subst e
    refine op_notIn_seq pins s σ H _ _ v u Q I rx ry ⟨a, ys, rfl, sq, flat_ok q2 h1, flats_ok q3 dv, ?_⟩
    rw [inV_ok q2 h1 q3 dv]
    rw [Bool.true_xor] at q
    exact l (.bl _) H (.bl _) M Ext.rfl' R rfl q
  cases e <;> first | exact seq h3 | skip
  rename_i z
  cases (show y = .str z from h2)
  cases d <;> first | exact h3.elim | skip
  rename_i w
  cases (show x = .str w from h1)
  obtain ⟨c, q1, q⟩ := optK_of h3
  rw [Bool.true_xor] at q
  cases one_of q1
  exact op_notIn_sign pins s σ H _ _ v u Q I rx ry ⟨c, z, rfl, rfl, l (.bl _) H (.bl _) M Ext.rfl' R rfl q⟩
end
section
variable {X : Cx} {W : WX} {a b c : Expr} {wa wb wc : WE} {pos : Pos} {K : PySem.W.Frag}
theorem testE {w : WE} {σ : L2.St} {H : Hp} {Q : Bool → Hp → Prop} (h : liftT K W (wTest w) σ H Q) : liftE K W w σ H (fun x H' => ∃ k, x = .bl k ∧ Q k H') :=
  bindE (wa := w) (f := fun d _ M Q _ => isBl d fun b => Q b M) h fun v d H1 h => finT h
theorem chainE {r r' : RD2} {σ : L2.St} {H : Hp} {Q : VK} (h : liftE K W (wChain r r' wa wb wc) σ H Q) : tChain (liftV2 K r) (liftV2 K r') (liftE K W wa) (liftE K W wb) (liftE K W wc) σ H Q :=
  bindE (wa := wa) (f := fun x ds M Q Xc => wb ds M (fun y M2 => r x y M2 fun z M3 => isBl z fun k =>
      if k = true then wc ds M3 (fun w M4 => r' y w M4 fun z2 M5 => isBl z2 fun k2 => Q (D.bl k2) M5) Xc else Q (D.bl false) M3) Xc) h fun x d H1 h =>
    bindE (wa := wb) (f := fun y ds M Q Xc => r d y M fun z M3 => isBl z fun k => if k = true then wc ds M3 (fun w M4 => r' y w M4 fun z2 M5 => isBl z2 fun k2 => Q (D.bl k2) M5) Xc else Q (D.bl false) M3) h fun y e H2 h => by
      obtain ⟨ds, M, F, Qd, Xd, hs, hv, hw, l1, l2⟩ := h
      obtain ⟨_, _, e1, h1, _, _, e2, h2, _⟩ := hv
      cases e1
      cases e2
      refine ⟨d, e, M, F, _, hs.1, h2, h1, hw, fun v H' z M' ex r2 dv q => ?_⟩
      obtain ⟨b, e3, q2⟩ := isBl_of q
      clear q
      subst e3
      cases (show v = .bl b from dv)
      refine ⟨b, rfl, ?_⟩
      cases b with
      | false => exact l1 (.bl false) H' (.bl false) M' ex r2 rfl (DL.ite_ff q2)
      | true =>
        have q := DL.ite_tt q2
        show lift K W (rE K) [] [] wc σ H' _
        refine bindE (wa := wc) (es := [e]) (vs := [y]) (f := fun w _ M Q _ => r' e w M fun z2 M5 => isBl z2 fun k2 => Q (D.bl k2) M5) (Rr := rE K) (Q := Q) ⟨ds, M', F, Qd, Xd, hs.ext ex r2, ⟨y, [], rfl, DV.ext hs.1.rel ex _ _ h1, rfl⟩, q, l1.ext ex, l2.ext ex⟩ fun u g H3 h => ?_
        obtain ⟨ds, M2, F2, Qd2, Xd2, hs2, hv2, hw2, l12, l22⟩ := h
        obtain ⟨_, _, e1, g1, _, _, e2, g2, _⟩ := hv2
        cases e1
        cases e2
        refine ⟨e, g, M2, F2, _, hs2.1, g2, g1, hw2, fun v H' z M' ex r2 dv q => ?_⟩
        obtain ⟨b, e3, q2⟩ := isBl_of q
        clear q
        subst e3
        cases (show v = .bl b from dv)
        exact l12 (.bl b) H' (.bl b) M' ex r2 rfl q2
/-- a op b op' c, b asked once -/
theorem j_chain {op op' : CmpOp} {r r' : RD2} (ho : OpR X (compareOp op) (liftV2 X.K r)) (ho' : OpR X (compareOp op') (liftV2 X.K r')) (ha : JE X W a wa) (hb : JE X W b wb) (hc : JE X W c wc)
    (hm : lastMarks [op, op'] [b, c] = false := by with_unfolding_all rfl) : JE X W (.Compare a [op, op'] [b, c] pos) (wChain r r' wa wb wc) :=
  pe_mono (pe_chain ho ho' ha hb hc hm) fun σ H Q h => chainE h
theorem jt_chain {op op' : CmpOp} {r r' : RD2} (ho : OpR X (compareOp op) (liftV2 X.K r)) (ho' : OpR X (compareOp op') (liftV2 X.K r')) (ha : JE X W a wa) (hb : JE X W b wb) (hc : JE X W c wc)
    (hm : lastMarks [op, op'] [b, c] = false := by with_unfolding_all rfl) : JT X W (.Compare a [op, op'] [b, c] pos) (wTest (wChain r r' wa wb wc)) :=
  pt_mono (pt_chain ho ho' ha hb hc hm) fun σ H Q h => chainE (testE h)
end
end DL
namespace DL
open PySem PySem.Spec PyProof.Rows L2 RZ

/-! ### targets -/
def Sl (K : PySem.W.Frag) (H : Hp) (N : Mem) (σ : L2.St) (ds : SD) : Prop := ds.length = σ.length ∧ ∀ (i : Nat) (d : D), ds[i]? = some (some d) → ∃ v, σ[i]? = some (some v) ∧ DV K H N d v
/-- only the slots is are stored -/
def PW' (is : List Nat) (σ σ' : L2.St) : Prop := ∀ vs, (∀ i ∈ is, i ∈ vs) → wipe σ' vs = wipe σ vs
abbrev GD := D → SD → (SD → Prop) → Prop
abbrev GDs := List D → SD → (SD → Prop) → Prop
def liftG (K : PySem.W.Frag) (is : List Nat) (g : GD) : TG := fun v σ H Q => ∃ d ds N Gd, RelM K H N ∧ Sl K H N σ ds ∧ DV K H N d v ∧ g d ds Gd ∧ ∀ σ' ds', Sl K H N σ' ds' → PW' is σ σ' → Gd ds' → Q σ' H
def liftGs (K : PySem.W.Frag) (is : List Nat) (g : GDs) : TGs := fun vs σ H Q => ∃ es ds N Gd, RelM K H N ∧ Sl K H N σ ds ∧ DVs K H N es vs ∧ g es ds Gd ∧ ∀ σ' ds', Sl K H N σ' ds' → PW' is σ σ' → Gd ds' → Q σ' H
abbrev JG (X : Cx) (tg : Expr) (is : List Nat) (g : GD) : Prop := PG X tg (liftG X.K is g)
abbrev JGs (X : Cx) (ts : List Expr) (is : List Nat) (g : GDs) : Prop := PGs X ts (liftGs X.K is g)
def gN (i : Nat) : GD := fun d ds Q => Q (ds.set i (some d))
def gNil' : GDs := fun es ds Q => match es with
  | [] => Q ds
  | _ => False
def gCons' (g : GD) (gs : GDs) : GDs := fun es ds Q => match es with
  | e :: es => g e ds fun ds2 => gs es ds2 Q
  | _ => False
def gT (n : Nat) (gs : GDs) : GD := fun d ds Q => match d with
  | .tup es => es.length = n ∧ gs es ds Q
  | _ => False
section
variable {X : Cx} {K : PySem.W.Frag} {H : Hp} {N : Mem} {σ : L2.St} {ds : SD}
theorem pg_mono {tg : Expr} {t t' : TG} (h : PG X tg t) (i : ∀ v σ H Q, t' v σ H Q → t v σ H Q) : PG X tg t' := ⟨fun pins s σ H v u Q I r hw => h.run pins s σ H v u Q I r (i v σ H Q hw)⟩
theorem pgs_mono {ts : List Expr} {t t' : TGs} (h : PGs X ts t) (i : ∀ v σ H Q, t' v σ H Q → t v σ H Q) : PGs X ts t' := ⟨fun pins s σ H v u Q I r hw => h.run pins s σ H v u Q I r (i v σ H Q hw)⟩
theorem Sl.set (S : Sl K H N σ ds) {i : Nat} {d : D} {v : V} (h : DV K H N d v) : Sl K H N (σ.set i (some v)) (ds.set i (some d)) := by
  refine ⟨by rw [List.length_set, List.length_set]; exact S.1, fun j e q => ?_⟩
  by_cases hj : i = j
  · subst hj
    by_cases hi : i < ds.length
    · rw [List.getElem?_set_self hi] at q
      cases q
      exact ⟨v, by rw [List.getElem?_set_self (S.1 ▸ hi)], h⟩
    · rw [List.getElem?_eq_none (by rw [List.length_set]; omega)] at q
      cases q
  · rw [List.getElem?_set_ne hj] at q ⊢
    exact S.2 j e q
theorem wipe_get_in {σ : L2.St} {i : Nat} : ∀ {vs : List Nat}, i ∈ vs → i < σ.length → (wipe σ vs)[i]? = some none
  | [], h, _ => by simp at h
  | v :: vs, h, hl => by
    unfold wipe
    by_cases e : v = i
    · subst e
      rw [List.getElem?_set_self (by rw [wipe_length]; exact hl)]
    · rw [List.getElem?_set_ne e]
      refine wipe_get_in (vs := vs) ?_ hl
      rcases List.mem_cons.mp h with q | q
      · exact absurd q.symm e
      · exact q
theorem wipe_eq {σ τ : L2.St} {vs : List Nat} (hl : σ.length = τ.length) (h : ∀ i, i ∉ vs → σ[i]? = τ[i]?) : wipe σ vs = wipe τ vs := by
  refine List.ext_getElem? fun i => ?_
  by_cases hi : i ∈ vs
  · by_cases hlt : i < σ.length
    · rw [wipe_get_in hi hlt, wipe_get_in hi (hl ▸ hlt)]
    · rw [List.getElem?_eq_none (by rw [wipe_length]; omega), List.getElem?_eq_none (by rw [wipe_length]; omega)]
  · rw [wipe_out hi, wipe_out hi]
    exact h i hi
theorem pw_set {i : Nat} {o : Option V} : PW' [i] σ (σ.set i o) := fun vs h => wipe_eq (by rw [List.length_set]) fun j hj => by
  rw [List.getElem?_set_ne]
  intro e
  subst e
  exact hj (h _ List.mem_cons_self)
theorem pw_trans {is js : List Nat} {σ σ1 σ2 : L2.St} (a : PW' is σ σ1) (b : PW' js σ1 σ2) : PW' (is ++ js) σ σ2 := fun vs h =>
  (b vs fun i hi => h i (List.mem_append_right _ hi)).trans (a vs fun i hi => h i (List.mem_append_left _ hi))
theorem pw_refl : PW' [] σ σ := fun _ _ => rfl
/-- a name -/
theorem jg_name {i : Nat} {x : Str} {pos : Pos} (hN : X.N.Nodup) (hi : X.N[i]? = some x := by rfl) (hx : Loc X.env.scope x := by first | exact Or.inl rfl | exact Or.inr rfl) (hf : X.fn x = true ∨ X.env.scope.names.lookup x = some .local := by first | exact .inl rfl | exact .inr rfl | assumption) : JG X (.Name x pos) [i] (gN i) :=
  pg_mono (pg_name hN hi hx hf) fun v σ H Q h => by
    obtain ⟨d, ds, N, Gd, R, S, dv, hw, l⟩ := h
    exact l _ _ (S.set dv) pw_set hw
theorem jgs_nil : JGs X [] [] gNil' := pgs_mono pgs_nil fun vs σ H Q h => by
  obtain ⟨es, ds, N, Gd, R, S, dv, hw, l⟩ := h
  cases es with
  | nil => exact ⟨dv, l _ _ S pw_refl hw⟩
  | cons e es => exact hw.elim
theorem jgs_cons {e : Expr} {es : List Expr} {is js : List Nat} {g : GD} {gs : GDs} (h1 : JG X e is g) (h2 : JGs X es js gs) (hs : (assignEach (e :: es) X.env).map (·.2) = assign e X.env :: (assignEach es X.env).map (·.2) := by rfl) : JGs X (e :: es) (is ++ js) (gCons' g gs) :=
  pgs_mono (pgs_cons h1 h2 hs) fun vs σ H Q h => by
    obtain ⟨es, ds, N, Gd, R, S, dv, hw, l⟩ := h
    cases es with
    | nil => exact hw.elim
    | cons d es =>
      obtain ⟨y, ys, e, d1, d2⟩ := dv
      subst e
      exact ⟨y, ys, rfl, d, ds, N, _, R, S, d1, hw, fun σ' ds' S' P q => ⟨es, ds', N, Gd, R, S', d2, q, fun σ2 ds2 S2 P2 q2 => l σ2 ds2 S2 (pw_trans P P2) q2⟩⟩
/-- (a, b, ..) -/
theorem jg_tup {es : List Expr} {k n : Nat} {is : List Nat} {gs : GDs} {pos : Pos} (hc : X.calm = true) (h : JGs X es is gs)
    (hn : (assignEach es X.env).length = n := by rfl) (hst : (assignEach es X.env).findIdx? (·.1) = none := by rfl) : JG X (.Tuple es k pos) is (gT n gs) :=
  pg_mono (pg_tup hc h hn hst) fun v σ H Q h => by
    obtain ⟨d, ds, N, Gd, R, S, dv, hw, l⟩ := h
    cases d <;> first | exact hw.elim | skip
    rename_i xs
    obtain ⟨a, ys, e, q1, q2⟩ := dv
    exact ⟨a, ys, e, q1, by rw [q2.len]; exact hw.1, xs, ds, N, Gd, R, S, q2, hw.2, l⟩
end

/-! ### what is walked -/
/-- J walks the items, wherever what was frozen stands -/
def Yl (K : PySem.W.Frag) (J : It) (items : List D) (H0 : Hp) (N0 : Mem) : Prop := ∀ (i : Nat) (H : Hp) (N : Mem), Ext H0 N0 H N → RelM K H N →
  (items.length ≤ i → J.stop i H) ∧ ∀ d, items[i]? = some d → J.go i H ∧ ∀ x H', J.yld i H x H' → Ext H N H' N ∧ RelM K H' N ∧ DV K H' N d x
abbrev WI := WG (List D)
def liftI (K : PySem.W.Frag) (W : WX) (w : WI) : TI := fun σ H R => ∃ ds M F Qd Xd, RelS K F σ H ds M ∧ w ds M Qd Xd ∧
  (∀ J H' items M', Ext H (uni M F) H' (uni M' F) → Rm K H' M' F → Yl K J items H' (uni M' F) → Qd items M' → R J H') ∧ LkX K F H M σ Xd W
abbrev JI (X : Cx) (W : WX) (tg iter : Expr) (w : WI) : Prop := PI X tg iter (liftI X.K W w)
def rngD (lo : Int) (n : Nat) : List D := (List.range n).map fun i => D.int (lo + (i : Nat))
def sgnD (x : Str) : List D := x.cps.toList.map fun c => D.str ⟨#[c]⟩
def enumD (xs : List D) : List D := xs.zipIdx.map fun p => D.tup [.int (p.2 : Nat), p.1]
def zipD (xs ys : List D) : List D := List.zipWith (fun x y => D.tup [x, y]) xs ys
section
variable {K : PySem.W.Frag} {H0 : Hp} {N0 : Mem}
theorem sql_inj {H : Hp} {a : Addr} {xs ys : List V} (h : H a = some (.lst xs)) (x : V) (i : Nat) (g : ∀ zs, SqL K H a zs → zs[i]? = some x) : xs[i]? = some x := g xs (SqL.of h)
theorem yl_list {a : Addr} {ds : List D} {xs : List V} (R0 : RelM K H0 N0) (h : H0 a = some (.lst xs)) (m : N0 a = none) (dv : DVs K H0 N0 ds xs) : Yl K (Itl K a) ds H0 N0 := fun i H N e R => by
  obtain ⟨q1, q2⟩ := e.at h m plain_lst
  refine ⟨fun hi => ⟨xs, SqL.of q1, by rw [dv.len]; exact hi⟩, fun d hd => ?_⟩
  obtain ⟨x, h1, h2⟩ := (DVs.ext R0 e _ _ dv).get hd
  refine ⟨⟨xs, x, SqL.of q1, h1⟩, fun y H' hy => ?_⟩
  obtain ⟨e1, e2⟩ := hy
  subst e1
  have e3 := e2 xs (SqL.of q1)
  rw [h1] at e3
  cases e3
  exact ⟨Ext.rfl', R, h2⟩
theorem yl_tup {a : Addr} {ds : List D} {xs : List V} (R0 : RelM K H0 N0) (h : SqT K H0 a xs) (dv : DVs K H0 N0 ds xs) : Yl K (Itt K a) ds H0 N0 := fun i H N e R => by
  have q1 := SqT.ext R0 e h
  refine ⟨fun hi => ⟨xs, q1, by rw [dv.len]; exact hi⟩, fun d hd => ?_⟩
  obtain ⟨x, h1, h2⟩ := (DVs.ext R0 e _ _ dv).get hd
  refine ⟨⟨xs, x, q1, h1⟩, fun y H' hy => ?_⟩
  obtain ⟨e1, e2⟩ := hy
  subst e1
  have e3 := e2 xs q1
  rw [h1] at e3
  cases e3
  exact ⟨Ext.rfl', R, h2⟩
theorem rngD_len (lo : Int) (n : Nat) : (rngD lo n).length = n := by unfold rngD; rw [List.length_map, List.length_range]
theorem yl_rng {lo : Int} {n : Nat} : Yl K (Itr lo n) (rngD lo n) H0 N0 := fun i H N e R => by
  refine ⟨fun hi => by rw [rngD_len] at hi; exact hi, fun d hd => ?_⟩
  have hi : i < n := by
    have q := (List.getElem?_eq_some_iff.mp hd).1
    rw [rngD_len] at q
    exact q
  refine ⟨hi, fun x H' hy => ?_⟩
  obtain ⟨e1, e2⟩ := hy
  subst e1
  subst e2
  unfold rngD at hd
  rw [List.getElem?_map, List.getElem?_range hi] at hd
  cases hd
  exact ⟨Ext.rfl', R, rfl⟩
theorem yl_str {x : Str} : Yl K (Its x) (sgnD x) H0 N0 := fun i H N e R => by
  refine ⟨fun hi => by unfold sgnD at hi; rw [List.length_map, Array.length_toList] at hi; exact hi, fun d hd => ?_⟩
  unfold sgnD at hd
  rw [List.getElem?_map, Array.getElem?_toList] at hd
  cases q : x.cps[i]? with
  | none => rw [q] at hd; cases hd
  | some c =>
    rw [q] at hd
    cases hd
    refine ⟨(Array.getElem?_eq_some_iff.mp q).1, fun v H' hy => ?_⟩
    obtain ⟨e1, c', e2, e3⟩ := hy
    subst e1
    subst e3
    rw [q] at e2
    cases e2
    exact ⟨Ext.rfl', R, rfl⟩
theorem pair_new {H : Hp} {N : Mem} (R : RelM K H N) {T : Addr} {d e : D} {x y : V} (hT : H T = none) (h1 : DV K H N d x) (h2 : DV K H N e y) :
    Ext H N (upd H T (.tup [x, y])) N ∧ RelM K (upd H T (.tup [x, y])) N ∧ DV K (upd H T (.tup [x, y])) N (.tup [d, e]) (.ref T) := by
  have e' := new_ext R (o := HO.tup [x, y]) hT
  exact ⟨e', new_rel R hT, T, [x, y], rfl, SqT.of upd_same, _, _, rfl, DV.ext R e' _ _ h1, _, _, rfl, DV.ext R e' _ _ h2, rfl⟩
theorem yl_enum {a : Addr} {ds : List D} {xs : List V} (R0 : RelM K H0 N0) (h : H0 a = some (.lst xs)) (m : N0 a = none) (dv : DVs K H0 N0 ds xs) : Yl K (Ite K a) (enumD ds) H0 N0 := fun i H N e R => by
  obtain ⟨q1, q2⟩ := e.at h m plain_lst
  refine ⟨fun hi => ⟨xs, SqL.of q1, by unfold enumD at hi; rw [List.length_map, List.length_zipIdx] at hi; rw [dv.len]; exact hi⟩, fun d hd => ?_⟩
  unfold enumD at hd
  rw [List.getElem?_map, List.getElem?_zipIdx] at hd
  cases q : ds[i]? with
  | none => rw [q] at hd; cases hd
  | some u =>
    rw [q] at hd
    simp only [Option.map_some, Option.some.injEq] at hd
    subst hd
    obtain ⟨x, h1, h2⟩ := (DVs.ext R0 e _ _ dv).get q
    refine ⟨⟨xs, x, SqL.of q1, h1⟩, fun y H' hy => ?_⟩
    obtain ⟨T, z, e1, e2, e3, e4⟩ := hy
    subst e1
    subst e3
    have e5 := e4 xs (SqL.of q1)
    rw [h1] at e5
    cases e5
    exact pair_new R e2 (show DV K H N (.int ((0 + i : Nat) : Int)) (.int (i : Nat)) by rw [Nat.zero_add]; rfl) h2
theorem zip_get {xs ys : List D} {i : Nat} {d : D} (h : (zipD xs ys)[i]? = some d) : ∃ x y, xs[i]? = some x ∧ ys[i]? = some y ∧ d = .tup [x, y] := by
  unfold zipD at h
  rw [List.getElem?_zipWith] at h
  cases q : xs[i]? with
  | none => rw [q] at h; cases h
  | some x =>
    rw [q] at h
    cases q2 : ys[i]? with
    | none => rw [q2] at h; cases h
    | some y =>
      rw [q2] at h
      cases h
      exact ⟨x, y, rfl, rfl, rfl⟩
theorem zip_len {xs ys : List D} {i : Nat} (h : (zipD xs ys).length ≤ i) : xs.length ≤ i ∨ ys.length ≤ i := by
  unfold zipD at h
  rw [List.length_zipWith] at h
  omega
theorem yl_zipL {a b : Addr} {ds es : List D} {xs ys : List V} (R0 : RelM K H0 N0) (h : H0 a = some (.lst xs)) (m : N0 a = none) (dv : DVs K H0 N0 ds xs) (h' : H0 b = some (.lst ys)) (m' : N0 b = none) (dv' : DVs K H0 N0 es ys) :
    Yl K (Itz K a b) (zipD ds es) H0 N0 := fun i H N e R => by
  obtain ⟨q1, _⟩ := e.at h m plain_lst
  obtain ⟨q2, _⟩ := e.at h' m' plain_lst
  refine ⟨fun hi => ⟨xs, ys, SqL.of q1, SqL.of q2, by rw [dv.len, dv'.len]; exact zip_len hi⟩, fun d hd => ?_⟩
  obtain ⟨u, v, g1, g2, g3⟩ := zip_get hd
  subst g3
  obtain ⟨x, h1, h2⟩ := (DVs.ext R0 e _ _ dv).get g1
  obtain ⟨y, k1, k2⟩ := (DVs.ext R0 e _ _ dv').get g2
  refine ⟨⟨xs, ys, x, y, SqL.of q1, SqL.of q2, h1, k1⟩, fun z H' hy => ?_⟩
  obtain ⟨T, x', y', e1, e2, e3, e4, e5⟩ := hy
  subst e1
  subst e3
  have f1 := e4 xs (SqL.of q1)
  have f2 := e5 ys (SqL.of q2)
  rw [h1] at f1
  rw [k1] at f2
  cases f1
  cases f2
  exact pair_new R e2 h2 k2
theorem yl_zipT {a b : Addr} {ds es : List D} {xs ys : List V} (R0 : RelM K H0 N0) (h : SqT K H0 a xs) (dv : DVs K H0 N0 ds xs) (h' : SqT K H0 b ys) (dv' : DVs K H0 N0 es ys) :
    Yl K (ItzT K a b) (zipD ds es) H0 N0 := fun i H N e R => by
  have q1 := SqT.ext R0 e h
  have q2 := SqT.ext R0 e h'
  refine ⟨fun hi => ⟨xs, ys, q1, q2, by rw [dv.len, dv'.len]; exact zip_len hi⟩, fun d hd => ?_⟩
  obtain ⟨u, v, g1, g2, g3⟩ := zip_get hd
  subst g3
  obtain ⟨x, h1, h2⟩ := (DVs.ext R0 e _ _ dv).get g1
  obtain ⟨y, k1, k2⟩ := (DVs.ext R0 e _ _ dv').get g2
  refine ⟨⟨xs, ys, x, y, q1, q2, h1, k1⟩, fun z H' hy => ?_⟩
  obtain ⟨T, x', y', e1, e2, e3, e4, e5⟩ := hy
  subst e1
  subst e3
  have f1 := e4 xs q1
  have f2 := e5 ys q2
  rw [h1] at f1
  rw [k1] at f2
  cases f1
  cases f2
  exact pair_new R e2 h2 k2
end
/-- a list (that nobody owns) or a tuple -/
def frzSeq : D → Option (List D)
  | .lst xs => some xs
  | .tup xs => some xs
  | _ => none
def wiSeq (we : WE) : WI := fun ds M Q Xc => we ds M (fun d M1 => optK (frzSeq d) fun xs => Q xs M1) Xc
def wiStr (we : WE) : WI := fun ds M Q Xc => we ds M (fun d M1 => match d with | .str x => Q (sgnD x) M1 | _ => False) Xc
def wiRng1 (wa : WA) : WI := fun ds M Q Xc => wa ds M (fun es M1 => match es with | [.int j] => (-(2 ^ 62) ≤ j ∧ j < 2 ^ 62) ∧ Q (rngD 0 j.toNat) M1 | _ => False) Xc
def wiRng2 (wa : WA) : WI := fun ds M Q Xc => wa ds M (fun es M1 => match es with | [.int i, .int j] => (-(2 ^ 62) ≤ i ∧ i < 2 ^ 62 ∧ -(2 ^ 62) ≤ j ∧ j < 2 ^ 62) ∧ Q (rngD i (j - i).toNat) M1 | _ => False) Xc
def wiEnum (wa : WA) : WI := fun ds M Q Xc => wa ds M (fun es M1 => match es with | [.lst xs] => Q (enumD xs) M1 | _ => False) Xc
def wiZip (wa : WA) : WI := fun ds M Q Xc => wa ds M (fun es M1 => match es with | [.lst xs, .lst ys] => Q (zipD xs ys) M1 | [.tup xs, .tup ys] => Q (zipD xs ys) M1 | _ => False) Xc
section
variable {X : Cx} {W : WX} {tg l a b : Expr} {we : WE} {wa : WA} {p pos : Pos}
theorem pi_mono {iter : Expr} {t t' : TI} (h : PI X tg iter t) (i : ∀ σ H R, t' σ H R → t σ H R) : PI X tg iter t' := ⟨fun pins s σ H R I hw => h.run pins s σ H R I (i σ H R hw)⟩
/-- a list or a tuple, whichever comes -/
theorem pi_any {tl : TE} (hl : PE X l tl) : PI X tg l (fun σ H R => tl σ H fun x H1 => ∃ a, x = V.ref a ∧ (((∃ xs, SqL X.K H1 a xs) ∧ R (Itl X.K a) H1) ∨ ((∃ xs, SqT X.K H1 a xs) ∧ R (Itt X.K a) H1))) := by
  refine ⟨fun pins s σ H R I h => ?_⟩
  refine thn (hl.run pins s σ H _ I h) ?_
  rintro v s1 ⟨x, H1, I1, r1, a, rfl, q⟩
  cases r1
  have fresh := I1.hok.fresh (Nat.le_refl s1.heap.objs.size)
  rcases q with ⟨⟨xs, hq⟩, q⟩ | ⟨⟨xs, hq⟩, q⟩
  · obtain ⟨its, rv, pl, _⟩ := I1.list hq
    refine wpAny_pyIter_list pl.isList ⟨_, [s1.heap.objs.size], _, _, H1, rfl, I1.kept (t' := s1.toks) (fun b o e => Heap.get?_push_of_some _ e), turn_list a _, ⟨_, Heap.get?_push_size _ rfl, rfl, rfl⟩, ?_, q⟩
    intro b hb
    rw [List.mem_singleton.mp hb]
    exact I1.fpOk (Nat.le_refl _) fresh
  · obtain ⟨its, rv, pt, _⟩ := I1.tuple hq
    have pt' : s1.heap.IsTuple a its.toArray := pt
    refine wpAny_pyIter_tuple pt' ⟨_, [s1.heap.objs.size], _, _, H1, rfl, I1.kept (t' := s1.toks) (fun b o e => Heap.get?_push_of_some _ e), turn_tuple a _, ⟨_, Heap.get?_push_size _ rfl, rfl, rfl⟩, ?_, q⟩
    intro b hb
    rw [List.mem_singleton.mp hb]
    exact I1.fpOk (Nat.le_refl _) fresh
theorem ji_seq (h : JE X W l we) : JI X W tg l (wiSeq we) := pi_mono (pi_any h) fun σ H R h => by
  obtain ⟨ds, M, F, Qd, Xd, hs, hw, l1, l2⟩ := h
  refine ⟨ds, M, F, _, Xd, hs, rfl, hw, fun v H' d M' e r dv q => ?_, l2⟩
  obtain ⟨xs, q1, q⟩ := optK_of q
  cases d <;> first | cases q1 | skip
  · obtain ⟨a, ys, e1, g1, g2⟩ := dv
    exact ⟨a, e1, .inr ⟨⟨ys, g1⟩, l1 _ H' _ M' e r (yl_tup r.rel g1 g2) q⟩⟩
  · obtain ⟨a, ys, e1, g1, gm, g2⟩ := dv
    exact ⟨a, e1, .inl ⟨⟨ys, SqL.of g1⟩, l1 _ H' _ M' e r (yl_list r.rel g1 gm g2) q⟩⟩
theorem ji_str (h : JE X W l we) : JI X W tg l (wiStr we) := pi_mono (pi_str h) fun σ H R h => by
  obtain ⟨ds, M, F, Qd, Xd, hs, hw, l1, l2⟩ := h
  refine ⟨ds, M, F, _, Xd, hs, rfl, hw, fun v H' d M' e r dv q => ?_, l2⟩
  cases d <;> first | exact q.elim | skip
  rename_i x
  exact ⟨x, dv, l1 _ H' _ M' e r yl_str q⟩
theorem ji_rng1 (hm : X.mg "range" = none) (ha : JA X W [a] wa) (hg : Gl X "range" := by rfl) (hs : starEach [a] X.env = [(false, eval a X.env)] := by rfl) : JI X W tg (.Call (.Name "range" p) [a] [] pos) (wiRng1 wa) := pi_mono (pi_range1 hg hm ha hs) fun σ H R h => by
  obtain ⟨ds, M, F, Qd, Xd, hs, hw, l1, l2⟩ := h
  refine ⟨ds, M, F, _, Xd, hs, rfl, hw, fun v H' d M' e r dv q => ?_, l2⟩
  dsimp only at q
  split at q
  · rename_i j
    obtain ⟨x, e1, g⟩ := dv1 dv
    subst e1
    cases (show x = .int j from g)
    exact ⟨j, rfl, q.1.1, q.1.2, l1 _ H' _ M' e r yl_rng q.2⟩
  · exact q.elim
theorem ji_rng2 (hm : X.mg "range" = none) (ha : JA X W [a, b] wa) (hg : Gl X "range" := by rfl) (hs : starEach [a, b] X.env = [(false, eval a X.env), (false, eval b X.env)] := by rfl) (hs2 : starEach [b] X.env = [(false, eval b X.env)] := by rfl) :
    JI X W tg (.Call (.Name "range" p) [a, b] [] pos) (wiRng2 wa) := pi_mono (pi_range2 hg hm ha hs hs2) fun σ H R h => by
  obtain ⟨ds, M, F, Qd, Xd, hs, hw, l1, l2⟩ := h
  refine ⟨ds, M, F, _, Xd, hs, rfl, hw, fun v H' d M' e r dv q => ?_, l2⟩
  dsimp only at q
  split at q
  · rename_i i j
    obtain ⟨x, y, e1, g, g'⟩ := dv2 dv
    subst e1
    cases (show x = .int i from g)
    cases (show y = .int j from g')
    exact ⟨i, j, rfl, q.1, l1 _ H' _ M' e r yl_rng q.2⟩
  · exact q.elim
variable {elts : List Expr} {kk : Nat} {tpos : Pos}
theorem ji_enum (hm : X.mg "enumerate" = none) (ha : JA X W [a] wa) (hg : Gl X "enumerate" := by rfl) (hs : starEach [a] X.env = [(false, eval a X.env)] := by rfl) :
    JI X W (.Tuple elts kk tpos) (.Call (.Name "enumerate" p) [a] [] pos) (wiEnum wa) := pi_mono (pi_enum hg hm ha hs) fun σ H R h => by
  obtain ⟨ds, M, F, Qd, Xd, hs, hw, l1, l2⟩ := h
  refine ⟨ds, M, F, _, Xd, hs, rfl, hw, fun v H' d M' e r dv q => ?_, l2⟩
  dsimp only at q
  split at q
  · rename_i xs
    obtain ⟨x, e1, g⟩ := dv1 dv
    subst e1
    obtain ⟨c, ys, e2, g1, gm, g2⟩ := g
    subst e2
    exact ⟨c, ys, rfl, SqL.of g1, l1 _ H' _ M' e r (yl_enum r.rel g1 gm g2) q⟩
  · exact q.elim
theorem ji_zip (hm : X.mg "zip" = none) (ha : JA X W [a, b] wa) (hg : Gl X "zip" := by rfl) (hs : starEach [a, b] X.env = (false, eval a X.env) :: starEach [b] X.env := by rfl) (hpl : (backTo pos (starEach [b] X.env)).any (·.1) = false := by rfl) :
    JI X W (.Tuple elts kk tpos) (.Call (.Name "zip" p) [a, b] [] pos) (wiZip wa) := pi_mono (pi_zipA hg hm ha hs hpl) fun σ H R h => by
  obtain ⟨ds, M, F, Qd, Xd, hs, hw, l1, l2⟩ := h
  refine ⟨ds, M, F, _, Xd, hs, rfl, hw, fun v H' d M' e r dv q => ?_, l2⟩
  dsimp only at q
  split at q
  · obtain ⟨x, y, e1, g, g'⟩ := dv2 dv
    subst e1
    obtain ⟨c, ys, e2, g1, gm, g2⟩ := g
    obtain ⟨c', ys', e2', g1', gm', g2'⟩ := g'
    subst e2
    subst e2'
    exact ⟨c, c', ys, ys', rfl, .inl ⟨SqL.of g1, SqL.of g1', l1 _ H' _ M' e r (yl_zipL r.rel g1 gm g2 g1' gm' g2') q⟩⟩
  · obtain ⟨x, y, e1, g, g'⟩ := dv2 dv
    subst e1
    obtain ⟨c, ys, e2, g1, g2⟩ := g
    obtain ⟨c', ys', e2', g1', g2'⟩ := g'
    subst e2
    subst e2'
    exact ⟨c, c', ys, ys', rfl, .inr ⟨g1, g1', l1 _ H' _ M' e r (yl_zipT r.rel g1 g2 g1' g2') q⟩⟩
  · exact q.elim
end
end DL
namespace DL
open PySem PySem.Spec PyProof.Rows L2 RZ

/-! ### comprehensions -/
def WF : WX := fun _ _ _ _ => False
def XF : KX := fun _ _ => False
def wipeD (ds : SD) : List Nat → SD
  | [] => ds
  | v :: vs => (wipeD ds vs).set v none
def lcR (g : GD) (tt : WT) (te : WE) (ds : SD) : List D → List D → Mem → (List D → Mem → Prop) → Prop
  | [], acc, M, k => k acc M
  | d :: items, acc, M, k => g d ds fun ds2 => tt ds2 M (fun b M1 => if b = true then te ds2 M1 (fun y M2 => acc.length < sizeLine ∧ lcR g tt te ds items (acc ++ [y]) M2 k) XF else lcR g tt te ds items acc M1 k) XF
def wLc (wi : WI) (g : GD) (tt : WT) (te : WE) (vs : List Nat) : WE := fun ds M Q Xc => wi ds M (fun items M1 => lcR g tt te (wipeD ds vs) items [] M1 fun ys M2 => Q (.lst ys) M2) Xc
def wLcO (wi : WI) (g : GD) (tt : WT) (te : WE) (vs : List Nat) : WE := fun ds M Q Xc => wi ds M (fun items M1 => lcR g tt te (wipeD ds vs) items [] M1 fun ys M2 => ∀ a, M2 a = none → Q (.ref a) (mput M2 a (.lst ys))) Xc
def wYes : WT := fun _ M Q _ => Q true M
section
variable {K : PySem.W.Frag} {H H' : Hp} {M M' F N N' : Mem} {σ : L2.St} {ds : SD}
theorem Ext.down {N'' : Mem} (e : Ext H N H' N') (d : ∀ a, N' a = none → N'' a = none) : Ext H N H' N'' := fun a o h m n => by
  obtain ⟨q1, q2⟩ := e a o h m n
  exact ⟨q1, d a q2⟩
mutual
theorem DV.down (e : ∀ a, N a = none → N' a = none) : ∀ (d : D) (v : V), DV K H N d v → DV K H N' d v
  | .non, v, h => h
  | .bl b, v, h => h
  | .int i, v, h => h
  | .str x, v, h => h
  | .ty n, v, h => h
  | .ref a, v, h => h
  | .tup ds, v, h => by
    obtain ⟨a, xs, h1, h2, h3⟩ := h
    exact ⟨a, xs, h1, h2, DVs.down e ds xs h3⟩
  | .lst ds, v, h => by
    obtain ⟨a, xs, h1, h2, h3, h4⟩ := h
    exact ⟨a, xs, h1, h2, e a h3, DVs.down e ds xs h4⟩
  | .dct ks ds, v, h => by
    obtain ⟨a, kvs, h1, h2, h3, h4, h5⟩ := h
    exact ⟨a, kvs, h1, h2, e a h3, h4, DVs.down e ds _ h5⟩
  | .ins C ns ds, v, h => by
    obtain ⟨a, dx, fs, h1, h2, h3, h4, h5⟩ := h
    exact ⟨a, dx, fs, h1, h2, e a h3, h4, DVs.down e ds _ h5⟩
  | .scr ns, v, h => h
  | .exc a dd C ns ds, v, h => by
    obtain ⟨h1, fs, h2, h3, h4, h5⟩ := h
    exact ⟨h1, fs, h2, e _ h3, h4, DVs.down e ds _ h5⟩
  | .tpn ds, v, h => by
    obtain ⟨a, xs, o, h1, h2, h3, h4⟩ := h
    exact ⟨a, xs, o, h1, h2, h3, DVs.down e ds xs h4⟩
theorem DVs.down (e : ∀ a, N a = none → N' a = none) : ∀ (ds : List D) (xs : List V), DVs K H N ds xs → DVs K H N' ds xs
  | [], xs, h => h
  | d :: ds, xs, h => by
    obtain ⟨y, ys, h1, h2, h3⟩ := h
    exact ⟨y, ys, h1, DV.down e d y h2, DVs.down e ds ys h3⟩
end
theorem RelM.down (R : RelM K H N) (e : ∀ a o, N' a = some o → N a = some o) : RelM K H N' := fun a o h => by
  have e' : ∀ b, N b = none → N' b = none := fun b hb => by
    cases q : N' b with
    | none => rfl
    | some u => rw [e b u q] at hb; cases hb
  have q := R a o (e a o h)
  cases o with
  | lst ds => obtain ⟨xs, h1, h2⟩ := q; exact ⟨xs, h1, DVs.down e' ds xs h2⟩
  | dct ks ds => obtain ⟨kvs, h1, h2, h3⟩ := q; exact ⟨kvs, h1, h2, DVs.down e' ds _ h3⟩
  | ins C ns ds => obtain ⟨dx, fs, h1, h2, h3⟩ := q; exact ⟨dx, fs, h1, h2, DVs.down e' ds _ h3⟩
  | tab q' =>
    obtain ⟨ps, h1, h2, h3⟩ := q
    refine ⟨ps, h1, h2, fun pos cv hc => ?_⟩
    obtain ⟨c, e1, e2, e3⟩ := h3 pos cv hc
    exact ⟨c, e1, e2, e' _ e3⟩
theorem uni_frame {D : Addr} {o : MO} : uni M (mput F D o) = mput (uni M F) D o := by
  funext b
  unfold uni mput
  by_cases e : b = D
  · simp [e]
  · simp [e]
theorem Sl.ext (R : RelM K H N) (S : Sl K H N σ ds) (e : Ext H N H' N') : Sl K H' N' σ ds := ⟨S.1, fun i d h => by
  obtain ⟨v, h1, h2⟩ := S.2 i d h
  exact ⟨v, h1, DV.ext R e d v h2⟩⟩
theorem wipeD_len (ds : SD) : ∀ vs : List Nat, (wipeD ds vs).length = ds.length
  | [] => rfl
  | v :: vs => by unfold wipeD; rw [List.length_set, wipeD_len ds vs]
theorem wipeD_some {i : Nat} {x : D} : ∀ {vs : List Nat}, (wipeD ds vs)[i]? = some (some x) → ds[i]? = some (some x) ∧ i ∉ vs
  | [], h => ⟨h, by simp⟩
  | v :: vs, h => by
    unfold wipeD at h
    by_cases hi : v = i
    · subst hi
      by_cases hv : v < (wipeD ds vs).length
      · rw [List.getElem?_set_self hv] at h; cases h
      · rw [List.getElem?_eq_none (by rw [List.length_set]; omega)] at h; cases h
    · rw [List.getElem?_set_ne hi] at h
      obtain ⟨h1, h2⟩ := wipeD_some h
      exact ⟨h1, fun z => by rcases List.mem_cons.mp z with q | q; exact hi q.symm; exact h2 q⟩
theorem Sl.wipe (S : Sl K H N σ ds) (vs : List Nat) : Sl K H N (L2.wipe σ vs) (wipeD ds vs) := ⟨by rw [wipeD_len, wipe_length]; exact S.1, fun i d h => by
  obtain ⟨h1, h2⟩ := wipeD_some h
  rw [wipe_out h2]
  exact S.2 i d h1⟩
theorem wipe_wipe (σ : L2.St) (vs : List Nat) : wipe (wipe σ vs) vs = wipe σ vs := wipe_eq (wipe_length _ _) fun i hi => wipe_out hi
theorem lc_run {W : WX} {wi : WI} {g : GD} {tt : WT} {te : WE} {vs is : List Nat} {Q : VK} {k : (D → Mem → Prop) → List D → Mem → Prop}
    (hin : ∀ i ∈ is, i ∈ vs)
    (hk : ∀ (Qd : D → Mem → Prop) (acc : List D) (M : Mem) (F : Mem) (H0 : Hp) (M0 : Mem) (H : Hp) (Dd : Addr), LkG K F (rE K) H0 M0 Qd Q → F Dd = none → Ext H0 (uni M0 F) H (uni M (mput F Dd (.lst acc))) → Rm K H M (mput F Dd (.lst acc)) → k Qd acc M → Q (.ref Dd) H)
    (h : lift K W (rE K) [] [] (fun ds M Q Xc => wi ds M (fun items M1 => lcR g tt te (wipeD ds vs) items [] M1 fun ys M2 => k Q ys M2) Xc) σ H Q) :
    tLc (liftI K W wi) (liftG K is g) (liftT K WF tt) (liftE K WF te) vs σ H Q := by
  obtain ⟨ds, M, F, Qd, Xd, hs, _, hw, l1, l2⟩ := h
  refine ⟨ds, M, F, _, Xd, hs, hw, fun J H1 items M1 e1 r1 yl q => fun D hD => ?_, l2⟩
  have hF : F D = none := (uni_none (r1.rel.free hD)).1
  have S1 : Sl K H1 (uni M1 F) σ ds := Sl.ext hs.1.rel hs.2 e1
  refine ⟨fun i m H' => m = items.length - i ∧ i ≤ items.length ∧ ∃ M' acc, Rm K H' M' (mput F D (.lst acc)) ∧ Ext H1 (uni M1 F) H' (uni M' (mput F D (.lst acc))) ∧ lcR g tt te (wipeD ds vs) (items.drop i) acc M' fun ys M2 => k Qd ys M2,
    ⟨items.length, rfl, Nat.zero_le _, M1, [], ⟨?_, fun a o ha => ?_⟩, ?_, q⟩, ?_⟩
  · rw [uni_frame]
    exact own_rel r1.rel hD ⟨[], upd_same, rfl⟩
  · by_cases hz : a = D
    · subst hz
      exact r1.mfree hD
    · rw [mput_ne hz] at ha
      exact r1.dj a o ha
  · rw [uni_frame]
    exact own_ext r1.rel hD
  · rintro i m H' ⟨rfl, hi, M', acc, R', X', lc⟩
    have hDM : M' D = none := R'.dj D _ mput_same
    have hDu : uni M' (mput F D (.lst acc)) D = some (.lst acc) := by rw [uni_frame, mput_same]
    by_cases hlt : i < items.length
    · have hget : items[i]? = some items[i] := List.getElem?_eq_getElem hlt
      obtain ⟨go, hy⟩ := (yl i H' _ X' R'.rel).2 _ hget
      refine .inr ⟨go, fun H'' => ∃ M' acc, Rm K H'' M' (mput F D (.lst acc)) ∧ Ext H1 (uni M1 F) H'' (uni M' (mput F D (.lst acc))) ∧ lcR g tt te (wipeD ds vs) (items.drop (i + 1)) acc M' fun ys M2 => k Qd ys M2,
        fun H'' hn => ⟨items.length - (i + 1), by omega, rfl, hlt, hn⟩, fun x H'' hyl => ?_⟩
      obtain ⟨x1, x2, x3⟩ := hy x H'' hyl
      rw [List.drop_eq_getElem_cons hlt] at lc
      refine ⟨items[i], wipeD ds vs, _, _, x2, (Sl.ext r1.rel S1 (X'.trans x1)).wipe vs, x3, lc, fun σ' ds' S' P' q' => ⟨by rw [P' vs hin, wipe_wipe], ?_⟩⟩
      refine ⟨ds', M', mput F D (.lst acc), _, XF, ⟨⟨x2, R'.dj⟩, S'⟩, rfl, q', fun b' H3 b M3 e3 r3 rb q3 => ?_, fun _ _ _ _ _ _ _ _ z => z.elim⟩
      have rb' : b' = b := rb
      subst rb'
      have X3 := (X'.trans x1).trans e3
      dsimp only at q3 ⊢
      cases b' with
      | false =>
        rw [if_neg Bool.false_ne_true] at q3 ⊢
        exact ⟨M3, acc, r3, X3, q3⟩
      | true =>
        rw [if_pos rfl] at q3 ⊢
        refine ⟨ds', M3, mput F D (.lst acc), _, XF, ⟨r3, Sl.ext x2 S' e3⟩, rfl, q3, fun y H4 dy M4 e4 r4 dvy q4 => ?_, fun _ _ _ _ _ _ _ _ z => z.elim⟩
        obtain ⟨q4, q5⟩ := q4
        have hDu4 : uni M4 (mput F D (.lst acc)) D = some (.lst acc) := by rw [uni_frame, mput_same]
        obtain ⟨xs, hx1, hx2⟩ := r4.rel D _ hDu4
        refine ⟨xs, hx1, by rw [hx2.len]; exact q4, M4, acc ++ [dy], ⟨?_, fun a o ha => ?_⟩, ?_, q5⟩
        · have e5 : uni M4 (mput F D (.lst (acc ++ [dy]))) = mput (uni M4 (mput F D (.lst acc))) D (.lst (acc ++ [dy])) := by rw [uni_frame, uni_frame, mput_mput]
          rw [e5]
          have xx := set_ext (H := H4) (o := HO.lst (xs ++ [y])) (u := MO.lst (acc ++ [dy])) hDu4
          exact set_rel r4.rel hDu4 ⟨xs ++ [y], upd_same, DVs.app (DVs.ext r4.rel xx _ _ hx2) ⟨y, [], rfl, DV.ext r4.rel xx _ _ dvy, rfl⟩⟩
        · by_cases hz : a = D
          · subst hz
            exact r4.dj a _ mput_same
          · rw [mput_ne hz] at ha
            exact r4.dj a o (by rw [mput_ne hz]; exact ha)
        · have e5 : uni M4 (mput F D (.lst (acc ++ [dy]))) = mput (uni M4 (mput F D (.lst acc))) D (.lst (acc ++ [dy])) := by rw [uni_frame, uni_frame, mput_mput]
          rw [e5]
          exact (X3.trans e4).trans (set_ext hDu4)
    · have e : i = items.length := by omega
      subst e
      refine .inl ⟨(yl _ H' _ X' R'.rel).1 (Nat.le_refl _), ?_⟩
      rw [List.drop_length] at lc
      exact hk Qd acc M' F H1 M1 H' D (l1.ext e1) hF X' R' lc
theorem lc_frz {W : WX} {wi : WI} {g : GD} {tt : WT} {te : WE} {vs is : List Nat} {Q : VK} (hin : ∀ i ∈ is, i ∈ vs) (h : liftE K W (wLc wi g tt te vs) σ H Q) :
    tLc (liftI K W wi) (liftG K is g) (liftT K WF tt) (liftE K WF te) vs σ H Q :=
  lc_run (k := fun Qd acc M => Qd (.lst acc) M) hin (fun Qd acc M F H0 M0 H Dd l hF X' R' q => by
    have hDM : M Dd = none := R'.dj Dd _ mput_same
    have hDu : uni M (mput F Dd (.lst acc)) Dd = some (.lst acc) := by rw [uni_frame, mput_same]
    have dn : ∀ a, uni M (mput F Dd (.lst acc)) a = none → uni M F a = none := fun a ha => by
      rw [uni_frame] at ha
      by_cases hz : a = Dd
      · subst hz
        rw [mput_same] at ha
        cases ha
      · rw [mput_ne hz] at ha
        exact ha
    have up : ∀ a o, uni M F a = some o → uni M (mput F Dd (.lst acc)) a = some o := fun a o ha => by
      rw [uni_frame, mput_ne]
      · exact ha
      · intro z
        subst z
        rw [uni_get hF, hDM] at ha
        cases ha
    obtain ⟨xs, hx1, hx2⟩ := R'.rel Dd _ hDu
    refine l (.ref Dd) H (.lst acc) M (X'.down dn) ⟨R'.rel.down up, fun a o ha => ?_⟩ ⟨Dd, xs, rfl, hx1, by rw [uni_get hF]; exact hDM, DVs.down dn _ _ hx2⟩ q
    have hz : a ≠ Dd := fun z => by subst z; rw [hF] at ha; cases ha
    exact R'.dj a o (by rw [mput_ne hz]; exact ha)) h
theorem lc_own {W : WX} {wi : WI} {g : GD} {tt : WT} {te : WE} {vs is : List Nat} {Q : VK} (hin : ∀ i ∈ is, i ∈ vs) (h : liftE K W (wLcO wi g tt te vs) σ H Q) :
    tLc (liftI K W wi) (liftG K is g) (liftT K WF tt) (liftE K WF te) vs σ H Q :=
  lc_run (k := fun Qd acc M => ∀ a, M a = none → Qd (.ref a) (mput M a (.lst acc))) hin (fun Qd acc M F H0 M0 H Dd l hF X' R' q => by
    have hDM : M Dd = none := R'.dj Dd _ mput_same
    have e : uni (mput M Dd (.lst acc)) F = uni M (mput F Dd (.lst acc)) := by rw [uni_put hF, uni_frame]
    refine l (.ref Dd) H (.ref Dd) (mput M Dd (.lst acc)) (by rw [e]; exact X') ⟨by rw [e]; exact R'.rel, fun a o ha => ?_⟩ rfl (q Dd hDM)
    have hz : a ≠ Dd := fun z => by subst z; rw [hF] at ha; cases ha
    rw [mput_ne hz]
    exact R'.dj a o (by rw [mput_ne hz]; exact ha)) h
end
section
variable {X : Cx} {W : WX} {elt tg iter c : Expr} {ifs : List Expr} {scope : Scope} {own : List (Str × Nat)} {pos : Pos} {wi : WI} {g : GD} {tt : WT} {te : WE} {is : List Nat}
abbrev JTs (X : Cx) (W : WX) (ifs : List Expr) (t : WT) : Prop := PTs X ifs (liftT X.K W t)
theorem pts_mono {t t' : TT} (h : PTs X ifs t) (i : ∀ σ H Q, t' σ H Q → t σ H Q) : PTs X ifs t' := ⟨fun pins s σ H Q I hw => h.run pins s σ H Q I (i σ H Q hw)⟩
theorem jts_nil : JTs X W [] wYes := pts_mono pts_nil fun σ H Q h => finB (b := true) h
theorem jts_one {t : WT} (h : JT X W c t) : JTs X W [c] t := pts_one h
/-- a comprehension; the list that it makes is changed by nobody -/
theorem j_lc (hc : X.calm = true) (hN : X.N.Nodup) (hi : JI X W tg iter wi) (ok : BlkOk X.N X.env.scope scope own)
    (hg : ∀ (s : Shared) (H : Hp) (C : Addr) (cl : List (Str × Addr)) (fp : List Addr), JG (X.blk s H scope (compEnvC scope cl C X.env) fp) tg is g) (ht : ∀ (s : Shared) (H : Hp) (C : Addr) (cl : List (Str × Addr)) (fp : List Addr), JTs (X.blk s H scope (compEnvC scope cl C X.env) fp) WF ifs tt)
    (he : ∀ (s : Shared) (H : Hp) (C : Addr) (cl : List (Str × Addr)) (fp : List Addr), JE (X.blk s H scope (compEnvC scope cl C X.env) fp) WF elt te) (hin : ∀ i ∈ is, i ∈ own.map (·.2) := by decide) (hs : ∀ x, foldedSetIterable iter X.env x = pure x := by intro _; rfl) :
    JE X W (.ListComp elt [⟨tg, iter, ifs, 0⟩] scope pos) (wLc wi g tt te (own.map (·.2))) :=
  pe_mono (pe_lc hc hN hi ok hg ht he hs) fun σ H Q h => lc_frz hin h
theorem j_lcO (hc : X.calm = true) (hN : X.N.Nodup) (hi : JI X W tg iter wi) (ok : BlkOk X.N X.env.scope scope own)
    (hg : ∀ (s : Shared) (H : Hp) (C : Addr) (cl : List (Str × Addr)) (fp : List Addr), JG (X.blk s H scope (compEnvC scope cl C X.env) fp) tg is g) (ht : ∀ (s : Shared) (H : Hp) (C : Addr) (cl : List (Str × Addr)) (fp : List Addr), JTs (X.blk s H scope (compEnvC scope cl C X.env) fp) WF ifs tt)
    (he : ∀ (s : Shared) (H : Hp) (C : Addr) (cl : List (Str × Addr)) (fp : List Addr), JE (X.blk s H scope (compEnvC scope cl C X.env) fp) WF elt te) (hin : ∀ i ∈ is, i ∈ own.map (·.2) := by decide) (hs : ∀ x, foldedSetIterable iter X.env x = pure x := by intro _; rfl) :
    JE X W (.ListComp elt [⟨tg, iter, ifs, 0⟩] scope pos) (wLcO wi g tt te (own.map (·.2))) :=
  pe_mono (pe_lc hc hN hi ok hg ht he hs) fun σ H Q h => lc_own hin h
end
end DL
namespace DL
open PySem PySem.Spec PyProof.Rows L2 RZ

/-! ### statements -/
structure ED where
  nx : SD → Mem → Prop
  rt : KN
  bk : SD → Mem → Prop := fun _ _ => False
  ct : SD → Mem → Prop := fun _ _ => False
  ex : Exn → SD → Mem → Prop
abbrev WS := ED → SD → Mem → Prop
abbrev ED.xc (E : ED) (ds : SD) : KX := fun x M => E.ex x ds M
structure LkS (K : PySem.W.Frag) (F : Mem) (H : Hp) (M : Mem) (E : ED) (D : Ends) (W : WX) : Prop where
  nx : ∀ σ' H' ds' M', Ext H (uni M F) H' (uni M' F) → RelS K F σ' H' ds' M' → E.nx ds' M' → D.nx σ' H'
  rt : LkG K F (rE K) H M E.rt D.rt
  bk : ∀ σ' H' ds' M', Ext H (uni M F) H' (uni M' F) → RelS K F σ' H' ds' M' → E.bk ds' M' → D.bk σ' H'
  ct : ∀ σ' H' ds' M', Ext H (uni M F) H' (uni M' F) → RelS K F σ' H' ds' M' → E.ct ds' M' → D.ct σ' H'
  ex : ∀ cls dc σ' H' x ds' M', Ext H (uni M F) H' (uni M' F) → RelS K F σ' H' ds' M' → ExV K H' (uni M' F) cls dc x → E.ex x ds' M' → W cls dc σ' H'
def liftS (K : PySem.W.Frag) (W : WX) (es : List D) (vs : List V) (w : WS) : TS := fun D σ H =>
  ∃ ds M F E, RelS K F σ H ds M ∧ DVs K H (uni M F) es vs ∧ w E ds M ∧ LkS K F H M E D W
abbrev JS (X : Cx) (W : WX) (st : Stmt) (w : WS) : Prop := PS X st (liftS X.K W [] [] w)
abbrev JSs (X : Cx) (W : WX) (sts : List Stmt) (w : WS) : Prop := PSs X sts (liftS X.K W [] [] w)
section
variable {K : PySem.W.Frag} {W : WX} {H H' : Hp} {M M' F : Mem} {σ : L2.St} {ds : SD} {E : ED} {D' : Ends} {es : List D} {vs : List V}
theorem LkS.ext (l : LkS K F H M E D' W) (e : Ext H (uni M F) H' (uni M' F)) : LkS K F H' M' E D' W :=
  ⟨fun a b c d e2 => l.nx a b c d (e.trans e2), fun a b c d e2 => l.rt a b c d (e.trans e2), fun a b c d e2 => l.bk a b c d (e.trans e2), fun a b c d e2 => l.ct a b c d (e.trans e2), fun a b c d x y z e2 => l.ex a b c d x y z (e.trans e2)⟩
theorem bindSE {wa : WE} {f : D → WS} {R : V → Hp → Prop} (h : liftS K W es vs (fun E ds M => wa ds M (fun d M1 => f d E ds M1) (E.xc ds)) D' σ H)
    (k : ∀ v d H1, liftS K W (d :: es) (v :: vs) (f d) D' σ H1 → R v H1) : liftE K W wa σ H R := by
  obtain ⟨ds, M, F, E, hs, hv, hw, l⟩ := h
  exact ⟨ds, M, F, fun d M1 => f d E ds M1, E.xc ds, hs, rfl, hw, fun v H' d M' e r dv q => k v d H' ⟨ds, M', F, E, hs.ext e r, ⟨v, vs, rfl, dv, DVs.ext hs.1.rel e es vs hv⟩, q, l.ext e⟩,
    fun cls dc H' x M' e r dv q => l.ex cls dc σ H' x ds M' e (hs.ext e r) dv q⟩
theorem bindST {wa : WT} {f : Bool → WS} {R : Bool → Hp → Prop} (h : liftS K W es vs (fun E ds M => wa ds M (fun d M1 => f d E ds M1) (E.xc ds)) D' σ H)
    (k : ∀ b H1, liftS K W es vs (f b) D' σ H1 → R b H1) : liftT K W wa σ H R := by
  obtain ⟨ds, M, F, E, hs, hv, hw, l⟩ := h
  exact ⟨ds, M, F, fun d M1 => f d E ds M1, E.xc ds, hs, rfl, hw, fun v H' d M' e r dv q => k v H' ⟨ds, M', F, E, hs.ext e r, DVs.ext hs.1.rel e es vs hv, by rw [show v = d from dv]; exact q, l.ext e⟩,
    fun cls dc H' x M' e r dv q => l.ex cls dc σ H' x ds M' e (hs.ext e r) dv q⟩
end
def wNx : WS := fun E ds M => E.nx ds M
def wSeq (t u : WS) : WS := fun E ds M => t { E with nx := fun ds' M' => u E ds' M' } ds M
def wIf (t : WT) (a b : WS) : WS := fun E ds M => t ds M (fun c M1 => if c = true then a E ds M1 else b E ds M1) (E.xc ds)
def wRet (we : WE) : WS := fun E ds M => we ds M E.rt (E.xc ds)
def wRetN : WS := fun E _ M => E.rt .non M
def wDrop (we : WE) : WS := fun E ds M => we ds M (fun _ M1 => E.nx ds M1) (E.xc ds)
def wAsg (we : WE) (g : GD) : WS := fun E ds M => we ds M (fun d M1 => g d ds fun ds2 => E.nx ds2 M1) (E.xc ds)
def wNever : WS := fun _ _ _ => False
def wBrk : WS := fun E ds M => E.bk ds M
def wCnt : WS := fun E ds M => E.ct ds M
section
variable {X : Cx} {W : WX} {st : Stmt} {rest : List Stmt} {w u : WS} {e : Expr} {we : WE} {pos : Pos} {t : WT} {a b : List Stmt} {c : Expr}
theorem js_nil : JSs X W [] wNx := pss_mono pss_nil fun D σ H h => by
  obtain ⟨ds, M, F, E, hs, _, hw, l⟩ := h
  exact l.nx _ _ ds M Ext.rfl' hs hw
theorem js_pass : JS X W (.Pass pos) wNx := ps_mono ps_pass fun D σ H h => by
  obtain ⟨ds, M, F, E, hs, _, hw, l⟩ := h
  exact l.nx _ _ ds M Ext.rfl' hs hw
theorem js_brk : JS X W (.Break pos) wBrk := ps_mono ps_break fun D σ H h => by
  obtain ⟨ds, M, F, E, hs, _, hw, l⟩ := h
  exact l.bk _ _ ds M Ext.rfl' hs hw
theorem js_cnt : JS X W (.Continue pos) wCnt := ps_mono ps_continue fun D σ H h => by
  obtain ⟨ds, M, F, E, hs, _, hw, l⟩ := h
  exact l.ct _ _ ds M Ext.rfl' hs hw
theorem js_cons (h1 : JS X W st w) (h2 : JSs X W rest u) : JSs X W (st :: rest) (wSeq w u) := pss_mono (pss_cons h1 h2) fun D σ H h => by
  obtain ⟨ds, M, F, E, hs, _, hw, l⟩ := h
  exact ⟨ds, M, F, _, hs, rfl, hw, ⟨fun σ' H' ds' M' e r q => ⟨ds', M', F, E, r, rfl, q, l.ext e⟩, l.rt, l.bk, l.ct, l.ex⟩⟩
theorem js_one (h1 : JS X W st w) : JSs X W [st] w := pss_one h1
theorem js_if (hc : JT X W c t) (ha : JSs X W a w) (hb : JSs X W b u) : JS X W (.If c a b pos) (wIf t w u) := ps_mono (ps_if hc ha hb) fun D σ H h =>
  bindST (wa := t) (f := fun c E ds M => if c = true then w E ds M else u E ds M) h fun k H1 h => by
    obtain ⟨ds, M, F, E, hs, hv, hw, l⟩ := h
    cases k with
    | true =>
      rw [if_pos rfl]
      exact ⟨ds, M, F, E, hs, hv, DL.ite_tt hw, l⟩
    | false =>
      rw [if_neg Bool.false_ne_true]
      exact ⟨ds, M, F, E, hs, hv, DL.ite_ff hw, l⟩
theorem js_ret (he : JE X W e we) : JS X W (.Return (some e) pos) (wRet we) := ps_mono (ps_ret he) fun D σ H h =>
  bindSE (wa := we) (f := fun d E _ M => E.rt d M) h fun v d H1 h => by
    obtain ⟨ds, M, F, E, hs, hv, hw, l⟩ := h
    obtain ⟨_, _, e1, h1, _⟩ := hv
    cases e1
    exact l.rt v H1 d M Ext.rfl' hs.1 h1 hw
theorem js_retN : JS X W (.Return none pos) wRetN := ps_mono ps_retN fun D σ H h => by
  obtain ⟨ds, M, F, E, hs, hv, hw, l⟩ := h
  exact l.rt .non H .non M Ext.rfl' hs.1 rfl hw
theorem js_expr (he : JE X W e we) (hs : swapsWith e none pos.line X.env = pure false := by rfl) : JS X W (.Expr e pos) (wDrop we) := ps_mono (ps_expr he hs) fun D σ H h =>
  bindSE (wa := we) (f := fun _ E ds M => E.nx ds M) h fun v d H1 h => by
    obtain ⟨ds, M, F, E, hs, hv, hw, l⟩ := h
    exact l.nx _ _ ds M Ext.rfl' hs hw
theorem js_never : JS X W st wNever := ps_mono ps_never fun D σ H h => by
  obtain ⟨ds, M, F, E, hs, hv, hw, l⟩ := h
  exact hw
theorem jss_never {sts : List Stmt} : JSs X W sts wNever := pss_mono pss_never fun D σ H h => by
  obtain ⟨ds, M, F, E, hs, hv, hw, l⟩ := h
  exact hw
theorem asg_run {is : List Nat} {g : GD} {D' : Ends} {σ : L2.St} {H : Hp} (h : liftS X.K W [] [] (wAsg we g) D' σ H) : tAsg (liftE X.K W we) (liftG X.K is g) D' σ H :=
  bindSE (wa := we) (f := fun d E ds M => g d ds fun ds2 => E.nx ds2 M) h fun v d H1 h => by
    obtain ⟨ds, M, F, E, hs, hv, hw, l⟩ := h
    obtain ⟨_, _, e1, h1, _⟩ := hv
    cases e1
    exact ⟨d, ds, uni M F, _, hs.1.rel, hs.2, h1, hw, fun σ' ds' S _ q => l.nx σ' H1 ds' M Ext.rfl' ⟨hs.1, S⟩ q⟩
/-- target = e -/
theorem js_asg {tg : Expr} {is : List Nat} {g : GD} (he : JE X W e we) (hg : JG X tg is g) (hs : swapsWithSole [tg] e pos.line X.env = pure false := by rfl) (hw : swappedStores [tg] e X.env = pure none := by rfl)
    (h1 : (assignEach [tg] X.env).map (·.2) = [assign tg X.env] := by rfl) : JS X W (.Assign [tg] e pos) (wAsg we g) := ps_mono (ps_asg he hg hs hw h1) fun D σ H h => asg_run h
/-- name = e -/
theorem js_set {i : Nat} {x : Str} {pos' : Pos} (hN : X.N.Nodup) (he : JE X W e we) (hi : X.N[i]? = some x := by rfl) (hx : Loc X.env.scope x := by first | exact Or.inl rfl | exact Or.inr rfl) (hs : swapsWith e (some (.Name x pos')) pos.line X.env = pure false := by rfl) (hf : X.fn x = true ∨ X.env.scope.names.lookup x = some .local := by first | exact .inl rfl | exact .inr rfl | assumption) :
    JS X W (.Assign [.Name x pos'] e pos) (wAsg we (gN i)) := ps_mono (ps_set hN hi hx he hs hf) fun D σ H h =>
  bindSE (wa := we) (f := fun d E ds M => E.nx (ds.set i (some d)) M) h fun v d H1 h => by
    obtain ⟨ds, M, F, E, hs, hv, hw, l⟩ := h
    obtain ⟨_, _, e1, h1, _⟩ := hv
    cases e1
    exact l.nx _ H1 _ M Ext.rfl' ⟨hs.1, Sl.set hs.2 h1⟩ hw
variable {elt tg iter : Expr} {ifs : List Expr} {scope : Scope} {own : List (Str × Nat)} {wi : WI} {g : GD} {tt : WT} {te : WE} {is : List Nat} {spos py : Pos}
/-- name = [.. for ..] on one line, the name a local -/
theorem js_setLc {i : Nat} {y : Str} (hc : X.calm = true) (hN : X.N.Nodup) (hi : JI X W tg iter wi) (ok : BlkOk X.N X.env.scope scope own)
    (hg : ∀ (s : Shared) (H : Hp) (C : Addr) (cl : List (Str × Addr)) (fp : List Addr), JG (X.blk s H scope (compEnvC scope cl C X.env) fp) tg is g) (ht : ∀ (s : Shared) (H : Hp) (C : Addr) (cl : List (Str × Addr)) (fp : List Addr), JTs (X.blk s H scope (compEnvC scope cl C X.env) fp) WF ifs tt)
    (he : ∀ (s : Shared) (H : Hp) (C : Addr) (cl : List (Str × Addr)) (fp : List Addr), JE (X.blk s H scope (compEnvC scope cl C X.env) fp) WF elt te) (hy : X.N[i]? = some y := by rfl) (hyl : X.env.scope.names.lookup y = some .local := by rfl)
    (hsw : swapsWith (.ListComp elt [⟨tg, iter, ifs, 0⟩] scope pos) (some (.Name y py)) spos.line X.env = pure true := by exact sw_true rfl rfl rfl (by decide +kernel)) (hin : ∀ i ∈ is, i ∈ own.map (·.2) := by decide) (hs : ∀ x, foldedSetIterable iter X.env x = pure x := by intro _; rfl) :
    JS X W (.Assign [.Name y py] (.ListComp elt [⟨tg, iter, ifs, 0⟩] scope pos) spos) (wAsg (wLc wi g tt te (own.map (·.2))) (gN i)) :=
  ps_mono (ps_setLc hc hN hy hyl hsw hi ok hg ht he hs) fun D σ H h => lc_frz hin <|
    bindSE (wa := wLc wi g tt te (own.map (·.2))) (f := fun d E ds M => E.nx (ds.set i (some d)) M) h fun v d H1 h => by
      obtain ⟨ds, M, F, E, hs, hv, hw, l⟩ := h
      obtain ⟨_, _, e1, h1, _⟩ := hv
      cases e1
      exact l.nx _ H1 _ M Ext.rfl' ⟨hs.1, Sl.set hs.2 h1⟩ hw
theorem js_setLcO {i : Nat} {y : Str} (hc : X.calm = true) (hN : X.N.Nodup) (hi : JI X W tg iter wi) (ok : BlkOk X.N X.env.scope scope own)
    (hg : ∀ (s : Shared) (H : Hp) (C : Addr) (cl : List (Str × Addr)) (fp : List Addr), JG (X.blk s H scope (compEnvC scope cl C X.env) fp) tg is g) (ht : ∀ (s : Shared) (H : Hp) (C : Addr) (cl : List (Str × Addr)) (fp : List Addr), JTs (X.blk s H scope (compEnvC scope cl C X.env) fp) WF ifs tt)
    (he : ∀ (s : Shared) (H : Hp) (C : Addr) (cl : List (Str × Addr)) (fp : List Addr), JE (X.blk s H scope (compEnvC scope cl C X.env) fp) WF elt te) (hy : X.N[i]? = some y := by rfl) (hyl : X.env.scope.names.lookup y = some .local := by rfl)
    (hsw : swapsWith (.ListComp elt [⟨tg, iter, ifs, 0⟩] scope pos) (some (.Name y py)) spos.line X.env = pure true := by exact sw_true rfl rfl rfl (by decide +kernel)) (hin : ∀ i ∈ is, i ∈ own.map (·.2) := by decide) (hs : ∀ x, foldedSetIterable iter X.env x = pure x := by intro _; rfl) :
    JS X W (.Assign [.Name y py] (.ListComp elt [⟨tg, iter, ifs, 0⟩] scope pos) spos) (wAsg (wLcO wi g tt te (own.map (·.2))) (gN i)) :=
  ps_mono (ps_setLc hc hN hy hyl hsw hi ok hg ht he hs) fun D σ H h => lc_own hin <|
    bindSE (wa := wLcO wi g tt te (own.map (·.2))) (f := fun d E ds M => E.nx (ds.set i (some d)) M) h fun v d H1 h => by
      obtain ⟨ds, M, F, E, hs, hv, hw, l⟩ := h
      obtain ⟨_, _, e1, h1, _⟩ := hv
      cases e1
      exact l.nx _ H1 _ M Ext.rfl' ⟨hs.1, Sl.set hs.2 h1⟩ hw
end

/-! ### for -/
/-- the loop over the items -/
def forR (g : GD) (wb : WS) (E : ED) : List D → SD → Mem → Prop
  | [], ds, M => E.nx ds M
  | d :: items, ds, M => g d ds fun ds2 => wb { E with nx := fun ds3 M3 => forR g wb E items ds3 M3, ct := fun ds3 M3 => forR g wb E items ds3 M3, bk := E.nx } ds2 M
def wFor (wi : WI) (g : GD) (wb : WS) : WS := fun E ds M => wi ds M (fun items M1 => forR g wb E items ds M1) (E.xc ds)
section
variable {X : Cx} {W : WX} {tg iter : Expr} {body : List Stmt} {pos : Pos} {wi : WI} {g : GD} {wb : WS} {is : List Nat}
theorem js_for (hp : PassesOwn (model X.prog X.w) X.A X.env X.xe) (hc : X.calm = true) (hi : JI X W tg iter wi) (hg : JG X tg is g) (hb : JSs X W body wb)
    (hs : ∀ x, foldedSetIterable iter X.env x = pure x := by intro _; rfl) : JS X W (.For tg iter body [] pos) (wFor wi g wb) := ps_mono (ps_for hp hc hi hg hb hs) fun D' σ H h => by
  obtain ⟨ds, M, F, E, hs, _, hw, l⟩ := h
  refine ⟨ds, M, F, fun items M1 => forR g wb E items ds M1, E.xc ds, hs, hw, fun J H1 items M1 e1 r1 yl q => ?_, fun cls dc H' x M' e r dv q => l.ex cls dc σ H' x ds M' e (hs.ext e r) dv q⟩
  refine ⟨fun i m σ' H' => m = items.length - i ∧ i ≤ items.length ∧ ∃ ds' M', RelS X.K F σ' H' ds' M' ∧ Ext H1 (uni M1 F) H' (uni M' F) ∧ forR g wb E (items.drop i) ds' M',
    ⟨items.length, rfl, Nat.zero_le _, ds, M1, hs.ext e1 r1, Ext.rfl', q⟩, ?_⟩
  rintro i m σ' H' ⟨rfl, hi, ds', M', R', X', q'⟩
  by_cases hlt : i < items.length
  · obtain ⟨go, hy⟩ := (yl i H' _ X' R'.1.rel).2 _ (List.getElem?_eq_getElem hlt)
    refine .inr ⟨go, fun σ2 H2 => ∃ ds' M', RelS X.K F σ2 H2 ds' M' ∧ Ext H1 (uni M1 F) H2 (uni M' F) ∧ forR g wb E (items.drop (i + 1)) ds' M', fun σ2 H2 hn => ⟨items.length - (i + 1), by omega, rfl, hlt, hn⟩, fun x H2 hyl => ?_⟩
    obtain ⟨x1, x2, x3⟩ := hy x H2 hyl
    rw [List.drop_eq_getElem_cons hlt] at q'
    refine ⟨items[i], ds', uni M' F, _, x2, Sl.ext R'.1.rel R'.2 x1, x3, q', fun σ3 ds3 S3 _ q3 => ?_⟩
    have X2 := X'.trans x1
    refine ⟨ds3, M', F, _, ⟨⟨x2, R'.1.dj⟩, S3⟩, rfl, q3, ⟨fun σ4 H4 ds4 M4 e4 r4 q4 => ⟨ds4, M4, r4, X2.trans e4, q4⟩, fun v H4 d M4 e4 => l.rt v H4 d M4 ((e1.trans X2).trans e4),
      fun σ4 H4 ds4 M4 e4 r4 q4 => l.nx σ4 H4 ds4 M4 ((e1.trans X2).trans e4) r4 q4, fun σ4 H4 ds4 M4 e4 r4 q4 => ⟨ds4, M4, r4, X2.trans e4, q4⟩, fun cls dc σ4 H4 x ds4 M4 e4 => l.ex cls dc σ4 H4 x ds4 M4 ((e1.trans X2).trans e4)⟩⟩
  · have e : i = items.length := by omega
    subst e
    rw [List.drop_length] at q'
    exact .inl ⟨(yl _ H' _ X' R'.1.rel).1 (Nat.le_refl _), l.nx σ' H' ds' M' (e1.trans X') R' q'⟩
end

/-! ### while -/
def wWhile (t : WT) (wb : WS) : WS := fun E ds M => ∃ I : Nat → SD → Mem → Prop, (∃ m, I m ds M) ∧ ∀ m ds M, I m ds M →
  t ds M (fun b M1 => if b = true then wb { E with nx := fun ds' M' => ∃ m', m' < m ∧ I m' ds' M', ct := fun ds' M' => ∃ m', m' < m ∧ I m' ds' M', bk := E.nx } ds M1 else E.nx ds M1) (E.xc ds)
section
variable {X : Cx} {W : WX} {c : Expr} {body : List Stmt} {pos : Pos} {t : WT} {wb : WS}
theorem js_while (hp : PassesOwn (model X.prog X.w) X.A X.env X.xe) (hc : JT X W c t) (hb : JSs X W body wb) : JS X W (.While c body [] pos) (wWhile t wb) := ps_mono (ps_while hp hc hb) fun D' σ H h => by
  obtain ⟨ds, M, F, E, hs, _, ⟨I, ⟨m0, h0⟩, turn⟩, l⟩ := h
  refine ⟨fun m σ' H' => ∃ ds' M', RelS X.K F σ' H' ds' M' ∧ Ext H (uni M F) H' (uni M' F) ∧ I m ds' M', ⟨m0, ds, M, hs, Ext.rfl', h0⟩, ?_⟩
  rintro m σ' H' ⟨ds', M', R', X', q'⟩
  refine ⟨ds', M', F, _, E.xc ds', R', rfl, turn m ds' M' q', fun b' H2 b M2 e2 r2 rb q2 => ?_, fun cls dc H2 x M2 e2 r2 dv q => l.ex cls dc σ' H2 x ds' M2 (X'.trans e2) (R'.ext e2 r2) dv q⟩
  have rb' : b' = b := rb
  subst rb'
  dsimp only at q2 ⊢
  have X2 := X'.trans e2
  cases b' with
  | false =>
    rw [if_neg Bool.false_ne_true] at q2 ⊢
    exact l.nx σ' H2 ds' M2 X2 (R'.ext e2 r2) q2
  | true =>
    rw [if_pos rfl] at q2 ⊢
    refine ⟨fun σ3 H3 => ∃ m', m' < m ∧ ∃ ds3 M3, RelS X.K F σ3 H3 ds3 M3 ∧ Ext H (uni M F) H3 (uni M3 F) ∧ I m' ds3 M3, fun σ3 H3 ⟨m', h1, h2⟩ => ⟨m', h1, h2⟩, ?_⟩
    exact ⟨ds', M2, F, _, R'.ext e2 r2, rfl, q2, ⟨fun σ4 H4 ds4 M4 e4 r4 ⟨m', h1, h2⟩ => ⟨m', h1, ds4, M4, r4, X2.trans e4, h2⟩, fun v H4 d M4 e4 => l.rt v H4 d M4 (X2.trans e4),
      fun σ4 H4 ds4 M4 e4 r4 q4 => l.nx σ4 H4 ds4 M4 (X2.trans e4) r4 q4, fun σ4 H4 ds4 M4 e4 r4 ⟨m', h1, h2⟩ => ⟨m', h1, ds4, M4, r4, X2.trans e4, h2⟩, fun cls dc σ4 H4 x ds4 M4 e4 => l.ex cls dc σ4 H4 x ds4 M4 (X2.trans e4)⟩⟩
end
end DL
namespace DL
open PySem PySem.Spec PyProof.Rows L2 RZ

/-! ### freezing at a def's end -/
structure Fz (d : D) (M : Mem) (d' : D) (M' : Mem) : Prop where
  sub : ∀ a o, M' a = some o → M a = some o
  dv : ∀ (K : PySem.W.Frag) (H : Hp) (F : Mem) (v : V), Rm K H M F → DV K H (uni M F) d v → DV K H (uni M' F) d' v
structure FzS (ds : List D) (M : Mem) (ds' : List D) (M' : Mem) : Prop where
  sub : ∀ a o, M' a = some o → M a = some o
  dv : ∀ (K : PySem.W.Frag) (H : Hp) (F : Mem) (vs : List V), Rm K H M F → DVs K H (uni M F) ds vs → DVs K H (uni M' F) ds' vs
section
variable {M M' : Mem}
theorem sub_none (h : ∀ a o, M' a = some o → M a = some o) {F : Mem} : ∀ a, uni M F a = none → uni M' F a = none := fun a e => by
  obtain ⟨h1, h2⟩ := uni_none e
  rw [uni_get h1]
  cases q : M' a with
  | none => rfl
  | some o => rw [h a o q] at h2; cases h2
theorem sub_some (h : ∀ a o, M' a = some o → M a = some o) {F : Mem} : ∀ a o, uni M' F a = some o → uni M F a = some o := fun a o e => by
  cases q : F a with
  | some u =>
    have e1 : uni M' F a = some u := by unfold uni; rw [q]
    have e2 : uni M F a = some u := by unfold uni; rw [q]
    rw [e1] at e
    rw [e2]
    exact e
  | none =>
    rw [uni_get q] at e ⊢
    exact h a o e
theorem Fz.dn {d : D} (h : ∀ a o, M' a = some o → M a = some o) : Fz d M d M' := ⟨h, fun K H F v R g => DV.down (sub_none h) d v g⟩
theorem Fz.rfl' {d : D} : Fz d M d M := Fz.dn fun _ _ h => h
theorem FzS.dn {ds : List D} (h : ∀ a o, M' a = some o → M a = some o) : FzS ds M ds M' := ⟨h, fun K H F v R g => DVs.down (sub_none h) ds v g⟩
theorem FzS.nil (h : ∀ a o, M' a = some o → M a = some o) : FzS [] M [] M' := FzS.dn h
theorem FzS.cons {d d' : D} {ds ds' : List D} (h1 : Fz d M d' M') (h2 : FzS ds M ds' M') : FzS (d :: ds) M (d' :: ds') M' := ⟨h1.sub, fun K H F v R g => by
  obtain ⟨y, ys, e, g1, g2⟩ := g
  exact ⟨y, ys, e, h1.dv K H F y R g1, h2.dv K H F ys R g2⟩⟩
theorem Fz.tup {ds ds' : List D} (h : FzS ds M ds' M') : Fz (.tup ds) M (.tup ds') M' := ⟨h.sub, fun K H F v R g => by
  obtain ⟨a, xs, e, g1, g2⟩ := g
  exact ⟨a, xs, e, g1, h.dv K H F xs R g2⟩⟩
theorem Fz.lst' {ds ds' : List D} (h : FzS ds M ds' M') : Fz (.lst ds) M (.lst ds') M' := ⟨h.sub, fun K H F v R g => by
  obtain ⟨a, xs, e, g1, g2, g3⟩ := g
  exact ⟨a, xs, e, g1, sub_none h.sub a g2, h.dv K H F xs R g3⟩⟩
/-- an owned list -/
theorem Fz.lst {a : Addr} {ds ds' : List D} (e : M a = some (.lst ds)) (n : M' a = none) (h : FzS ds M ds' M') : Fz (.ref a) M (.lst ds') M' := ⟨h.sub, fun K H F v R g => by
  obtain ⟨xs, h1, h2⟩ := R.get e
  exact ⟨a, xs, g, h1, by rw [uni_get (R.fr e)]; exact n, h.dv K H F xs R h2⟩⟩
/-- an owned instance -/
theorem Fz.ins {a C : Addr} {ns : List Str} {ds ds' : List D} (e : M a = some (.ins C ns ds)) (n : M' a = none) (h : FzS ds M ds' M') : Fz (.ref a) M (.ins C ns ds') M' := ⟨h.sub, fun K H F v R g => by
  obtain ⟨dx, fs, h1, h2, h3⟩ := R.get e
  exact ⟨a, dx, fs, g, h1, by rw [uni_get (R.fr e)]; exact n, h2, h.dv K H F _ R h3⟩⟩
theorem Rm.sub {K : PySem.W.Frag} {H : Hp} {F : Mem} (R : Rm K H M F) (h : ∀ a o, M' a = some o → M a = some o) : Rm K H M' F := ⟨R.rel.down (sub_some h), fun a o e => by
  cases q : M' a with
  | none => rfl
  | some u => have z := R.dj a o e; rw [h a u q] at z; cases z⟩
end
def Fin (Q : KN) : KN := fun d M => ∃ d' M', Fz d M d' M' ∧ Q d' M'
theorem fin_of {Q : KN} {d : D} {M : Mem} (h : Q d M) : Fin Q d M := ⟨d, M, Fz.rfl', h⟩

/-! ### defs -/
abbrev SpD := List D → Mem → KN → KX → Prop
def liftSp (K : PySem.W.Frag) (sp : SpD) : Sp := fun vs H Q E => ∃ ds M F Qd Xd, Rm K H M F ∧ DVs K H (uni M F) ds vs ∧ sp ds M Qd Xd ∧ LkG K F (rE K) H M Qd Q ∧
  ∀ cls dc H' x M', Ext H (uni M F) H' (uni M' F) → Rm K H' M' F → ExV K H' (uni M' F) cls dc x → Xd x M' → E cls dc H'
/-- the def at f keeps sp -/
structure FnJ (P : Program) (w : World) (K : PySem.W.Frag) (mg : Str → Option Value) (base : Heap) (k : Nat) (f : Addr) (sp : SpD) : Prop where
  ex : ∃ fd ps, FnOk P w K mg base (L2.CX P w) k f fd ps (liftSp K sp) ∧ Binds K fd ps []
  kp : PySem.W.keepIn K (.ref f) = true
theorem FnJ.mono {P : Program} {w : World} {K : PySem.W.Frag} {mg : Str → Option Value} {base : Heap} {j k : Nat} {f : Addr} {sp : SpD} (F : FnJ P w K mg base j f sp) (h : j ≤ k) : FnJ P w K mg base k f sp := by
  obtain ⟨fd, ps, h1, h2⟩ := F.ex
  exact ⟨⟨fd, ps, h1.mono h, h2⟩, F.kp⟩
theorem FnJ.imp {P : Program} {w : World} {K : PySem.W.Frag} {mg : Str → Option Value} {base : Heap} {k : Nat} {f : Addr} {sp sp' : SpD} (F : FnJ P w K mg base k f sp) (h : ∀ ds M Q Xc, sp' ds M Q Xc → sp ds M Q Xc) : FnJ P w K mg base k f sp' := by
  obtain ⟨fd, ps, h1, h2⟩ := F.ex
  refine ⟨⟨fd, ps, h1.imp fun vs H Q E q => ?_, h2⟩, F.kp⟩
  obtain ⟨ds, M, F, Qd, Xd, q1, q2, q3, q4, q5⟩ := q
  exact ⟨ds, M, F, Qd, Xd, q1, q2, h _ _ _ _ q3, q4, q5⟩
def wCall (sp : SpD) (wa : WA) : WE := fun ds M Q Xc => wa ds M (fun xs M1 => sp xs M1 Q Xc) Xc
def startD (N : List Str) (ds : List D) : SD := ds.map some ++ List.replicate (N.length - ds.length) none
/-- what a def's body wishes of an exception -/
abbrev WD (E : XK) : WX := fun c d _ H => E c d H
section
variable {X : Cx} {W : WX} {x : Str} {p pos : Pos} {e : Expr} {es : List Expr} {wa : WA} {k j : Nat} {f : Addr} {sp : SpD}
theorem finSp {vs : List V} {xs : List D} {σ : L2.St} {H : Hp} {Q : VK} {K : PySem.W.Frag} (h : lift K W (rE K) xs vs (fun _ M Q Xc => sp xs M Q Xc) σ H Q) : liftSp K sp vs H Q (L2.WE W σ) := by
  obtain ⟨_, M, F, Qd, Xd, hs, hv, hw, l1, l2⟩ := h
  exact ⟨xs, M, F, Qd, Xd, hs.1, hv, hw, l1, l2⟩
theorem j_call (F : FnJ X.prog X.w X.K X.mg X.base k f sp) (hr : Room j X.A) (hkj : k ≤ j) (hm : X.mg x = some (.ref f)) (tk : Takes X W) (ha : JA X W (e :: es) wa) (hg : Gl X x := by rfl)
    (hdb : (x == ("__debug__" : Str)) = false := by decide) (he : starEach (e :: es) X.env = (false, eval e X.env) :: starEach es X.env := by rfl) (hpl : (backTo pos (starEach es X.env)).any (·.1) = false := by rfl) :
    JE X W (.Call (.Name x p) (e :: es) [] pos) (wCall sp wa) := by
  obtain ⟨fd, ps, h1, h2⟩ := F.ex
  exact pe_mono (pe_callS h1 (hr.mono hkj) hg hm F.kp h2 (fun σ => passAt tk σ) ha hdb he hpl) fun σ H Q h => bindA (wa := wa) (f := fun xs _ M Q Xc => sp xs M Q Xc) h fun vs xs H1 h => finSp (by rw [List.append_nil, List.append_nil] at h; exact h)
end
theorem Sl.start {K : PySem.W.Frag} {H : Hp} {N : Mem} {Ns : List Str} {ds : List D} {vs : List V} (h : DVs K H N ds vs) : Sl K H N (L2.start Ns vs) (startD Ns ds) := by
  refine ⟨?_, fun i d e => ?_⟩
  · unfold startD L2.start
    rw [List.length_append, List.length_append, List.length_map, List.length_map, List.length_replicate, List.length_replicate, h.len]
  · unfold startD at e
    unfold L2.start
    by_cases hi : i < ds.length
    · rw [List.getElem?_append_left (by rw [List.length_map]; exact hi), List.getElem?_map] at e
      cases q : ds[i]? with
      | none => rw [q] at e; cases e
      | some d' =>
        rw [q] at e
        cases e
        obtain ⟨x, h1, h2⟩ := h.get q
        exact ⟨x, by rw [List.getElem?_append_left (by rw [List.length_map, h.len]; exact hi), List.getElem?_map, h1]; rfl, h2⟩
    · rw [List.getElem?_append_right (by rw [List.length_map]; omega), List.getElem?_replicate] at e
      split at e <;> cases e
/-- THE RULE for a def -/
theorem FnJ.mk' {P : Program} {w : World} {K : PySem.W.Frag} {mg : Str → Option Value} {base : Heap} {k : Nat} {x qual : Str} {st : Stmt} {f : Addr} {fd : FuncData} {N ps : List Str} {sp : SpD} {wb : WS}
    (F : Fun K x qual st f fd) (S : FnScope N ps (defScope st)) (b : Binds K fd ps [])
    (body : ∀ (cdv : Value) (A : Around) (outer : List Env) (s : Shared) (H : Hp) (E : XK), Room k (A.deeper (envOfC qual (defScope st) s.heap.objs.size f cdv)) →
      Takes (cxOf (L2.CX P w) P w K mg base N qual (defScope st) f cdv A outer s H E) (WD E) →
      JSs (cxOf (L2.CX P w) P w K mg base N qual (defScope st) f cdv A outer s H E) (WD E) (defBody st) wb)
    (h : ∀ ds M Q Xc, sp ds M Q Xc → ds.length = ps.length ∧ wb { nx := fun _ M => Fin Q .non M, rt := Fin Q, ex := fun x _ M => Xc x M } (startD N ds) M) : FnJ P w K mg base (k + 1) f sp := by
  refine ⟨⟨fd, ps, F.okX S (fun vs H Q E hh => ?_) (fun cdv A outer s H vs Q E hr hh => ?_), b⟩, F.kp⟩
  · obtain ⟨ds, M, Fr, Qd, Xd, q1, q2, q3, _⟩ := hh
    rw [q2.len]
    exact (h _ _ _ _ q3).1
  · obtain ⟨ds, M, Fr, Qd, Xd, q1, q2, q3, l1, l2⟩ := hh
    refine ⟨_, body cdv A outer s H E hr (takes_of rfl rfl rfl rfl), ?_⟩
    have fin : ∀ (v : V) (H' : Hp) (d : D) (M' : Mem), Ext H (uni M Fr) H' (uni M' Fr) → Rm K H' M' Fr → DV K H' (uni M' Fr) d v → Fin Qd d M' → Q v H' := fun v H' d M' e r dv ⟨d2, M2, fz, q⟩ =>
      l1 v H' d2 M2 (e.down (sub_none fz.sub)) (r.sub fz.sub) (fz.dv K H' Fr v r dv) q
    exact ⟨startD N ds, M, Fr, _, ⟨q1, Sl.start q2⟩, rfl, (h _ _ _ _ q3).2, ⟨fun σ' H' ds' M' e r q => fin .non H' .non M' e r.1 rfl q, fin, fun _ _ _ _ _ _ z => z.elim, fun _ _ _ _ _ _ z => z.elim, fun cls dc σ' H' x ds' M' e r dv q => l2 cls dc H' x M' e r.1 dv q⟩⟩

/-! ### methods of lists and texts -/
def liftM (K : PySem.W.Frag) (r : D → List D → Mem → KN → Prop) : V → List V → Hp → VK → Prop := fun x xs H Q => ∃ d ds M F Qd, Rm K H M F ∧ DV K H (uni M F) d x ∧ DVs K H (uni M F) ds xs ∧ r d ds M Qd ∧ LkG K F (rE K) H M Qd Q
def tyD (T : String) (M : Mem) : D → Prop
  | .str _ => T = "str"
  | .lst _ => T = "list"
  | .ref a => T = "list" ∧ optK (moSeq (M a)) fun _ => True
  | _ => False
def wBM (T : String) (r : D → List D → Mem → KN → Prop) (we : WE) (wa : WA) : WE := fun ds M Q Xc => we ds M (fun d M1 => tyD T M1 d ∧ wa ds M1 (fun xs M2 => r d xs M2 Q) Xc) Xc
def ownL (M : Mem) (d : D) (k : Addr → List D → Prop) : Prop := match d with
  | .ref a => optK (moSeq (M a)) fun xs => k a xs
  | _ => False
def rAppD (d : D) (ds : List D) (M : Mem) (Q : KN) : Prop := match ds with
  | [y] => ownL M d fun a xs => xs.length < sizeLine ∧ Q .non (mput M a (.lst (xs ++ [y])))
  | _ => False
def rPopD (d : D) (ds : List D) (M : Mem) (Q : KN) : Prop := match ds with
  | [] => ownL M d fun a xs => optK xs[xs.length - 1]? fun y => Q y (mput M a (.lst xs.dropLast))
  | [.int i] => ownL M d fun a xs => optK (ixN xs.length i) fun k => optK xs[k]? fun y => (xs.length ≤ sizeLine ∧ Q y (mput M a (.lst (xs.eraseIdx k))))
  | _ => False
def rExtD (d : D) (ds : List D) (M : Mem) (Q : KN) : Prop := match ds with
  | [.lst ys] => ownL M d fun a xs => xs.length + ys.length ≤ sizeLine ∧ Q .non (mput M a (.lst (xs ++ ys)))
  | _ => False
def rInsD (d : D) (ds : List D) (M : Mem) (Q : KN) : Prop := match ds with
  | [.int i, y] => ownL M d fun a xs => xs.length < sizeLine ∧ 0 ≤ i ∧ i < 2 ^ 63 ∧ Q .non (mput M a (.lst (xs.take i.toNat ++ [y] ++ xs.drop i.toNat)))
  | _ => False
def rClrD (d : D) (ds : List D) (M : Mem) (Q : KN) : Prop := match ds with
  | [] => ownL M d fun a _ => Q .non (mput M a (.lst []))
  | _ => False
theorem DVs.dropLast {K : PySem.W.Frag} {H : Hp} {M : Mem} {ds : List D} {xs : List V} (h : DVs K H M ds xs) : DVs K H M ds.dropLast xs.dropLast := by
  rw [List.dropLast_eq_take, List.dropLast_eq_take, h.len]
  exact h.take _
theorem DVs.erase {K : PySem.W.Frag} {H : Hp} {M : Mem} {ds : List D} {xs : List V} (h : DVs K H M ds xs) (k : Nat) : DVs K H M (ds.eraseIdx k) (xs.eraseIdx k) := by
  rw [List.eraseIdx_eq_take_drop_succ, List.eraseIdx_eq_take_drop_succ]
  exact DVs.app (h.take _) (h.drop _)
theorem DVs.one {K : PySem.W.Frag} {H : Hp} {M : Mem} {d : D} {x : V} (h : DV K H M d x) : DVs K H M [d] [x] := ⟨x, [], rfl, h, rfl⟩
theorem moSeq_of {o : Option MO} {xs : List D} (h : moSeq o = some xs) : o = some (.lst xs) := by
  unfold moSeq at h
  split at h
  · cases h; rfl
  · cases h
theorem ownL_of {M : Mem} {d : D} {k : Addr → List D → Prop} (h : ownL M d k) : ∃ a xs, d = .ref a ∧ M a = some (.lst xs) ∧ k a xs := by
  unfold ownL at h
  split at h
  · rename_i a
    obtain ⟨xs, e, q⟩ := optK_of h
    exact ⟨a, xs, rfl, moSeq_of e, q⟩
  · exact h.elim
section
variable {X : Cx}
theorem tyD_ok {K : PySem.W.Frag} {H : Hp} {M F : Mem} {T : String} {d : D} {x : V} (R : Rm K H M F) (h : tyD T M d) (g : DV K H (uni M F) d x) : tyV K T x H := by
  cases d <;> first | exact h.elim | skip
  · rename_i z
    cases (show x = .str z from g)
    exact h
  · rename_i a
    cases (show x = .ref a from g)
    obtain ⟨xs, e, _⟩ := optK_of h.2
    obtain ⟨ys, q1, _⟩ := R.get (moSeq_of e)
    exact .inl ⟨h.1, ys, SqL.of q1⟩
  · obtain ⟨a, ys, e, q1, _, q2⟩ := g
    subst e
    exact .inl ⟨h, ys, SqL.of q1⟩
/-- a change of an owned list -/
theorem chg {K : PySem.W.Frag} {H : Hp} {M F : Mem} {Qd : KN} {Q : VK} {a : Addr} {ds' : List D} {o : MO} {xs' : List V} {v : V} {d : D} (R : Rm K H M F) (l : LkG K F (rE K) H M Qd Q) (e : M a = some o)
    (h : DVs K H (uni M F) ds' xs') (hd : DV K H (uni M F) d v) (q : Qd d (mput M a (.lst ds'))) : Q v (upd H a (.lst xs')) := by
  have x := R.xset (K := K) (o := HO.lst xs') (u := .lst ds') e
  exact l v _ d _ x (R.set e ⟨xs', upd_same, DVs.ext R.rel x _ _ h⟩) (DV.ext R.rel x _ _ hd) q
theorem md_append : MtR X "list.append" (liftM X.K rAppD) := by
  intro pins s σ H x xs v us Q I rx rs hh
  obtain ⟨d, ds, M, F, Qd, R, h1, h2, h3, l⟩ := hh
  unfold rAppD at h3
  split at h3
  · rename_i y
    obtain ⟨a, ys, e, e2, q1, q2⟩ := ownL_of h3
    subst e
    cases (show x = .ref a from h1)
    obtain ⟨y', e3, g⟩ := dv1 h2
    subst e3
    obtain ⟨zs, g1, g2⟩ := R.get e2
    exact mt_append pins s σ H _ _ v us Q I rx rs ⟨a, zs, y', rfl, rfl, g1, by rw [g2.len]; exact q1, chg R l e2 (d := .non) (DVs.app g2 (DVs.one g)) rfl q2⟩
  · exact h3.elim
theorem md_pop : MtR X "list.pop" (liftM X.K rPopD) := by
  intro pins s σ H x xs v us Q I rx rs hh
  obtain ⟨d, ds, M, F, Qd, R, h1, h2, h3, l⟩ := hh
  unfold rPopD at h3
  split at h3
  · obtain ⟨a, ys, e, e2, q⟩ := ownL_of h3
    obtain ⟨y, e3, q⟩ := optK_of q
    subst e
    cases (show x = .ref a from h1)
    cases (show xs = [] from h2)
    obtain ⟨zs, g1, g2⟩ := R.get e2
    obtain ⟨y', k1, k2⟩ := g2.get e3
    exact mt_pop pins s σ H _ _ v us Q I rx rs ⟨a, zs, y', rfl, rfl, g1, by rw [g2.len]; exact k1, chg R l e2 g2.dropLast k2 q⟩
  · rename_i i
    obtain ⟨a, ys, e, e2, q⟩ := ownL_of h3
    obtain ⟨j, e3, q⟩ := optK_of q
    obtain ⟨y, e4, q5, q⟩ := optK_of q
    subst e
    cases (show x = .ref a from h1)
    obtain ⟨i', e5, g⟩ := dv1 h2
    subst e5
    cases (show i' = .int i from g)
    obtain ⟨zs, g1, g2⟩ := R.get e2
    obtain ⟨y', k1, k2⟩ := g2.get e4
    obtain ⟨z1, z2, z3, z4⟩ := ixN_seq e3
    have hl : (sizeLine : Nat) < 2 ^ 63 := line63
    exact mt_popAt pins s σ H _ _ v us Q I rx rs ⟨a, zs, i, j, y', rfl, rfl, g1, by omega, by omega, by rw [g2.len]; exact z1, k1, chg R l e2 (g2.erase j) k2 q⟩
  · exact h3.elim
theorem md_extend : MtR X "list.extend" (liftM X.K rExtD) := by
  intro pins s σ H x xs v us Q I rx rs hh
  obtain ⟨d, ds, M, F, Qd, R, h1, h2, h3, l⟩ := hh
  unfold rExtD at h3
  split at h3
  · rename_i y
    obtain ⟨a, ys, e, e2, q1, q2⟩ := ownL_of h3
    subst e
    cases (show x = .ref a from h1)
    obtain ⟨y', e3, g⟩ := dv1 h2
    subst e3
    obtain ⟨b, ws, e4, g3, _, g4⟩ := g
    subst e4
    obtain ⟨zs, g1, g2⟩ := R.get e2
    exact mt_extend pins s σ H _ _ v us Q I rx rs ⟨a, b, zs, ws, rfl, rfl, g1, g3, by rw [g2.len, g4.len]; exact q1, chg R l e2 (d := .non) (DVs.app g2 g4) rfl q2⟩
  · exact h3.elim
theorem md_insert : MtR X "list.insert" (liftM X.K rInsD) := by
  intro pins s σ H x xs v us Q I rx rs hh
  obtain ⟨d, ds, M, F, Qd, R, h1, h2, h3, l⟩ := hh
  unfold rInsD at h3
  split at h3
  · rename_i i y
    obtain ⟨a, ys, e, e2, q1, q3, q4, q2⟩ := ownL_of h3
    subst e
    cases (show x = .ref a from h1)
    obtain ⟨i', y', e3, gi, g⟩ := dv2 h2
    subst e3
    cases (show i' = .int i from gi)
    obtain ⟨zs, g1, g2⟩ := R.get e2
    exact mt_insert pins s σ H _ _ v us Q I rx rs ⟨a, zs, i, y', rfl, rfl, g1, by rw [g2.len]; exact q1, q3, q4, chg R l e2 (d := .non) (DVs.app (DVs.app (g2.take _) (DVs.one g)) (g2.drop _)) rfl q2⟩
  · exact h3.elim
theorem md_clear : MtR X "list.clear" (liftM X.K rClrD) := by
  intro pins s σ H x xs v us Q I rx rs hh
  obtain ⟨d, ds, M, F, Qd, R, h1, h2, h3, l⟩ := hh
  unfold rClrD at h3
  split at h3
  · obtain ⟨a, ys, e, e2, q⟩ := ownL_of h3
    subst e
    cases (show x = .ref a from h1)
    cases (show xs = [] from h2)
    obtain ⟨zs, g1, g2⟩ := R.get e2
    exact mt_clear pins s σ H _ _ v us Q I rx rs ⟨a, zs, rfl, rfl, g1, chg R l e2 (d := .non) (ds' := []) (xs' := []) rfl rfl q⟩
  · exact h3.elim
/-- xs[i] = v -/
def rSetD (o i v : D) (M : Mem) (k : Mem → Prop) : Prop := match i with
  | .int j => ownL M o fun a xs => optK (ixN xs.length j) fun n => k (mput M a (.lst (xs.set n v)))
  | _ => False
end
section
variable {X : Cx} {W : WX} {o e : Expr} {es : List Expr} {we : WE} {wa : WA} {name : Str} {apos cpos : Pos} {T id : String} {r : D → List D → Mem → KN → Prop}
theorem finM {d : D} {ds : List D} {x : V} {xs : List V} {σ : L2.St} {H : Hp} {Q : VK} {K : PySem.W.Frag} (h : lift K W (rE K) (ds ++ [d]) (xs ++ [x]) (fun _ M Q _ => r d ds M Q) σ H Q) : liftM K r x xs H Q := by
  obtain ⟨_, M, F, Qd, Xd, hs, hv, hw, l1, _⟩ := h
  have key : ∀ (ds : List D) (xs : List V), DVs K H (uni M F) (ds ++ [d]) (xs ++ [x]) → DVs K H (uni M F) ds xs ∧ DV K H (uni M F) d x := by
    intro ds
    induction ds with
    | nil =>
      intro xs h
      obtain ⟨y, ys, e, h1, h2⟩ := h
      cases (show ys = [] from h2)
      cases xs with
      | nil => cases e; exact ⟨rfl, h1⟩
      | cons z zs =>
        exfalso
        have := congrArg List.length e
        simp at this
    | cons c cs ih =>
      intro xs h
      obtain ⟨y, ys, e, h1, h2⟩ := h
      cases xs with
      | nil =>
        exfalso
        have e3 : ys = [] := by
          have := congrArg List.length e
          simp at this
          exact this
        subst e3
        cases cs with
        | nil => obtain ⟨_, _, z, _⟩ := h2; cases z
        | cons _ _ => obtain ⟨_, _, z, _⟩ := h2; cases z
      | cons z zs =>
        cases e
        obtain ⟨g1, g2⟩ := ih zs h2
        exact ⟨⟨_, _, rfl, h1, g1⟩, g2⟩
  obtain ⟨k1, k2⟩ := key ds xs hv
  exact ⟨d, ds, M, F, Qd, hs.1, k2, k1, hw, l1⟩
theorem j_bm (pa : PlainAttrs T) (slot : Slot T name id) (hty : typeOf (.builtin id) = pure (.type "method_descriptor")) (hm : MtR X id (liftM X.K r)) (ho : JE X W o we) (ha : JA X W (e :: es) wa)
    (hbase : attributeBase o name X.env (eval o X.env) = eval o X.env := by rfl)
    (hfew : ((backTo cpos (starEach (e :: es) X.env)).all (fun x => !x.1) && (backToKw cpos (keywordEach [] X.env)).all (fun x => x.1.isSome)
      && decide ((e :: es).length + ([] : List Keyword).length + (if ([] : List Keyword).isEmpty then 0 else 1) < 30)) = true := by rfl)
    (hline : (apos.endLine == cpos.line) = true := by rfl) (hs : starEach (e :: es) X.env = (false, eval e X.env) :: starEach es X.env := by rfl) (hplain : (backTo cpos (starEach es X.env)).any (·.1) = false := by rfl) :
    JE X W (.Call (.Attribute o name apos) (e :: es) [] cpos) (wBM T r we wa) :=
  pe_mono (pe_bm pa slot hty hm ho ha hbase hfew hline hs hplain) fun σ H Q h => by
    obtain ⟨ds, M, F, Qd, Xd, hs, hv, hw, l1, l2⟩ := h
    refine ⟨ds, M, F, _, Xd, hs, rfl, hw, fun v H' d M' ex rr dv q => ⟨tyD_ok rr q.1 dv, ?_⟩, l2⟩
    refine bindA (Rr := rE X.K) (Q := Q) (wa := wa) (es := [d]) (vs := [v]) (f := fun xs _ M Q _ => r d xs M Q) ⟨ds, M', F, Qd, Xd, hs.ext ex rr, DVs.one dv, q.2, l1.ext ex, l2.ext ex⟩ fun xs es' H1 h => finM h
theorem j_bm0 (pa : PlainAttrs T) (slot : Slot T name id) (hty : typeOf (.builtin id) = pure (.type "method_descriptor")) (hm : MtR X id (liftM X.K r)) (ho : JE X W o we)
    (hbase : attributeBase o name X.env (eval o X.env) = eval o X.env := by rfl) (hline : (apos.endLine == cpos.line) = true := by rfl) : JE X W (.Call (.Attribute o name apos) [] [] cpos) (wBM T r we wNil) :=
  pe_mono (pe_bm0 pa slot hty hm ho hbase hline) fun σ H Q h => by
    obtain ⟨ds, M, F, Qd, Xd, hs, hv, hw, l1, l2⟩ := h
    exact ⟨ds, M, F, _, Xd, hs, rfl, hw, fun v H' d M' ex rr dv q => ⟨tyD_ok rr q.1 dv, d, [], M', F, Qd, rr, dv, rfl, q.2, l1.ext ex⟩, l2⟩
end
end DL
namespace DL
open PySem PySem.Spec PyProof.Rows L2 RZ

/-! ### xs[i] = v, x op= v -/
def wSub (we wo wi : WE) (r : D → D → D → Mem → (Mem → Prop) → Prop) : WS := fun E ds M => we ds M (fun v M1 => wo ds M1 (fun o M2 => wi ds M2 (fun i M3 => r o i v M3 fun M4 => E.nx ds M4) (E.xc ds)) (E.xc ds)) (E.xc ds)
def wAug (i : Nat) (we : WE) (r : RD2) : WS := fun E ds M => wGet ds[i]? fun d => we ds M (fun e M1 => r d e M1 fun z M2 => E.nx (ds.set i (some z)) M2) (E.xc ds)
section
variable {X : Cx} {W : WX} {o i e : Expr} {wo wi we : WE} {pos : Pos}
theorem js_sub {spos : Pos} (he : JE X W e we) (ho : JE X W o wo) (hi : JE X W i wi)
    (ha : ∀ v, assign (.Subscript o i pos) X.env v = (do
      let ov ← holding [v] (eval o X.env)
      let iv ← holding [v, ov] (eval i X.env)
      standAt pos
      holding [v, ov, iv] (setItem ov iv v)
      release [v, ov, iv] []) := by intro _; rfl)
    (hs : swapsWithSole [.Subscript o i pos] e spos.line X.env = pure false := by rfl) (hw : swappedStores [.Subscript o i pos] e X.env = pure none := by rfl)
    (h1 : (assignEach [.Subscript o i pos] X.env).map (·.2) = [assign (.Subscript o i pos) X.env] := by rfl) : JS X W (.Assign [.Subscript o i pos] e spos) (wSub we wo wi rSetD) :=
  ps_mono (ps_asg he (pg_sub ho hi set_list ha) hs hw h1) fun D' σ H h =>
    bindSE (wa := we) (f := fun v E ds M => wo ds M (fun o M2 => wi ds M2 (fun i M3 => rSetD o i v M3 fun M4 => E.nx ds M4) (E.xc ds)) (E.xc ds)) h fun v d H1 h =>
    bindSE (wa := wo) (f := fun o E ds M => wi ds M (fun i M3 => rSetD o i d M3 fun M4 => E.nx ds M4) (E.xc ds)) h fun ov od H2 h =>
    bindSE (wa := wi) (f := fun i E ds M => rSetD od i d M fun M4 => E.nx ds M4) h fun iv id H3 h => by
      obtain ⟨ds, M, F, E, hs, hv, hw, l⟩ := h
      obtain ⟨_, _, e1, g1, _, _, e2, g2, _, _, e3, g3, _⟩ := hv
      cases e1
      cases e2
      cases e3
      unfold rSetD at hw
      split at hw
      · rename_i j
        obtain ⟨a, ys, e4, e5, q⟩ := ownL_of hw
        obtain ⟨n, e6, q⟩ := optK_of q
        subst e4
        cases (show ov = .ref a from g2)
        cases (show iv = .int j from g1)
        obtain ⟨zs, k1, k2⟩ := hs.1.get e5
        refine ⟨a, zs, j, n, rfl, rfl, k1, by rw [k2.len]; exact e6, ?_⟩
        have x := hs.1.xset (o := HO.lst (zs.set n v)) (u := .lst (ys.set n d)) e5
        have st : DVs X.K H3 (uni M F) (ys.set n d) (zs.set n v) := DVs.of_get (by rw [List.length_set, List.length_set, k2.len]) fun m c hm => by
          by_cases hz : n = m
          · subst hz
            by_cases hl : n < ys.length
            · rw [List.getElem?_set_self hl] at hm
              cases hm
              exact ⟨v, by rw [List.getElem?_set_self (by rw [k2.len]; exact hl)], g3⟩
            · rw [List.getElem?_eq_none (by rw [List.length_set]; omega)] at hm
              cases hm
          · rw [List.getElem?_set_ne hz] at hm ⊢
            exact k2.get hm
        exact l.nx _ _ ds _ x (hs.ext x (hs.1.set e5 ⟨_, upd_same, DVs.ext hs.1.rel x _ _ st⟩)) q
      · exact hw.elim
/-- an operator's step in place -/
theorem ip_of {op : Operator} {r : RD2} (h : OpR X (inplaceOp op) (liftV2 X.K r)) : PIp X op (liftV2 X.K r) := fun pins s σ H x y v u Q I r1 r2 hh => h pins s σ H x y v u Q I r1 r2 hh
theorem oi_add : OpR X (inplaceOp .Add) (liftV2 X.K (rInt0D fun i j => .int (i + j))) := od_int0 iop_add fun _ _ _ _ => rfl
theorem oi_sub : OpR X (inplaceOp .Sub) (liftV2 X.K (rInt0D fun i j => .int (i - j))) := od_int0 iop_sub fun _ _ _ _ => rfl
theorem js_aug {k : Nat} {x : Str} {op : Operator} {r : RD2} {pos' : Pos} (hN : X.N.Nodup) (he : JE X W e we) (ho : OpR X (inplaceOp op) (liftV2 X.K r)) (hi : X.N[k]? = some x := by rfl) (hx : Loc X.env.scope x := by first | exact Or.inl rfl | exact Or.inr rfl)
    (hf : X.fn x = true ∨ X.env.scope.names.lookup x = some .local := by first | exact .inl rfl | exact .inr rfl | assumption) : JS X W (.AugAssign (.Name x pos') op e pos) (wAug k we r) :=
  ps_mono (ps_aug hN hi hx he (ip_of ho) hf) fun D' σ H h => by
    obtain ⟨ds, M, F, E, hs, hv, hw, l⟩ := h
    unfold wAug at hw
    cases q : ds[k]? with
    | none => rw [q] at hw; exact hw.elim
    | some od =>
      cases od with
      | none => rw [q] at hw; exact hw.elim
      | some d =>
        rw [q] at hw
        obtain ⟨v, h1, h2⟩ := hs.2.2 k d q
        refine ⟨v, h1, ?_⟩
        refine bindSE (es := [d]) (vs := [v]) (wa := we) (f := fun e E ds M => r d e M fun z M2 => E.nx (ds.set k (some z)) M2) (D' := D') ⟨ds, M, F, E, hs, DVs.one h2, hw, l⟩ fun u e H1 h => ?_
        obtain ⟨ds, M, F, E, hs, hv, hw, l⟩ := h
        obtain ⟨_, _, e1, g1, _, _, e2, g2, _⟩ := hv
        cases e1
        cases e2
        exact ⟨d, e, M, F, _, hs.1, g2, g1, hw, fun z H' dz M' ex rr dv q => l.nx _ H' _ M' ex ⟨rr, Sl.set (hs.ext ex rr).2 dv⟩ q⟩
end

/-! ### instances -/
def moIns : Option MO → Option (Addr × List Str × List D)
  | some (.ins C ns xs) => some (C, ns, xs)
  | _ => none
def insOf (M : Mem) : D → Option (Addr × List Str × List D)
  | .ins C ns xs => some (C, ns, xs)
  | .ref a => moIns (M a)
  | _ => none
/-- an instance of C whose fields are ns: its values -/
def insK (C : Addr) (ns : List Str) (M : Mem) (d : D) (k : List D → Prop) : Prop := optK (insOf M d) fun p => p.1 = C ∧ p.2.1 = ns ∧ k p.2.2
theorem insK_of {K : PySem.W.Frag} {H : Hp} {M F : Mem} {C : Addr} {ns : List Str} {d : D} {x : V} {k : List D → Prop} (R : Rm K H M F) (h : insK C ns M d k) (g : DV K H (uni M F) d x) :
    ∃ a dx fs xs, x = .ref a ∧ H a = some (.ins C dx fs) ∧ fs.map (·.1) = ns ∧ DVs K H (uni M F) xs (fs.map (·.2)) ∧ k xs := by
  obtain ⟨⟨C', ns', xs⟩, e, rfl, rfl, q⟩ := optK_of h
  cases d <;> first | cases e | skip
  · rename_i a
    cases (show x = .ref a from g)
    have e' : moIns (M a) = some (C', ns', xs) := e
    unfold moIns at e'
    split at e'
    · rename_i e2
      cases e'
      obtain ⟨dx, fs, q1, q2, q3⟩ := R.get e2
      exact ⟨a, dx, fs, xs, rfl, q1, q2, q3, q⟩
    · cases e'
  · obtain ⟨a, dx, fs, e1, q1, _, q2, q3⟩ := g
    exact ⟨a, dx, fs, xs, e1, q1, q2, q3, q⟩
theorem look_at {f : Str} {i : Nat} : ∀ {fs : List (Str × V)} {ns : List Str}, fs.map (·.1) = ns → ns.findIdx? (· == f) = some i → fs.lookup f = (fs.map (·.2))[i]?
  | [], ns, h, e => by
    subst h
    cases e
  | (g, v) :: fs, ns, h, e => by
    subst h
    rw [List.map_cons, List.findIdx?_cons] at e
    by_cases hg : g = f
    · subst hg
      rw [if_pos (beq_self_eq_true g)] at e
      cases e
      simp [List.lookup]
    · have hb : ((g, v).1 == f) = false := by simpa using hg
      rw [hb, if_neg Bool.false_ne_true] at e
      cases q : List.findIdx? (· == f) (fs.map (·.1)) with
      | none => rw [q] at e; cases e
      | some j =>
        rw [q] at e
        cases e
        have hb' : (f == g) = false := by simpa using fun z => hg z.symm
        rw [List.lookup, hb', List.map_cons, List.getElem?_cons_succ]
        exact look_at rfl q
theorem look_no {f : Str} : ∀ {fs : List (Str × V)} {ns : List Str}, fs.map (·.1) = ns → ns.findIdx? (· == f) = none → fs.lookup f = none
  | [], ns, h, e => rfl
  | (g, v) :: fs, ns, h, e => by
    subst h
    rw [List.map_cons, List.findIdx?_cons] at e
    by_cases hg : g = f
    · subst hg
      rw [if_pos (beq_self_eq_true g)] at e
      cases e
    · have hb : ((g, v).1 == f) = false := by simpa using hg
      rw [hb, if_neg Bool.false_ne_true] at e
      have hb' : (f == g) = false := by simpa using fun z => hg z.symm
      rw [List.lookup, hb']
      refine look_no rfl ?_
      cases q : List.findIdx? (· == f) (fs.map (·.1)) with
      | none => rfl
      | some j => rw [q] at e; cases e
/-- a field stored: in its place, or as a new one -/
def putD (ns : List Str) (xs : List D) (f : Str) (d : D) : Option Nat → List Str × List D
  | some i => (ns, xs.set i d)
  | none => (ns ++ [f], xs ++ [d])
theorem putF_rel {K : PySem.W.Frag} {H : Hp} {N : Mem} {f : Str} {v : V} {d : D} (dv : DV K H N d v) : ∀ {fs : List (Str × V)} {ns : List Str} {xs : List D} {o : Option Nat}, fs.map (·.1) = ns → DVs K H N xs (fs.map (·.2)) → ns.findIdx? (· == f) = o →
    (putF f v fs).map (·.1) = (putD ns xs f d o).1 ∧ DVs K H N (putD ns xs f d o).2 ((putF f v fs).map (·.2))
  | [], ns, xs, o, h, g, e => by
    subst h
    have e' : xs = [] := by
      cases xs with
      | nil => rfl
      | cons _ _ => obtain ⟨_, _, z, _⟩ := g; cases z
    subst e'
    cases e
    exact ⟨rfl, DVs.one dv⟩
  | (k, w) :: fs, ns, xs, o, h, g, e => by
    subst h
    cases xs with
    | nil => cases (show _ = [] from g)
    | cons c cs =>
      obtain ⟨y, ys, e1, g1, g2⟩ := g
      rw [List.map_cons] at e1
      cases e1
      rw [List.map_cons, List.findIdx?_cons] at e
      by_cases hg : k = f
      · subst hg
        rw [if_pos (beq_self_eq_true k)] at e
        subst e
        refine ⟨?_, ?_⟩
        · show ((if k = k then (k, v) :: fs else _) : List (Str × V)).map (·.1) = _
          rw [if_pos rfl]
          rfl
        · show DVs K H N _ (((if k = k then (k, v) :: fs else _) : List (Str × V)).map (·.2))
          rw [if_pos rfl]
          exact ⟨v, _, rfl, dv, g2⟩
      · have hb : ((k, w).1 == f) = false := by simpa using hg
        rw [hb, if_neg Bool.false_ne_true] at e
        have ih := putF_rel (f := f) (v := v) dv (fs := fs) rfl g2 rfl
        have ee : putF f v ((k, w) :: fs) = (k, w) :: putF f v fs := if_neg hg
        rw [ee]
        cases q : List.findIdx? (· == f) (fs.map (·.1)) with
        | none =>
          rw [q] at e ih
          subst e
          refine ⟨?_, ?_⟩
          · show k :: (putF f v fs).map (·.1) = _
            rw [ih.1]
            rfl
          · exact ⟨w, _, rfl, g1, ih.2⟩
        | some j =>
          rw [q] at e ih
          subst e
          refine ⟨?_, ?_⟩
          · show k :: (putF f v fs).map (·.1) = _
            rw [ih.1]
            rfl
          · exact ⟨w, _, rfl, g1, ih.2⟩
def wFld (C : Addr) (ns : List Str) (i : Nat) (we : WE) : WE := fun ds M Q Xc => we ds M (fun d M1 => insK C ns M1 d fun xs => optK xs[i]? fun v => Q v M1) Xc
/-- o.f = e, o an owned instance -/
def wFst (C : Addr) (ns : List Str) (f : Str) (o : Option Nat) (we wo : WE) : WS := fun E ds M => we ds M (fun v M1 => wo ds M1 (fun d M2 => match d with
  | .ref a => optK (moIns (M2 a)) fun p => p.1 = C ∧ p.2.1 = ns ∧ E.nx ds (mput M2 a (.ins C (putD ns p.2.2 f v o).1 (putD ns p.2.2 f v o).2))
  | _ => False) (E.xc ds)) (E.xc ds)
def wMeth (C : Addr) (ns : List Str) (sp : SpD) (we : WE) (wa : WA) : WE := fun ds M Q Xc => we ds M (fun d M1 => insK C ns M1 d fun _ => wa ds M1 (fun xs M2 => sp (d :: xs) M2 Q Xc) Xc) Xc
def wProp (C : Addr) (ns : List Str) (sp : SpD) (we : WE) : WE := fun ds M Q Xc => we ds M (fun d M1 => insK C ns M1 d fun _ => sp [d] M1 Q XF) Xc
def wMake (C : Addr) (sp : SpD) (wa : WA) : WE := fun ds M Q Xc => wa ds M (fun xs M1 => ∀ a, M1 a = none → sp (.ref a :: xs) (mput M1 a (.ins C [] [])) (fun d M2 => d = .non ∧ Fin Q (.ref a) M2) Xc) Xc
section
variable {X : Cx} {W : WX} {o e : Expr} {es : List Expr} {wo we : WE} {wa : WA} {f m x : Str} {pos apos p : Pos} {C g fI : Addr} {ns : List Str} {k j : Nat} {sp : SpD}
theorem j_fld {i : Nat} (c : Cls X.K C) (n : NoAttr X.K C f) (hi : ns.findIdx? (· == f) = some i) (he : JE X W o we) (hb : attributeBase o f X.env (eval o X.env) = eval o X.env := by rfl) : JE X W (.Attribute o f pos) (wFld C ns i we) :=
  pe_mono (pe_fld he hb) fun σ H Q h => bindE (wa := we) (f := fun d _ M Q _ => insK C ns M d fun xs => optK xs[i]? fun v => Q v M) h fun v d H1 h => by
    obtain ⟨_, M, F, Qd, Xd, hs, hv, hw, l1, _⟩ := h
    obtain ⟨_, _, e1, h1, _⟩ := hv
    cases e1
    obtain ⟨a, dx, fs, xs, e2, q1, q2, q3, q⟩ := insK_of hs.1 hw h1
    obtain ⟨z, e3, q⟩ := optK_of q
    obtain ⟨y, k1, k2⟩ := q3.get e3
    exact ⟨a, C, dx, fs, y, e2, q1, c, n, by rw [look_at q2 hi]; exact k1, l1 y H1 z M Ext.rfl' hs.1 k2 q⟩
theorem js_fld {o' : Option Nat} {value : Expr} {wv : WE} {pos' : Pos} (c : Cls X.K C) (n : NoAttr X.K C f) (ho : ns.findIdx? (· == f) = o') (hl : ns.length < 1000) (ha : JE X W o wo) (hv : JE X W value wv) (hs : swapsWith value (some (.Attribute o f pos')) pos.line X.env = pure false := by rfl) :
    JS X W (.Assign [.Attribute o f pos'] value pos) (wFst C ns f o' wv wo) :=
  ps_mono (ps_fld ha hv hs) fun D' σ H h => bindSE (wa := wv) (f := fun v E ds M => wo ds M (fun d M2 => match d with
      | .ref a => optK (moIns (M2 a)) fun p => p.1 = C ∧ p.2.1 = ns ∧ E.nx ds (mput M2 a (.ins C (putD ns p.2.2 f v o').1 (putD ns p.2.2 f v o').2))
      | _ => False) (E.xc ds)) h fun v d H1 h => bindSE (wa := wo) (f := fun z E ds M => match z with
      | .ref a => optK (moIns (M a)) fun p => p.1 = C ∧ p.2.1 = ns ∧ E.nx ds (mput M a (.ins C (putD ns p.2.2 f d o').1 (putD ns p.2.2 f d o').2))
      | _ => False) h fun ov od H2 h => by
    obtain ⟨ds, M, F, E, hs, hv, hw, l⟩ := h
    obtain ⟨_, _, e1, g1, _, _, e2, g2, _⟩ := hv
    cases e1
    cases e2
    split at hw
    · rename_i a
      cases (show ov = .ref a from g1)
      obtain ⟨⟨C', ns', xs⟩, e3, e4, e5, q⟩ := optK_of hw
      dsimp only at e4 e5 q
      subst e4
      subst e5
      unfold moIns at e3
      split at e3
      · rename_i e6
        cases e3
        obtain ⟨dx, fs, q1, q2, q3⟩ := hs.1.get e6
        refine ⟨a, C', dx, fs, rfl, q1, c, n, ?_, ?_⟩
        · rw [← List.length_map (f := (·.1)), q2]
          exact hl
        · obtain ⟨k1, k2⟩ := putF_rel (f := f) g2 q2 q3 ho
          have x := hs.1.xset (o := HO.ins C' dx (putF f v fs)) (u := .ins C' (putD ns' xs f d o').1 (putD ns' xs f d o').2) e6
          exact l.nx _ _ ds _ x (hs.ext x (hs.1.set e6 ⟨dx, _, upd_same, k1, DVs.ext hs.1.rel x _ _ k2⟩)) q
      · cases e3
    · exact hw.elim
theorem fnlen {fd : FuncData} {ps : List Str} {CX : CXT} {q : Sp} (F : FnOk X.prog X.w X.K X.mg X.base CX k g fd ps q) {vs : List V} {us : List Value} {H : Hp} {Q : VK} {E : XK} (r : Vals vs us) (h : q vs H Q E) : us.length = ps.length := by
  rw [← r.length]
  exact F.len _ _ _ _ h
/-- o.m(e, ..) of an instance -/
theorem j_meth {pl : Sem Bool} (he : JE X W o we) (c : Cls X.K C) (hm : Meth X.K C m g) (hn : ns.findIdx? (· == m) = none) (F : FnJ X.prog X.w X.K X.mg X.base k g sp) (hr : Room j X.A) (hkj : k ≤ j) (tk : Takes X W) (ha : JA X W (e :: es) wa)
    (hst : starEach (e :: es) X.env = (false, eval e X.env) :: starEach es X.env := by rfl) (hpl : (backTo pos (starEach es X.env)).any (·.1) = false := by rfl)
    (ht : eval (.Call (.Attribute o m apos) (e :: es) [] pos) X.env = (do
      let ov ← eval o X.env
      standAt apos.atName
      let (f, first) ← holding [ov] (getMethod ov m pl)
      callWith pos f first (backTo pos (starEach (e :: es) X.env)) (backToKw pos (keywordEach [] X.env))) := by rfl) :
    JE X W (.Call (.Attribute o m apos) (e :: es) [] pos) (wMeth C ns sp we wa) := by
  obtain ⟨fd, ps, h1, h2⟩ := F.ex
  refine ⟨fun pins s σ H Q I h => ?_⟩
  have hh : liftE X.K W we σ H (fun x H1 => ∃ a dx fs, x = V.ref a ∧ H1 a = some (.ins C dx fs) ∧ fs.lookup m = none ∧ liftA X.K W wa σ H1 fun vs H2 => liftSp X.K sp (x :: vs) H2 Q (L2.WE W σ)) :=
    bindE (wa := we) (f := fun d ds M Q Xc => insK C ns M d fun _ => wa ds M (fun xs M2 => sp (d :: xs) M2 Q Xc) Xc) h fun v d H1 h => by
      obtain ⟨ds, M, Fr, Qd, Xd, hs, hv, hw, l1, l2⟩ := h
      have hv' := hv
      obtain ⟨_, _, e1, g1, _⟩ := hv
      cases e1
      obtain ⟨a, dx, fs, xs, e2, q1, q2, q3, q⟩ := insK_of hs.1 hw g1
      refine ⟨a, dx, fs, e2, q1, look_no q2 hn, bindA (Rr := rE X.K) (Q := Q) (wa := wa) (es := [d]) (vs := [v]) (f := fun xs _ M Q Xc => sp (d :: xs) M Q Xc) ⟨ds, M, Fr, Qd, Xd, hs, hv', q, l1, l2⟩ fun ys zs H2 h => ?_⟩
      obtain ⟨_, M2, F2, Qd2, Xd2, hs2, hv2, hw2, m1, m2⟩ := h
      have key : ∀ (zs : List D) (ys : List V), DVs X.K H2 (uni M2 F2) (zs ++ [d]) (ys ++ [v]) → DVs X.K H2 (uni M2 F2) (d :: zs) (v :: ys) := fun zs ys hz => by
        have z := finM (r := fun _ _ _ _ => True) (K := X.K) (W := WF) (d := d) (ds := zs) (x := v) (xs := ys) (σ := σ) (H := H2) (Q := fun _ _ => True)
          ⟨_, M2, F2, fun _ _ => True, XF, hs2, hz, trivial, fun _ _ _ _ _ _ _ _ => trivial, fun _ _ _ _ _ _ _ _ z => z.elim⟩
        have n1 := DVs.len hz
        rw [List.length_append, List.length_append, List.length_singleton, List.length_singleton] at n1
        have t1 := hz.take zs.length
        have t2 := hz.drop zs.length
        rw [List.take_left, show zs.length = ys.length by omega, List.take_left] at t1
        rw [List.drop_left, show zs.length = ys.length by omega, List.drop_left] at t2
        obtain ⟨y, w, e, k1, k2⟩ := t2
        cases e
        exact ⟨_, _, rfl, k1, t1⟩
      exact ⟨d :: zs, M2, F2, Qd2, Xd2, hs2.1, key zs ys hv2, hw2, m1, m2⟩
  refine PySem.W.methodCall_KW (pl := pl) (thn (he.run pins s σ H _ I hh) ?_) ht
  rintro u s1 ⟨x, H1, I1, rx, a, dx, fs, rfl, ea, l, q⟩
  cases (show u = Value.ref a from rx)
  refine getmeth_ok I1 ea c hm l (PySem.W.callWith_K (first := [.ref a]) (h₀ := X.base) I.ok.mod.kin hm.kp (thn (ha.run pos pins s1 σ H1 _ I1 q) ?_) hst hpl)
  rintro us s2 ⟨vs, H2, I2, r, q2⟩
  exact ⟨I2.kIn, run_fnS (us := .ref a :: us) (vs := .ref a :: vs) h1 (hr.mono hkj) h2 (passAt tk σ) I2 (.cons rfl r) q2⟩
/-- o.m() -/
theorem j_meth0 {pl : Sem Bool} (he : JE X W o we) (c : Cls X.K C) (hm : Meth X.K C m g) (hn : ns.findIdx? (· == m) = none) (F : FnJ X.prog X.w X.K X.mg X.base k g sp) (hr : Room j X.A) (hkj : k ≤ j) (tk : Takes X W)
    (ht : eval (.Call (.Attribute o m apos) [] [] pos) X.env = (do
      let ov ← eval o X.env
      standAt apos.atName
      let (f, first) ← holding [ov] (getMethod ov m pl)
      callWith pos f first (backTo pos (starEach [] X.env)) (backToKw pos (keywordEach [] X.env))) := by rfl) :
    JE X W (.Call (.Attribute o m apos) [] [] pos) (wMeth C ns sp we wNil) := by
  obtain ⟨fd, ps, h1, h2⟩ := F.ex
  refine ⟨fun pins s σ H Q I h => ?_⟩
  have hh : liftE X.K W we σ H (fun x H1 => ∃ a dx fs, x = V.ref a ∧ H1 a = some (.ins C dx fs) ∧ fs.lookup m = none ∧ liftSp X.K sp [x] H1 Q (L2.WE W σ)) :=
    bindE (wa := we) (f := fun d ds M Q Xc => insK C ns M d fun _ => sp [d] M Q Xc) h fun v d H1 h => by
      obtain ⟨ds, M, Fr, Qd, Xd, hs, hv, hw, l1, l2⟩ := h
      have hv' := hv
      obtain ⟨_, _, e1, g1, _⟩ := hv
      cases e1
      obtain ⟨a, dx, fs, xs, e2, q1, q2, q3, q⟩ := insK_of hs.1 hw g1
      exact ⟨a, dx, fs, e2, q1, look_no q2 hn, [d], M, Fr, Qd, Xd, hs.1, hv', q, l1, l2⟩
  refine PySem.W.methodCall_KW (pl := pl) (thn (he.run pins s σ H _ I hh) ?_) ht
  rintro u s1 ⟨x, H1, I1, rx, a, dx, fs, rfl, ea, l, q⟩
  cases (show u = Value.ref a from rx)
  refine getmeth_ok I1 ea c hm l ?_
  exact PySem.W.callWith_K0 (first := [.ref a]) I1.kIn hm.kp (run_fnS (us := [.ref a]) (vs := [.ref a]) h1 (hr.mono hkj) h2 (passAt tk σ) I1 (.cons rfl .nil) q)
/-- o.f, a property -/
theorem j_prop {pp : Addr} (he : JE X W o we) (c : Cls X.K C) (hp : PropOf X.K C f pp g) (F : FnJ X.prog X.w X.K X.mg X.base k g sp) (hr : Room j X.A) (hkj : k + 1 ≤ j) (hb : attributeBase o f X.env (eval o X.env) = eval o X.env := by rfl) : JE X W (.Attribute o f pos) (wProp C ns sp we) := by
  obtain ⟨fd, ps, h1, h2⟩ := F.ex
  refine pe_mono (pe_prop he c hp h1 (hr.mono hkj) h2 .nil passL hb) fun σ H Q h => bindE (wa := we) (f := fun d ds M Q Xc => insK C ns M d fun _ => sp [d] M Q XF) h fun v d H1 h => ?_
  obtain ⟨ds, M, Fr, Qd, Xd, hs, hv, hw, l1, l2⟩ := h
  have hv' := hv
  obtain ⟨_, _, e1, g1, _⟩ := hv
  cases e1
  obtain ⟨a, dx, fs, xs, e2, q1, q2, q3, q⟩ := insK_of hs.1 hw g1
  subst e2
  exact ⟨a, dx, fs, rfl, q1, [d], M, Fr, Qd, XF, hs.1, hv', q, l1, fun _ _ _ _ _ _ _ _ z => z.elim⟩
/-- C(..) made: the callee is __init__ -/
theorem run_mk {CX : CXT} {q : Sp} {E : XK} {fd : FuncData} {ps : List Str} {pins : List (Addr × Obj)} {σ : L2.St} {H : Hp} {s : Shared} {Q : VK} {us : List Value} {vs : List V} (Z : Mk X.K C fI) (F : FnOk X.prog X.w X.K X.mg X.base CX k fI fd ps q) (hr : Room (k + 1) X.A) (hb : Binds X.K fd ps [])
    (hx : PassesAt CX X σ E) (I : Inv X pins σ H s) (r : Vals vs us)
    (h : ∀ x dx, H x = none → H dx = none → dx ≠ x → q (.ref x :: vs) (upd (upd H dx (.own x)) x (.ins C dx [])) (fun v H2 => v = .non ∧ Q (.ref x) H2) E) : wpAny (model X.prog X.w) X.A (call (.ref C) us) (EP X pins σ Q) X.xe s := by
  obtain ⟨n, hn⟩ : ∃ n, n = s.heap.objs.size := ⟨_, rfl⟩
  have f1 : H n = none := I.hok.fresh (Nat.le_of_eq hn.symm)
  have f2 : H (n + 1) = none := I.hok.fresh (Nat.le_trans (Nat.le_of_eq hn.symm) (Nat.le_succ n))
  have hq := h (n + 1) n f2 f1 (Nat.ne_of_lt (Nat.lt_succ_self n))
  subst hn
  have J := Inv.made (C := C) I
  have rr : Vals (V.ref (s.heap.objs.size + 1) :: vs) (Value.ref (s.heap.objs.size + 1) :: us) := .cons rfl r
  have hl : (Value.ref (s.heap.objs.size + 1) :: us).length = ps.length := by
    rw [← rr.length]
    exact F.len _ _ _ _ hq
  have hbt := hb { s with heap := _ } (Value.ref (s.heap.objs.size + 1) :: us) J.kIn (by rw [List.append_nil]; exact hl)
  rw [List.append_nil] at hbt
  refine wpAny_call (make_map (f := fI) I.kIn Z.makes Z.init (beq_iff_eq.mp Z.fn) (codeAny_mono (F.run _ X.stack _ _ ⟨_, []⟩ _ _ _ E (hr.make C us []) (J.env0.make C us []) hbt rr hq) fun res s' hres => ?_))
  cases res with
  | error e => exact hx pins _ _ e s' J hres
  | ok fl =>
    cases fl with
    | ret u =>
      obtain ⟨v, H', I3, rv, ev, q3⟩ := J.after hres
      subst ev
      exact ⟨rv, V.ref (s.heap.objs.size + 1), H', I3, rfl, q3⟩
    | next => exact hres.elim
    | brk => exact hres.elim
    | cont => exact hres.elim
theorem mk_lift {xs : List D} {vs : List V} {σ : L2.St} {H : Hp} {Q : VK} (h : lift X.K W (rE X.K) xs vs (fun _ M Q Xc => ∀ a, M a = none → sp (.ref a :: xs) (mput M a (.ins C [] [])) (fun d M2 => d = .non ∧ Fin Q (.ref a) M2) Xc) σ H Q) :
    ∀ x dx, H x = none → H dx = none → dx ≠ x → liftSp X.K sp (.ref x :: vs) (upd (upd H dx (.own x)) x (.ins C dx [])) (fun v H2 => v = .non ∧ Q (.ref x) H2) (L2.WE W σ) := by
  intro x dx hx hdx hne
  obtain ⟨_, M, F, Qd, Xd, hs, hv, hw, l1, l2⟩ := h
  have R1 := hs.1.new (o := HO.own x) hdx
  have e1 := new_ext hs.1.rel (o := HO.own x) hdx
  have hx1 : upd H dx (.own x) x = none := by rw [upd_ne (fun z => hne z.symm)]; exact hx
  have e2 := R1.xown (o := HO.ins C dx []) (u := .ins C [] []) hx1
  have R2 := R1.own (o := HO.ins C dx []) (u := .ins C [] []) hx1 ⟨dx, [], upd_same, rfl, rfl⟩
  have e := e1.trans e2
  refine ⟨.ref x :: xs, _, F, _, Xd, R2, ⟨_, _, rfl, rfl, DVs.ext hs.1.rel e _ _ hv⟩, hw x (hs.1.mfree hx), fun v H' d M' e' r' dv q => ?_, fun cls dc H' z M' e' r' dv q => l2 cls dc H' z M' (e.trans e') r' dv q⟩
  obtain ⟨q1, d2, M2, fz, q⟩ := q
  subst q1
  exact ⟨dv, l1 (.ref x) H' d2 M2 ((e.trans e').down (sub_none fz.sub)) (r'.sub fz.sub) (fz.dv _ _ _ _ r' rfl) q⟩
theorem j_make (Z : Mk X.K C fI) (F : FnJ X.prog X.w X.K X.mg X.base k fI sp) (hr : Room j X.A) (hkj : k + 1 ≤ j) (hm : X.mg x = some (.ref C)) (tk : Takes X W) (ha : JA X W (e :: es) wa) (hg : Gl X x := by rfl)
    (hdb : (x == ("__debug__" : Str)) = false := by decide) (he : starEach (e :: es) X.env = (false, eval e X.env) :: starEach es X.env := by rfl) (hpl : (backTo pos (starEach es X.env)).any (·.1) = false := by rfl) :
    JE X W (.Call (.Name x p) (e :: es) [] pos) (wMake C sp wa) := by
  obtain ⟨fd, ps, h1, h2⟩ := F.ex
  refine ⟨fun pins s σ H Q I h => wpAny_Call_Name_kw (ld_glob I hg hm ?_ hdb)⟩
  have hh : liftA X.K W wa σ H (fun vs H1 => ∀ x dx, H1 x = none → H1 dx = none → dx ≠ x → liftSp X.K sp (.ref x :: vs) (upd (upd H1 dx (.own x)) x (.ins C dx [])) (fun v H2 => v = .non ∧ Q (.ref x) H2) (L2.WE W σ)) :=
    bindA (wa := wa) (f := fun xs _ M Q Xc => ∀ a, M a = none → sp (.ref a :: xs) (mput M a (.ins C [] [])) (fun d M2 => d = .non ∧ Fin Q (.ref a) M2) Xc) h fun vs xs H1 h => mk_lift (by rw [List.append_nil, List.append_nil] at h; exact h)
  refine PySem.W.callWith_K (h₀ := X.base) I.ok.mod.kin Z.kp (thn (ha.run pos pins s σ H _ I hh) ?_) he hpl
  rintro us s1 ⟨vs, H1, I1, r, q⟩
  exact ⟨I1.kIn, run_mk Z h1 (hr.mono hkj) h2 (passAt tk σ) I1 r q⟩
/-- C.f, a constant of the class -/
theorem j_cval {mc u : Value} {v : V} {d : D} (he : JE X W o we) (r : ClX.CRead X.K C mc) (c : ClX.CVal X.K C mc f v u) (rd : ∀ H M, DV X.K H M d v) (hb : attributeBase o f X.env (eval o X.env) = eval o X.env := by rfl) :
    JE X W (.Attribute o f pos) (fun ds M Q Xc => we ds M (fun z M1 => z = .ref C ∧ Q d M1) Xc) :=
  pe_mono (ClX.pe_cval he hb) fun σ H Q h => bindE (wa := we) (f := fun z _ M Q _ => z = .ref C ∧ Q d M) h fun x z H1 h => by
    obtain ⟨ds, M, Fr, Qd, Xd, hs, hv, hw, l1, l2⟩ := h
    obtain ⟨_, _, e1, g1, _⟩ := hv
    cases e1
    obtain ⟨e2, hw⟩ := hw
    subst e2
    exact ⟨C, mc, v, u, g1, r, c, l1 v H1 d M Ext.rfl' hs.1 (rd _ _) hw⟩
end
end DL
namespace DL
open PySem PySem.Spec PyProof.Rows L2 RZ

theorem tkF {X : Cx} : Takes X WF := takes0
theorem bo_len : bootBuiltins "len" = some (.builtin "len") := by decide +kernel
theorem bo_isinstance : bootBuiltins "isinstance" = some (.builtin "isinstance") := by decide +kernel
theorem bo_all : bootBuiltins "all" = some (.builtin "all") := by decide +kernel
theorem bo_any : bootBuiltins "any" = some (.builtin "any") := by decide +kernel
theorem bo_int : bootBuiltins "int" = some (.type "int") := by decide +kernel
theorem bo_str : bootBuiltins "str" = some (.type "str") := by decide +kernel
theorem bo_bool : bootBuiltins "bool" = some (.type "bool") := by decide +kernel
theorem bo_list : bootBuiltins "list" = some (.type "list") := by decide +kernel
theorem bo_tuple : bootBuiltins "tuple" = some (.type "tuple") := by decide +kernel
theorem bo_dict : bootBuiltins "dict" = some (.type "dict") := by decide +kernel

/-! ### isinstance(x, (A, B, ..)) -/
def wIsT (cs : List String) (we : WE) : WE := fun ds M Q Xc => we ds M (fun d M1 => cs.all (fun c => ["bool", "int", "str", "tuple", "list", "dict"].contains c) = true ∧ optK (tyN M1 d) fun n => Q (.bl (cs.any (isB n))) M1) Xc
section
variable {X : Cx} {W : WX} {e : Expr} {es : List Expr} {we : WE} {p pos p2 : Pos} {cs : List String} {k2 : Nat}
theorem pcs_nil : PA X [] (fun _ H Q => Q (([] : List String).map V.ty) H) := pa_nil
theorem pcs_cons {n : String} (h : PE X e (tC (.ty n))) (hr : PA X es (fun _ H Q => Q (cs.map V.ty) H)) (hs : starEach (e :: es) X.env = (false, eval e X.env) :: starEach es X.env := by rfl) : PA X (e :: es) (fun _ H Q => Q ((n :: cs).map V.ty) H) := pa_cons h hr hs
theorem kit_any {K : PySem.W.Frag} {n : String} (hn : n ∈ ["NoneType", "bool", "int", "str", "tuple", "list", "dict"]) : ∀ cs : List String, cs.all (fun c => ["bool", "int", "str", "tuple", "list", "dict"].contains c) = true → PySem.W.kitAny K (.type n) (cs.map Value.type) = some (cs.any (isB n))
  | [], _ => rfl
  | c :: cs, h => by
    rw [List.all_cons, Bool.and_eq_true] at h
    have hc : c ∈ ["bool", "int", "str", "tuple", "list", "dict"] := List.contains_iff_mem.mp h.1
    rw [List.map_cons, List.any_cons]
    refine kitAny_cons (b := isB n c) (kit_ty (isB_ok n hn c hc)) (fun e => ?_) (fun e => ?_)
    · rw [e, kit_any hn cs h.2, Bool.false_or]
    · rw [e, Bool.true_or]
theorem paired_cls : ∀ cs : List String, Paired ClsV (cs.map V.ty) (cs.map Value.type)
  | [] => .nil
  | c :: cs => .cons (.ty c) (paired_cls cs)
theorem j_isiT (hm : X.mg "isinstance" = none) (he : JE X W e we) (ht : PA X es (fun _ H Q => Q (cs.map V.ty) H)) (hl : cs.length ≤ 1000 := by decide) (hg : Gl X "isinstance" := by rfl)
    (h1 : starEach [e, .Tuple es k2 p2] X.env = (false, eval e X.env) :: starEach [.Tuple es k2 p2] X.env := by rfl) (h2 : starEach [.Tuple es k2 p2] X.env = (false, eval (.Tuple es k2 p2) X.env) :: starEach [] X.env := by rfl) (hpl : (backTo pos (starEach [.Tuple es k2 p2] X.env)).any (·.1) = false := by rfl) :
    JE X W (.Call (.Name "isinstance" p) [e, .Tuple es k2 p2] [] pos) (wIsT cs we) :=
  pe_mono (pe_callB call_isiT hg hm bo_isinstance (pa_cons he (pa_cons (pe_tup ht) pa_nil h2) h1) (by decide) (by decide) h1 hpl) fun σ H Q h =>
    bindE (wa := we) (f := fun d _ M Q _ => cs.all (fun c => ["bool", "int", "str", "tuple", "list", "dict"].contains c) = true ∧ optK (tyN M d) fun n => Q (D.bl (cs.any (isB n))) M) h fun v d H1 h => by
      obtain ⟨ds, M, F, Qd, Xd, hs, hv, hw, l1, l2⟩ := h
      obtain ⟨_, _, e1, g1, _⟩ := hv
      cases e1
      obtain ⟨hc, hw⟩ := hw
      obtain ⟨n, hn, q⟩ := optK_of hw
      refine ⟨by rw [List.length_map]; exact Nat.le_trans hl (by decide), fun tp htp => ?_⟩
      have x := new_ext hs.1.rel (o := HO.tup (cs.map V.ty)) htp
      have R := hs.1.new (o := HO.tup (cs.map V.ty)) htp
      obtain ⟨t, hn2⟩ := tyN_ok R hn (DV.ext hs.1.rel x _ _ g1)
      exact ⟨v, tp, _, .type n, _, cs.any (isB n), rfl, upd_same, paired_cls cs, t, kit_any hn2 cs hc, l1 (.bl _) _ (.bl _) M x R rfl q⟩
end

/-! ### a, b = x, y with plain local names -/
def wPar (i j : Nat) (wa : WA) : WS := fun E ds M => wa ds M (fun es M1 => match es with | [d, e] => E.nx ((ds.set i (some d)).set j (some e)) M1 | _ => False) (E.xc ds)
section
variable {X : Cx} {W : WX}
theorem js_par {i j : Nat} {x y : Str} {a b : Expr} {wa : WA} {px py pt pos : Pos} {kt k2 pt2} (hc : X.calm = true) (hN : X.N.Nodup) (ha : JA X W [a, b] wa) (hij : i ≠ j := by decide) (hi : X.N[i]? = some x := by rfl) (hj : X.N[j]? = some y := by rfl)
    (hx : X.env.scope.names.lookup x = some .local := by rfl) (hy : X.env.scope.names.lookup y = some .local := by rfl)
    (hw : swappedStores [.Tuple [.Name x px, .Name y py] kt pt] (.Tuple [a, b] k2 pt2) X.env = pure (some [x, y]) := by rfl)
    (hs : swapsWithSole [.Tuple [.Name x px, .Name y py] kt pt] (.Tuple [a, b] k2 pt2) pos.line X.env = pure false := by rfl) :
    JS X W (.Assign [.Tuple [.Name x px, .Name y py] kt pt] (.Tuple [a, b] k2 pt2) pos) (wPar i j wa) :=
  ps_mono (ps_par hc hN hi hj hij hx hy ha hw hs) fun D' σ H h => by
    obtain ⟨ds, M, F, E, hs, hv, hw, l⟩ := h
    refine ⟨ds, M, F, _, E.xc ds, hs, rfl, hw, fun vs H' es M' e r dv q => ?_, fun cls dc H' x M' e r dv q => l.ex cls dc σ H' x ds M' e (hs.ext e r) dv q⟩
    dsimp only at q
    split at q
    · obtain ⟨v, u, e1, g1, g2⟩ := dv2 dv
      subst e1
      exact ⟨v, u, rfl, l.nx _ H' _ M' e ⟨r, Sl.set (Sl.set (hs.ext e r).2 g1) g2⟩ q⟩
    · exact q.elim
end

/-! ### xs * n; join -/
def rRepD : RD2 := fun d e M Q => match d, e with
  | .lst xs, .int k => -(2 ^ 63) ≤ k ∧ k < 2 ^ 63 ∧ xs.length * k.toNat ≤ sizeLine ∧ Q (.lst (List.replicate k.toNat xs).flatten) M
  | _, _ => False
def strsD : List D → Option (List Str)
  | [] => some []
  | .str x :: ds => (strsD ds).map (x :: ·)
  | _ => none
def rJoinD (d : D) (ds : List D) (M : Mem) (Q : KN) : Prop := match d, ds with
  | .str a, [.lst xs] => optK (strsD xs) fun ys => (ys.map (·.length)).sum + ys.length * a.length ≤ 16777216 ∧ Q (.str (Txt.join a ys)) M
  | _, _ => False
theorem strsD_map {α : Type} (f : α → Str) : ∀ xs : List α, strsD (xs.map fun x => D.str (f x)) = some (xs.map f)
  | [] => rfl
  | x :: xs => by
    show (strsD (xs.map fun x => D.str (f x))).map (f x :: ·) = _
    rw [strsD_map f xs]
    rfl
theorem DVs.rep {K : PySem.W.Frag} {H : Hp} {M : Mem} {ds : List D} {xs : List V} (h : DVs K H M ds xs) : ∀ n : Nat, DVs K H M (List.replicate n ds).flatten (List.replicate n xs).flatten
  | 0 => rfl
  | n + 1 => by
    rw [List.replicate_succ, List.replicate_succ, List.flatten_cons, List.flatten_cons]
    exact DVs.app h (DVs.rep h n)
theorem DVs.strs {K : PySem.W.Frag} {H : Hp} {M : Mem} : ∀ {ds : List D} {ys : List Str} {xs : List V}, strsD ds = some ys → DVs K H M ds xs → xs = ys.map V.str
  | [], ys, xs, h, g => by
    cases h
    exact g
  | d :: ds, ys, xs, h, g => by
    obtain ⟨y, zs, e, g1, g2⟩ := g
    subst e
    cases d <;> first | cases h | skip
    rename_i b
    cases (show y = .str b from g1)
    have h' : (strsD ds).map (b :: ·) = some ys := h
    cases q : strsD ds with
    | none =>
      rw [q] at h'
      cases h'
    | some cs =>
      rw [q] at h'
      cases h'
      rw [DVs.strs q g2]
      rfl
section
variable {X : Cx}
theorem od_rep : OpR X (binaryOp .Mult) (liftV2 X.K rRepD) := by
  intro pins s σ H x y v u Q I rx ry hh
  obtain ⟨d, e, M, F, Qd, R, h1, h2, h3, l⟩ := hh
  unfold rRepD at h3
  split at h3
  · rename_i xs k
    obtain ⟨a, ys, e1, g1, _, g2⟩ := h1
    subst e1
    cases (show y = .int k from h2)
    obtain ⟨q1, q2, q3, q⟩ := h3
    refine op_rep pins s σ H _ _ v u Q I rx ry ⟨a, k, ys, rfl, rfl, g1, q1, q2, by rw [g2.len]; exact q3, fun p hp => ?_⟩
    have e' := new_ext R.rel (o := HO.lst (List.replicate k.toNat ys).flatten) hp
    exact l _ _ (.lst (List.replicate k.toNat xs).flatten) M e' (R.new hp) ⟨p, _, rfl, upd_same, R.rel.free hp, DVs.ext R.rel e' _ _ (g2.rep _)⟩ q
  · exact h3.elim
theorem md_join : MtR X "str.join" (liftM X.K rJoinD) := by
  intro pins s σ H x xs v us Q I rx rs hh
  obtain ⟨d, ds, M, F, Qd, R, h1, h2, h3, l⟩ := hh
  unfold rJoinD at h3
  split at h3
  · rename_i a zs
    cases (show x = .str a from h1)
    obtain ⟨y, e, g⟩ := dv1 h2
    subst e
    obtain ⟨b, ws, e1, g1, _, g2⟩ := g
    subst e1
    obtain ⟨ys, q1, q2, q⟩ := optK_of h3
    have e2 := DVs.strs q1 g2
    subst e2
    exact mt_join pins s σ H _ _ v us Q I rx rs ⟨a, b, ys, rfl, rfl, .inl (SqL.of g1), q2, l (.str _) H (.str _) M Ext.rfl' R rfl q⟩
  · exact h3.elim
end
/-- an expression whose value is a list that was made here and is owned: from here on nobody changes it -/
def wFz (w : WE) : WE := fun ds M Q Xc => w ds M (Fin Q) Xc
theorem j_fz {X : Cx} {W : WX} {e : Expr} {w : WE} (h : JE X W e w) : JE X W e (wFz w) := pe_mono h fun σ H Q h => by
  obtain ⟨ds, M, F, Qd, Xd, hs, hv, hw, l1, l2⟩ := h
  refine ⟨ds, M, F, Fin Qd, Xd, hs, hv, hw, fun v H' d M' e r dv q => ?_, l2⟩
  obtain ⟨d2, M2, fz, q⟩ := q
  exact l1 v H' d2 M2 (e.down (sub_none fz.sub)) (r.sub fz.sub) (fz.dv _ _ _ _ r dv) q
end DL
/-! sets of whole numbers and texts: how many unlike items; constants of modules and classes; owned lists in == -/
namespace DL
open PySem PySem.Spec PyProof.Rows L2 RZ

def kIn (k : Key) (xs : List Key) : Bool := xs.any fun x => decide (k = x)
theorem kIn_iff {k : Key} {xs : List Key} : kIn k xs = true ↔ k ∈ xs := by
  unfold kIn
  rw [List.any_eq_true]
  constructor
  · rintro ⟨x, h, e⟩
    rw [of_decide_eq_true e]
    exact h
  · exact fun h => ⟨k, h, decide_eq_true rfl⟩
/-- the unlike ones of the first i -/
def metK (ks : List Key) : Nat → List Key
  | 0 => []
  | i + 1 => match ks[i]? with
    | some k => if kIn k (metK ks i) = true then metK ks i else metK ks i ++ [k]
    | none => metK ks i
theorem metK_le (ks : List Key) : ∀ i, (metK ks i).length ≤ i
  | 0 => Nat.le_refl 0
  | i + 1 => by
    have ih := metK_le ks i
    show (match ks[i]? with
      | some k => if kIn k (metK ks i) = true then metK ks i else metK ks i ++ [k]
      | none => metK ks i).length ≤ i + 1
    split
    · split
      · omega
      · rw [List.length_append, List.length_singleton]; omega
    · omega
theorem metK_some {ks : List Key} {i : Nat} {k : Key} (h : ks[i]? = some k) : metK ks (i + 1) = if kIn k (metK ks i) = true then metK ks i else metK ks i ++ [k] := by
  show (match ks[i]? with
      | some k => if kIn k (metK ks i) = true then metK ks i else metK ks i ++ [k]
      | none => metK ks i) = _
  rw [h]
theorem metK_mem (ks : List Key) (x : Key) : ∀ i, x ∈ metK ks i ↔ x ∈ ks.take i
  | 0 => by simp [metK]
  | i + 1 => by
    cases h : ks[i]? with
    | none =>
      have e : metK ks (i + 1) = metK ks i := by
        show (match ks[i]? with
          | some k => if kIn k (metK ks i) = true then metK ks i else metK ks i ++ [k]
          | none => metK ks i) = _
        rw [h]
      rw [e, metK_mem ks x i, List.take_add_one, h]
      simp
    | some k =>
      rw [metK_some h, List.take_add_one, h]
      have ih := metK_mem ks x i
      split
      · rename_i hm
        rw [ih]
        simp only [Option.toList_some, List.mem_append, List.mem_singleton]
        constructor
        · exact .inl
        · rintro (q | q)
          · exact q
          · rw [q]; exact (metK_mem ks k i).mp (kIn_iff.mp hm)
      · simp [ih]
/-- as many as there are items: all are unlike -/
theorem metK_nodup (ks : List Key) : ∀ i, i ≤ ks.length → ((metK ks i).length = i ↔ (ks.take i).Nodup)
  | 0, _ => by simp [metK]
  | i + 1, hi => by
    have hlt : i < ks.length := hi
    have h : ks[i]? = some ks[i] := List.getElem?_eq_getElem hlt
    have ih := metK_nodup ks i (Nat.le_of_lt hlt)
    have le := metK_le ks i
    rw [metK_some h, List.take_add_one, h, Option.toList_some, List.nodup_append]
    have hm := metK_mem ks ks[i] i
    split
    · rename_i hin
      constructor
      · intro q; omega
      · rintro ⟨_, _, q⟩
        exact absurd rfl (q _ (hm.mp (kIn_iff.mp hin)) _ (List.mem_singleton.mpr rfl))
    · rename_i hin
      rw [List.length_append, List.length_singleton]
      constructor
      · intro q
        refine ⟨ih.mp (by omega), by simp, fun a ha b hb e => ?_⟩
        rw [List.mem_singleton.mp hb] at e
        subst e
        exact hin (kIn_iff.mpr (hm.mpr ha))
      · rintro ⟨q, _⟩
        rw [ih.mpr q]
theorem setK_congr {prog : Program} {w : World} {h : Heap} {a : Addr} {S S' : Key → Bool} {n n' : Nat} (hS : h.SetOf (mixKind prog w) a S n) (e : ∀ k, S k = S' k) (en : n = n') : h.SetOf (mixKind prog w) a S' n' := by
  have q : S = S' := funext e
  subst q
  subst en
  exact hS
theorem keys_at {ks : List Key} {us : List Value} (h : Vals (ks.map kV) us) (i : Nat) (v : Value) (e : us[i]? = some v) : ∃ k, ks[i]? = some k ∧ RelV (kV k) v := by
  have hl : ks.length = us.length := by have q := h.length; rw [List.length_map] at q; exact q
  have hi : i < ks.length := by rw [hl]; exact (List.getElem?_eq_some_iff.mp e).1
  obtain ⟨u, hu, r⟩ := h.get (i := i) (x := kV ks[i]) (by simp [hi])
  rw [e] at hu
  cases hu
  exact ⟨ks[i], List.getElem?_eq_getElem hi, r⟩
/-! a new set is filled from what walks: by mixKind's own facts and the library's WalksS -/
section
variable {prog : Program} {w : World}
/-- i of the n keys are in -/
abbrev InK (prog : Program) (w : World) (h : Heap) (S : Addr) (ks : List Key) (i : Nat) : Prop := h.SetOf (mixKind prog w) S (fun x => kIn x (metK ks i)) (metK ks i).length
theorem InK.next {h : Heap} {S : Addr} {ks : List Key} {i : Nat} {y : Key} (hy : ks[i]? = some y)
    (g : h.SetOf (mixKind prog w) S (fun x => kIn x (metK ks i) || decide (x = y)) (if kIn y (metK ks i) = true then (metK ks i).length else (metK ks i).length + 1)) : InK prog w h S ks (i + 1) := by
  have e := metK_some hy
  by_cases hin : kIn y (metK ks i) = true
  · rw [if_pos hin] at e g
    refine setK_congr g (fun x => ?_) (by rw [e])
    rw [e]
    by_cases hx : x = y
    · rw [hx, hin, Bool.true_or]
    · rw [decide_eq_false hx, Bool.or_false]
  · rw [if_neg hin] at e g
    refine setK_congr g (fun x => ?_) (by rw [e, List.length_append, List.length_singleton])
    rw [e]
    unfold kIn
    rw [List.any_append, List.any_cons, List.any_nil, Bool.or_false]
theorem InK.moved {h h' : Heap} {S : Addr} {ks : List Key} {i : Nat} (g : InK prog w h S ks i) (m : ∀ o, h.get? S = some o → h'.get? S = some o) : InK prog w h' S ks i := setOf_at g m
theorem fill {A : Around} {R : Result → Shared → Prop} {I : Addr} {fp wr : List Addr} {G : Array GenState → Array GenState → Prop} {P : Nat → Value → Prop} {St : Nat → Shared → Prop} {ks : List Key} (S : Addr) (out : S ∉ fp) (few : ks.length + 1 < scanBound)
    (W : WalksS prog w A.in1 I fp wr G ks.length P St) (hP : ∀ i v, P i v → ∃ k, ks[i]? = some k ∧ RelV (kV k) v) : ∀ (left i : Nat) (s : Shared), i + left = ks.length → St i s → InK prog w s.heap S ks i →
      (∀ s', Moved (S :: wr) G s s' → InK prog w s'.heap S ks ks.length → R (.ok (.ret .none)) s') → codeAny (model prog w) A (.builtin "set.update.loop" ⟨[.ref S, .ref I], []⟩) R s
  | 0, i, s, hi, st, g, k => by
    obtain rfl : i = ks.length := hi
    refine codeAny_builtin PyProof.Rows.F.entry_set_update_loop (by
      rw [Around.under_plainId PyProof.Rows.F.plain_set_update_loop _]
      exact wpAny_bind (m := pyNext (.ref I)) (W.done s _ _ st fun s' m => wpAny_pure (k s' (m.mono fun b hb => List.mem_cons_of_mem _ hb) (g.moved fun o e => m.heap S o (fun h => out (W.sub _ h)) e))))
  | left + 1, i, s, hi, st, g, k => by
    refine codeAny_builtin PyProof.Rows.F.entry_set_update_loop (by
      rw [Around.under_plainId PyProof.Rows.F.plain_set_update_loop _]
      refine wpAny_bind (m := pyNext (.ref I)) (W.item i s _ _ (by omega) st fun v s1 hv st1 m => ?_)
      obtain ⟨y, hy, ry⟩ := hP i v hv
      have g1 := g.moved fun o e => m.heap S o (fun h => out (W.sub _ h)) e
      refine wpAny_bind (m := holding [v] (setAdd S v)) (wpAny_holding ?_)
      unfold setAdd
      refine wpAny_holding (wpAny_bind ((mixKind prog w).pyHash (k := y) (kV_is ry) ?_))
      refine wpAny_setAddHashed_of (s := { s1 with toks := s1.toks + 1 }) (knd := mixKind prog w) (kV_is ry) (key_scan ry) g1 (by have := metK_le ks i; omega) fun h2 only g2 => wpAny_pure ⟨plainId_quiet PyProof.Rows.F.plain_set_update_loop _, ?_⟩
      refine fill S out few W hP left (i + 1) _ (by omega) (W.frame _ s1 _ _ st1 (Nat.le_add_right _ 1) fun b hb o e => ?_) (InK.next hy g2) fun s3 m3 g3 => k s3 ?_ g3
      · exact (only.2 b fun z => out (z ▸ hb)).trans e
      · refine Moved.trans W.gtrans (Moved.then_heap (m.mono fun b hb => List.mem_cons_of_mem _ hb) (Nat.le_add_right _ 1) fun b o hb e => ?_) m3
        exact (only.2 b fun z => hb (z ▸ List.mem_cons_self)).trans e)
/-- a set without items -/
abbrev eS (led : Bool) : Obj := { cls := .type "set", dict := none, data := .set #[] 0 (.fresh 0 0 led) }
/-- us stand at l, in a list or in a tuple -/
def Sq (h : Heap) (l : Addr) (us : Array Value) : Prop := h.IsList l us ∨ h.IsTuple l us
theorem Sq.more {h : Heap} {l : Addr} {us : Array Value} (q : Sq h l us) (o : Obj) : Sq (h.push o) l us := q.imp (fun x => x.push o) fun x => x.push o
abbrev Full (prog : Program) (w : World) (ks : List Key) (S : Addr) (s : Shared) (r : Value) (s' : Shared) : Prop :=
  r = .none ∧ ∃ h' tk, s' = { s with heap := h', toks := tk } ∧ InK prog w h' S ks ks.length ∧ ∀ b o, b ≠ S → s.heap.get? b = some o → h'.get? b = some o
/-- the walk's iterator stands at the heap's end; the set is filled through it -/
theorem fill_new {A : Around} {s : Shared} {S l I : Addr} {ks : List Key} {led : Bool} {it : Obj} {P : Nat → Value → Prop} {St : Nat → Shared → Prop} {G : Array GenState → Array GenState → Prop}
    (hI : I = s.heap.objs.size) (hS : s.heap.get? S = some (eS led)) (hl : l < s.heap.objs.size) (ne : S ≠ l) (few : ks.length + 1 < scanBound) (W : WalksS prog w A.in1 I [I, l] [I] G ks.length P St) (hP : ∀ i v, P i v → ∃ k, ks[i]? = some k ∧ RelV (kV k) v)
    (hG : ∀ s' : Shared, Moved [S, I] G { s with heap := s.heap.push it } s' → s'.gens = s.gens ∧ s'.drawn = s.drawn ∧ s'.os = s.os) (st : St 0 { s with heap := s.heap.push it }) {R : Result → Shared → Prop} (k : ∀ s', Full prog w ks S s .none s' → R (.ok (.ret .none)) s') :
    codeAny (model prog w) A (.builtin "set.update.loop" ⟨[.ref S, .ref I], []⟩) R { s with heap := s.heap.push it } := by
  have lS := Heap.lt_size hS
  have z : (s.heap.push it).get? S = some (eS led) := Heap.get?_push_of_some _ hS
  refine fill S (by subst hI; simp only [List.mem_cons, List.not_mem_nil, or_false, not_or]; exact ⟨Nat.ne_of_lt lS, ne⟩) few W hP ks.length 0 _ (Nat.zero_add _) st
    ⟨_, #[], 0, _, z, ⟨rfl, rfl, rfl⟩, rfl, fun e he => absurd he (by simp), fun x => by simp [kIn, metK], by decide, rfl, rfl⟩ fun s' m g => k s' ⟨rfl, s'.heap, s'.toks, ?_, g, fun b o hb e => ?_⟩
  · obtain ⟨e1, e2, e3⟩ := hG s' m
    cases s'
    cases e1
    cases e2
    cases e3
    rfl
  · have lb := Heap.lt_size e
    refine m.heap b o ?_ (Heap.get?_push_of_some _ e)
    subst hI
    simp only [List.mem_cons, List.not_mem_nil, or_false, not_or]
    exact ⟨hb, Nat.ne_of_lt lb⟩
end
section
variable {prog : Program} {w : World} {A : Around} {E : Value → Shared → Prop} {s : Shared} {S l : Addr} {us : Array Value} {ks : List Key} {led : Bool}
set_option maxHeartbeats 3200000 in
theorem init_sq (free : A.handled = none) (hS : s.heap.get? S = some (eS led)) (hl : Sq s.heap l us) (ne : S ≠ l) (hks : Vals (ks.map kV) us.toList) (few : ks.length + 1 < scanBound) :
    codeAny (model prog w) A (.call (.builtin "set.__init__") ⟨[.ref S, .ref l], []⟩) (wants (Full prog w ks S s) E) s := by
  have n : ks.length = us.size := by
    have q := hks.length
    rwa [List.length_map, Array.length_toList] at q
  have hP : ∀ (i : Nat) (v : Value), us[i]? = some v → ∃ k, ks[i]? = some k ∧ RelV (kV k) v := fun i v e => keys_at hks i v (by rw [Array.getElem?_toList]; exact e)
  have f3 : A.in1.in1.handled = none := free
  have notD : (Value.type "list" == Value.type "dict") = false := by decide
  have notT : (Value.type "tuple" == Value.type "dict") = false := by decide
  refine codeAny_call_builtin PySem.F.called_set.init.plain PySem.F.entry_set_init (check_set_init_1 ⟨_, hS, rfl⟩ ?_)
  rcases hl with hl | hl
  · have hl' := hl
    obtain ⟨⟨c1, c2, c3, c4⟩, a1, a2, k1, a3⟩ := hl'
    cases a2
    cases a3
    have n1 := PySem.F.sub_list_set
    have n2 := PySem.F.sub_list_frozenset
    unfold Builtin.«set.__init__» noKeywords Builtin.Frozenset.updateFrom
    generalize hp : pyIter = next
    wp_walk
    subst hp
    have lt := Heap.lt_size a1
    have W := (Walks.list (prog := prog) (w := w) f3 s.heap.objs.size l (Nat.ne_of_lt lt) us).toS
    rw [← n] at W
    refine wpAny_pyIter_list hl (wpAny_bind (wpAny_runValue ?_))
    refine fill_new (led := led) (G := fun a b => b = a) rfl hS lt ne few W hP (fun s' m => ⟨m.gens, m.drawn, m.os⟩) ⟨⟨_, Heap.get?_push_size _ rfl, rfl, rfl⟩, hl.push _⟩ fun s' fin => ?_
    exact wpAny_pure (wpAny_pure fin)
  · have hl' := hl
    obtain ⟨⟨c1, c2, c3, c4⟩, a1, a2, k1, a3⟩ := hl'
    cases a2
    cases a3
    have n1 := PySem.F.sub_tuple_set
    have n2 := PySem.F.sub_tuple_frozenset
    unfold Builtin.«set.__init__» noKeywords Builtin.Frozenset.updateFrom
    generalize hp : pyIter = next
    wp_walk
    subst hp
    have lt := Heap.lt_size a1
    have W := (Walks.tuple (prog := prog) (w := w) f3 s.heap.objs.size l (Nat.ne_of_lt lt) us).toS
    rw [← n] at W
    refine wpAny_pyIter_tuple hl (wpAny_bind (wpAny_runValue ?_))
    refine fill_new (led := led) (G := fun a b => b = a) rfl hS lt ne few W hP (fun s' m => ⟨m.gens, m.drawn, m.os⟩) ⟨⟨_, Heap.get?_push_size _ rfl, rfl, rfl⟩, hl.push _⟩ fun s' fin => ?_
    exact wpAny_pure (wpAny_pure fin)
set_option maxHeartbeats 3200000 in
/-- set(xs), xs a list or a tuple of keys -/
theorem set_sq {Q : Value → Shared → Prop} (free : A.handled = none) (hl : Sq s.heap l us) (hks : Vals (ks.map kV) us.toList) (few : ks.length + 1 < scanBound)
    (q : ∀ (h' : Heap) (tk : Nat), InK prog w h' s.heap.objs.size ks ks.length → (∀ b o, b < s.heap.objs.size → s.heap.get? b = some o → h'.get? b = some o) → Q (.ref s.heap.objs.size) { s with heap := h', toks := tk }) :
    wpAny (model prog w) A (call (.type "set") [.ref l]) Q E s := by
  have lt : l < s.heap.objs.size := by
    rcases hl with ⟨o, e, _⟩ | ⟨o, e, _⟩ <;> exact Heap.lt_size e
  obtain ⟨_, _, order⟩ := PySem.F.called_set.mro
  have t1 := PySem.F.called_set.made
  have t2 := PySem.F.called_set.sub
  have t3 := PySem.F.called_set.notType
  have t4 := PySem.F.called_set.canCreate
  have t5 := PySem.F.typeCall_set_1 (.ref l)
  refine wpAny_call (codeAny_of_tree (wpAny_pure ⟨Code.quiet_builtin _ (by decide +kernel), codeAny_builtin PySem.F.entry_type_call ?_⟩))
  rw [Around.under_plain (weight_type_call_type "set" [.ref l] []) rfl]
  repeat any_goals first | assumption | wp_step
  refine codeAny_mono (code_set_new_1 (.ref l) (E := E) (Q₁ := fun x s1 => x = .ref s.heap.objs.size ∧ ∃ led, s1 = { s with heap := s.heap.push (eS led) }) fun led => ⟨rfl, led, rfl⟩) fun res s1 made => ?_
  rcases res with e | fl
  · exact made
  · cases fl <;> first | exact made.elim | skip
    obtain ⟨e1, led, e2⟩ := made
    cases e1
    cases e2
    have here : (s.heap.push (eS led)).get? s.heap.objs.size = some (eS led) := Heap.get?_push_size _ rfl
    have isS : Shared.TypeIs { s with heap := s.heap.push (eS led) } (.ref s.heap.objs.size) "set" := ⟨_, here, rfl⟩
    have t6 := PySem.F.called_set.init.lookup
    have t7 := PySem.F.called_set.init.bind (.ref s.heap.objs.size)
    repeat any_goals first | assumption | wp_step
    refine codeAny_mono (init_sq (E := E) (led := led) free here (hl.more _) (Nat.ne_of_gt lt) hks few) fun res s2 fin => ?_
    rcases res with e | fl
    · exact fin
    · cases fl <;> first | exact fin.elim | skip
      obtain ⟨e1, h', tk, e2, g, keep⟩ := fin
      cases e1
      cases e2
      repeat any_goals first | assumption | wp_step
      exact q h' tk g fun b o hb e => keep b o (Nat.ne_of_lt hb) (Heap.get?_push_of_some _ e)
end
def keyD : D → Option Key
  | .int i => some (.inl i)
  | .str x => some (.inr x)
  | _ => none
def keysD : List D → Option (List Key)
  | [] => some []
  | d :: ds => match keyD d with
    | some k => (keysD ds).map (k :: ·)
    | none => none
theorem keysD_ok {K : PySem.W.Frag} {H : Hp} {M : Mem} : ∀ {ds : List D} {ks : List Key} {xs : List V}, keysD ds = some ks → DVs K H M ds xs → xs = ks.map kV
  | [], ks, xs, h, g => by
    cases h
    exact g
  | d :: ds, ks, xs, h, g => by
    obtain ⟨y, ys, e, g1, g2⟩ := g
    subst e
    unfold keysD at h
    split at h
    · rename_i k hk
      cases q : keysD ds with
      | none => rw [q] at h; cases h
      | some js =>
        rw [q] at h
        cases h
        rw [keysD_ok q g2, List.map_cons]
        have e : y = kV k := by
          cases d <;> first | cases hk; exact g1 | cases hk
        rw [e]
    · cases h
/-- len(set(xs)) -/
def wLenSet (we : WE) : WE := fun ds M Q Xc => we ds M (fun d M1 => optK (seqOf M1 d) fun xs => optK (keysD xs) fun ks => ks.length < 4000 ∧ Q (.int (metK ks ks.length).length) M1) Xc
section
variable {X : Cx} {W : WX}
theorem j_lenSet {a : Expr} {we : WE} {p p2 q pos : Pos} (hc : X.calm = true) (hm : X.mg "len" = none) (hm2 : X.mg "set" = none) (ha : JE X W a we) (hg : Gl X "len" := by rfl) (hg2 : Gl X "set" := by rfl)
    (na : starEach [a] X.env = (false, eval a X.env) :: starEach [] X.env := by rfl) : JE X W (.Call (.Name "len" p) [.Call (.Name "set" p2) [a] [] q] [] pos) (wLenSet we) := by
  refine ⟨fun pins s σ H Q I h => ?_⟩
  refine Call_ (ld_blt I hg hm boot_len ?_)
  refine PyProof.Rows.callWith_builtin1 (PyProof.Rows.args_cons ?_ rfl) rfl rfl
  refine Call_ (ld_blt I hg2 hm2 boot_set ?_)
  have hh := bindE (R := fun v H1 => ∃ l ks, v = V.ref l ∧ (SqL X.K H1 l (ks.map kV) ∨ SqT X.K H1 l (ks.map kV)) ∧ ks.length < 4000 ∧ Q (.int (metK ks ks.length).length) H1) (wa := we) (f := fun d _ M Q _ => optK (seqOf M d) fun xs => optK (keysD xs) fun ks => ks.length < 4000 ∧ Q (D.int (metK ks ks.length).length) M) h fun v d H1 h => by
    obtain ⟨ds, M, F, Qd, Xd, hs, hv, hw, l1, l2⟩ := h
    obtain ⟨_, _, e1, g1, _⟩ := hv
    cases e1
    obtain ⟨xs, e2, hw⟩ := optK_of hw
    obtain ⟨ks, e3, hl, q⟩ := optK_of hw
    obtain ⟨l, ys, e4, sq, dv⟩ := seqOf_ok hs.1 e2 g1
    have e5 := keysD_ok e3 dv
    subst e5
    exact ⟨l, ks, e4, sq, hl, l1 (.int _) H1 (.int _) M Ext.rfl' hs.1 rfl q⟩
  refine PyProof.Rows.callWith_type1 (PyProof.Rows.args_cons (thn (ha.run pins s σ H _ I hh) fun v s1 ⟨x, H1, I1, r1, q1⟩ => PyProof.Rows.args_nil ?_) na) na rfl
  obtain ⟨l, ks, rfl, hq, h1, q1⟩ := q1
  cases r1
  have go : ∀ its : List Value, Vals (ks.map kV) its → Sq s1.heap l its.toArray → wpAny (model X.prog X.w) X.A (call (.type "set") [.ref l]) (fun v s₂ => wpAny (model X.prog X.w) X.A (spliced (backTo pos (starEach [] X.env))) (fun vs s₃ => wpAny (model X.prog X.w) X.A (call (.builtin "len") (v :: vs)) (EP X pins σ Q) X.xe s₃) X.xe s₂) X.xe s1 := fun its r at_ => by
    refine set_sq (I1.ok.hd hc) at_ (by simpa using r) (by unfold scanBound; omega) fun h' tk g keep => PyProof.Rows.args_nil ?_
    obtain ⟨o, es, ep, t, g1, g2, g3, _, _, _, g4, g5⟩ := g
    have le := metK_le ks ks.length
    refine call_len_set g1 g2 g3 g4 (by rw [g5]; omega) ⟨.int (metK ks ks.length).length, H1, (I1.kept fun b o e => keep b o (Heap.lt_size e) e).tok _, ⟨_, by rw [g5]⟩, q1⟩
  rcases hq with hq | hq
  · obtain ⟨its, r, at_, _⟩ := I1.list hq
    exact go its r (.inl at_.isList)
  · obtain ⟨its, r, at_, _⟩ := I1.tuple hq
    exact go its r (.inr at_)
end

/-! ### constants of modules and classes; defs -/
structure GK (K : PySem.W.Frag) (mg : Str → Option Value) (x : Str) (d : D) : Prop where
  ex : ∃ u v, mg x = some u ∧ RelV v u ∧ ∀ H M, DV K H M d v
theorem j_k {X : Cx} {W : WX} {x : Str} {d : D} {pos : Pos} (h : GK X.K X.mg x d) (hg : Gl X x := by rfl) (hd : (x == ("__debug__" : Str)) = false := by decide) : JE X W (.Name x pos) (wC d) := by
  obtain ⟨u, v, h1, h2, h3⟩ := h.ex
  exact j_glob h1 h2 h3 hg hd
structure DefAt (K : PySem.W.Frag) (x qual : Str) (st : Stmt) (ps : List Str) (f : Addr) : Prop where
  ex : ∃ fd, Fun K x qual st f fd ∧ Binds K fd ps []
structure CVk (K : PySem.W.Frag) (C : Addr) (f : Str) (d : D) : Prop where
  ex : ∃ mc v u, ClX.CRead K C mc ∧ ClX.CVal K C mc f v u ∧ ∀ H M, DV K H M d v
def wCv (C : Addr) (d : D) (we : WE) : WE := fun ds M Q Xc => we ds M (fun z M1 => z = .ref C ∧ Q d M1) Xc
theorem j_cv {X : Cx} {W : WX} {o : Expr} {f : Str} {pos : Pos} {we : WE} {C : Addr} {d : D} (c : CVk X.K C f d) (he : JE X W o we) (hb : attributeBase o f X.env (eval o X.env) = eval o X.env := by rfl) : JE X W (.Attribute o f pos) (wCv C d we) := by
  obtain ⟨mc, v, u, h1, h2, h3⟩ := c.ex
  exact j_cval he h1 h2 h3 hb
theorem FnJ.mkAt {P : Program} {w : World} {K : PySem.W.Frag} {mg : Str → Option Value} {base : Heap} {k : Nat} {x qual : Str} {st : Stmt} {f : Addr} {N ps : List Str} {sp : SpD} {wb : WS}
    (F : DefAt K x qual st ps f) (S : FnScope N ps (defScope st))
    (body : ∀ (cdv : Value) (A : Around) (outer : List Env) (s : Shared) (H : Hp) (E : XK), Room k (A.deeper (envOfC qual (defScope st) s.heap.objs.size f cdv)) →
      Takes (cxOf (L2.CX P w) P w K mg base N qual (defScope st) f cdv A outer s H E) (WD E) →
      JSs (cxOf (L2.CX P w) P w K mg base N qual (defScope st) f cdv A outer s H E) (WD E) (defBody st) wb)
    (h : ∀ ds M Q Xc, sp ds M Q Xc → ds.length = ps.length ∧ wb { nx := fun _ M => Fin Q .non M, rt := Fin Q, ex := fun x _ M => Xc x M } (startD N ds) M) : FnJ P w K mg base (k + 1) f sp := by
  obtain ⟨fd, h1, h2⟩ := F.ex
  exact FnJ.mk' h1 S h2 body h
/-- -x -/
def rNegD : RD1 := fun d M Q => match d with
  | .int i => Q (.int (-i)) M
  | _ => False
/-- what == sees of an owned list -/
def viw (M : Mem) : D → D
  | .ref a => match M a with
    | some (.lst xs) => .lst xs
    | _ => .ref a
  | d => d
def rEqVD (neg : Bool) : RD2 := fun d e M Q => Dat (viw M d) 60 ∧ Dat (viw M e) 60 ∧ Q (.bl (xor neg (deq (viw M d) (viw M e)))) M
section
variable {X : Cx}
theorem ud_neg : UnR X (unaryOp .USub) (liftV1 X.K rNegD) := by
  intro pins s σ H x v Q I rx hh
  obtain ⟨d, M, F, Qd, R, h1, h3, l⟩ := hh
  cases d <;> first | exact h3.elim | skip
  rename_i i
  cases (show x = .int i from h1)
  exact un_neg pins s σ H _ v Q I rx ⟨i, rfl, l (.int (-i)) H (.int (-i)) M Ext.rfl' R rfl h3⟩
theorem viw_dp {K : PySem.W.Frag} {H : Hp} {M F : Mem} {d : D} {n : Nat} {x : V} (R : Rm K H M F) (h : Dat (viw M d) n) (g : DV K H (uni M F) d x) : Dp K H x (toPy (viw M d)) := by
  have other : viw M d = d → Dp K H x (toPy (viw M d)) := fun e => by
    rw [e] at h ⊢
    exact h.dp g
  cases d with
  | ref a =>
    cases e : M a with
    | none => exact other (by unfold viw; simp only [e])
    | some o =>
      cases o with
      | lst xs =>
        have e2 : viw M (.ref a) = .lst xs := by unfold viw; simp only [e]
        rw [e2] at h ⊢
        obtain ⟨ys, h1, h2⟩ := R.get e
        cases (show x = .ref a from g)
        exact .lst (SqL.of h1) (Dats.dp h.2 h2)
      | dct _ _ => exact other (by unfold viw; simp only [e])
      | ins _ _ _ => exact other (by unfold viw; simp only [e])
      | tab _ => exact other (by unfold viw; simp only [e])
  | _ => exact other rfl
theorem od_eqV (hu : X.A.units + 64 < cLine) : OpR X (compareOp .Eq) (liftV2 X.K (rEqVD false)) := by
  intro pins s σ H x y v u Q I rx ry hh
  obtain ⟨d, e, M, F, Qd, R, h1, h2, ⟨p1, p2, q⟩, l⟩ := hh
  exact op_eqD hu pins s σ H x y v u Q I rx ry ⟨_, _, viw_dp R p1 h1, viw_dp R p2 h2, p1.shaped (by decide), p2.shaped (by decide), l _ H (.bl _) M Ext.rfl' R rfl (by rw [Bool.false_xor] at q; exact q)⟩
theorem od_neV (hu : X.A.units + 64 < cLine) : OpR X (compareOp .NotEq) (liftV2 X.K (rEqVD true)) := by
  intro pins s σ H x y v u Q I rx ry hh
  obtain ⟨d, e, M, F, Qd, R, h1, h2, ⟨p1, p2, q⟩, l⟩ := hh
  exact op_neD hu pins s σ H x y v u Q I rx ry ⟨_, _, viw_dp R p1 h1, viw_dp R p2 h2, p1.shaped (by decide), p2.shaped (by decide), l _ H (.bl _) M Ext.rfl' R rfl (by rw [Bool.true_xor] at q; exact q)⟩
end
end DL
/-! type tests decided; inductions over comprehensions and loops; freezing -/
namespace DL
open PySem PySem.Spec PyProof.Rows L2 RZ
theorem isB_NoneType_bool : isB "NoneType" "bool" = false := by decide
theorem isB_NoneType_int : isB "NoneType" "int" = false := by decide
theorem isB_NoneType_str : isB "NoneType" "str" = false := by decide
theorem isB_NoneType_tuple : isB "NoneType" "tuple" = false := by decide
theorem isB_NoneType_list : isB "NoneType" "list" = false := by decide
theorem isB_NoneType_dict : isB "NoneType" "dict" = false := by decide
theorem isB_bool_bool : isB "bool" "bool" = true := by decide
theorem isB_bool_int : isB "bool" "int" = true := by decide
theorem isB_bool_str : isB "bool" "str" = false := by decide
theorem isB_bool_tuple : isB "bool" "tuple" = false := by decide
theorem isB_bool_list : isB "bool" "list" = false := by decide
theorem isB_bool_dict : isB "bool" "dict" = false := by decide
theorem isB_int_bool : isB "int" "bool" = false := by decide
theorem isB_int_int : isB "int" "int" = true := by decide
theorem isB_int_str : isB "int" "str" = false := by decide
theorem isB_int_tuple : isB "int" "tuple" = false := by decide
theorem isB_int_list : isB "int" "list" = false := by decide
theorem isB_int_dict : isB "int" "dict" = false := by decide
theorem isB_str_bool : isB "str" "bool" = false := by decide
theorem isB_str_int : isB "str" "int" = false := by decide
theorem isB_str_str : isB "str" "str" = true := by decide
theorem isB_str_tuple : isB "str" "tuple" = false := by decide
theorem isB_str_list : isB "str" "list" = false := by decide
theorem isB_str_dict : isB "str" "dict" = false := by decide
theorem isB_tuple_bool : isB "tuple" "bool" = false := by decide
theorem isB_tuple_int : isB "tuple" "int" = false := by decide
theorem isB_tuple_str : isB "tuple" "str" = false := by decide
theorem isB_tuple_tuple : isB "tuple" "tuple" = true := by decide
theorem isB_tuple_list : isB "tuple" "list" = false := by decide
theorem isB_tuple_dict : isB "tuple" "dict" = false := by decide
theorem isB_list_bool : isB "list" "bool" = false := by decide
theorem isB_list_int : isB "list" "int" = false := by decide
theorem isB_list_str : isB "list" "str" = false := by decide
theorem isB_list_tuple : isB "list" "tuple" = false := by decide
theorem isB_list_list : isB "list" "list" = true := by decide
theorem isB_list_dict : isB "list" "dict" = false := by decide
theorem isB_dict_bool : isB "dict" "bool" = false := by decide
theorem isB_dict_int : isB "dict" "int" = false := by decide
theorem isB_dict_str : isB "dict" "str" = false := by decide
theorem isB_dict_tuple : isB "dict" "tuple" = false := by decide
theorem isB_dict_list : isB "dict" "list" = false := by decide
theorem isB_dict_dict : isB "dict" "dict" = true := by decide
theorem isC_bool : ("bool" ∈ ["bool", "int", "str", "tuple", "list", "dict"]) = True := eq_true (by decide)
theorem isC_int : ("int" ∈ ["bool", "int", "str", "tuple", "list", "dict"]) = True := eq_true (by decide)
theorem isC_str : ("str" ∈ ["bool", "int", "str", "tuple", "list", "dict"]) = True := eq_true (by decide)
theorem isC_tuple : ("tuple" ∈ ["bool", "int", "str", "tuple", "list", "dict"]) = True := eq_true (by decide)
theorem isC_list : ("list" ∈ ["bool", "int", "str", "tuple", "list", "dict"]) = True := eq_true (by decide)
theorem isC_dict : ("dict" ∈ ["bool", "int", "str", "tuple", "list", "dict"]) = True := eq_true (by decide)
theorem isA_list_tuple : (["list", "tuple"].all (fun c => ["bool", "int", "str", "tuple", "list", "dict"].contains c)) = true := by decide
theorem isQ_NoneType : (["list", "tuple"].any (isB "NoneType")) = false := by decide
theorem isQ_bool : (["list", "tuple"].any (isB "bool")) = false := by decide
theorem isQ_int : (["list", "tuple"].any (isB "int")) = false := by decide
theorem isQ_str : (["list", "tuple"].any (isB "str")) = false := by decide
theorem isQ_tuple : (["list", "tuple"].any (isB "tuple")) = true := by decide
theorem isQ_list : (["list", "tuple"].any (isB "list")) = true := by decide
theorem isQ_dict : (["list", "tuple"].any (isB "dict")) = false := by decide
theorem lcR_ind {g : GD} {tt : WT} {te : WE} {ds : SD} {k : List D → Mem → Prop} (I : List D → List D → Mem → Prop) (hn : ∀ acc M, I [] acc M → k acc M)
    (hs : ∀ d items acc M (R : List D → Mem → Prop), (∀ acc' M', I items acc' M' → R acc' M') → I (d :: items) acc M →
      g d ds fun ds2 => tt ds2 M (fun b M1 => if b = true then te ds2 M1 (fun y M2 => acc.length < sizeLine ∧ R (acc ++ [y]) M2) XF else R acc M1) XF) :
    ∀ items acc M, I items acc M → lcR g tt te ds items acc M k
  | [], acc, M, h => hn acc M h
  | d :: items, acc, M, h => hs d items acc M (fun acc' M' => lcR g tt te ds items acc' M' k) (fun acc' M' q => lcR_ind I hn hs items acc' M' q) h
/-- a comprehension of values that change nothing -/
theorem lcR_map {g : GD} {tt : WT} {te : WE} {ds : SD} {k : List D → Mem → Prop} {M : Mem} (f : D → D) (P : D → Prop)
    (hs : ∀ d (acc : List D) (R : List D → Mem → Prop), P d → acc.length < sizeLine → (acc.length < sizeLine ∧ R (acc ++ [f d]) M) →
      g d ds fun ds2 => tt ds2 M (fun b M1 => if b = true then te ds2 M1 (fun y M2 => acc.length < sizeLine ∧ R (acc ++ [y]) M2) XF else R acc M1) XF) :
    ∀ (items acc : List D), (∀ d ∈ items, P d) → acc.length + items.length < sizeLine → k (acc ++ items.map f) M → lcR g tt te ds items acc M k
  | [], acc, _, _, h => by
    rw [List.map_nil, List.append_nil] at h
    exact h
  | d :: items, acc, hp, hl, h => by
    rw [List.length_cons] at hl
    refine hs d acc (fun acc' M' => lcR g tt te ds items acc' M' k) (hp d List.mem_cons_self) (by omega) ⟨by omega, ?_⟩
    refine lcR_map f P hs items (acc ++ [f d]) (fun x hx => hp x (List.mem_cons_of_mem _ hx)) (by rw [List.length_append, List.length_singleton]; omega) ?_
    rw [List.map_cons] at h
    rw [List.append_assoc]
    exact h
theorem lcR_mapL {α : Type} {g : GD} {tt : WT} {te : WE} {ds : SD} {k : List D → Mem → Prop} {M : Mem} (h f : α → D) (P : α → Prop)
    (hs : ∀ a (acc : List D) (R : List D → Mem → Prop), P a → (acc.length < sizeLine ∧ R (acc ++ [f a]) M) →
      g (h a) ds fun ds2 => tt ds2 M (fun b M1 => if b = true then te ds2 M1 (fun y M2 => acc.length < sizeLine ∧ R (acc ++ [y]) M2) XF else R acc M1) XF) :
    ∀ (L : List α) (acc : List D), (∀ a ∈ L, P a) → acc.length + L.length < sizeLine → k (acc ++ L.map f) M → lcR g tt te ds (L.map h) acc M k
  | [], acc, _, _, q => by
    rw [List.map_nil, List.append_nil] at q
    exact q
  | a :: L, acc, hp, hl, q => by
    rw [List.length_cons] at hl
    refine hs a acc (fun acc' M' => lcR g tt te ds (L.map h) acc' M' k) (hp a List.mem_cons_self) ⟨by omega, ?_⟩
    refine lcR_mapL h f P hs L (acc ++ [f a]) (fun x hx => hp x (List.mem_cons_of_mem _ hx)) (by rw [List.length_append, List.length_singleton]; omega) ?_
    rw [List.map_cons] at q
    rw [List.append_assoc]
    exact q
theorem forR_ind {g : GD} {wb : WS} {E : ED} (I : List D → SD → Mem → Prop) (hn : ∀ ds M, I [] ds M → E.nx ds M)
    (hs : ∀ d items ds M (R : SD → Mem → Prop), (∀ ds' M', I items ds' M' → R ds' M') → I (d :: items) ds M →
      g d ds fun ds2 => wb { E with nx := R, ct := R, bk := E.nx } ds2 M) :
    ∀ items ds M, I items ds M → forR g wb E items ds M
  | [], ds, M, h => hn ds M h
  | d :: items, ds, M, h => hs d items ds M (fun ds' M' => forR g wb E items ds' M') (fun ds' M' q => forR_ind I hn hs items ds' M' q) h
theorem fin_dn {Q : KN} {d : D} {M M' : Mem} (h : ∀ a o, M' a = some o → M a = some o) (q : Q d M') : Fin Q d M := ⟨d, M', Fz.dn h, q⟩
theorem fin_lst {Q : KN} {a : Addr} {xs : List D} {M M' : Mem} (e : M a = some (.lst xs)) (n : M' a = none) (h : ∀ b o, M' b = some o → M b = some o) (q : Q (.lst xs) M') : Fin Q (.ref a) M := ⟨.lst xs, M', Fz.lst e n (FzS.dn h), q⟩
theorem fin_ins {Q : KN} {a C : Addr} {ns : List Str} {xs : List D} {M M' : Mem} (e : M a = some (.ins C ns xs)) (n : M' a = none) (h : ∀ b o, M' b = some o → M b = some o) (q : Q (.ins C ns xs) M') : Fin Q (.ref a) M := ⟨.ins C ns xs, M', Fz.ins e n (FzS.dn h), q⟩
theorem optK_some {α : Type} {a : α} {k : α → Prop} : optK (some a) k = k a := rfl
theorem seqOf_lst {M : Mem} {xs : List D} : seqOf M (.lst xs) = some xs := rfl
theorem seqOf_tup {M : Mem} {xs : List D} : seqOf M (.tup xs) = some xs := rfl
theorem seqOf_own {M : Mem} {a : Addr} {xs : List D} (h : M a = some (.lst xs)) : seqOf M (.ref a) = some xs := by
  show moSeq (M a) = _
  rw [h]
  rfl
theorem tyN_non {M : Mem} : tyN M .non = some "NoneType" := rfl
theorem tyN_bl {M : Mem} {b : Bool} : tyN M (.bl b) = some "bool" := rfl
theorem tyN_int {M : Mem} {b : Int} : tyN M (.int b) = some "int" := rfl
theorem tyN_str {M : Mem} {b : Str} : tyN M (.str b) = some "str" := rfl
theorem tyN_tup {M : Mem} {b : List D} : tyN M (.tup b) = some "tuple" := rfl
theorem tyN_lst {M : Mem} {b : List D} : tyN M (.lst b) = some "list" := rfl
theorem tyN_dct {M : Mem} {ks : List Key} {b : List D} : tyN M (.dct ks b) = some "dict" := rfl
section
variable {M : Mem} {a : Addr} {xs ys : List D} {y : D} {Q : KN}
theorem mo_own (h : M a = some (.lst xs)) : moSeq (M a) = some xs := by rw [h]; rfl
theorem tyD_own (h : M a = some (.lst xs)) : tyD "list" M (.ref a) := by
  refine ⟨rfl, ?_⟩
  rw [mo_own h]
  trivial
theorem own_L {k : Addr → List D → Prop} (h : M a = some (.lst xs)) (q : k a xs) : ownL M (.ref a) k := by
  show optK (moSeq (M a)) fun xs => k a xs
  rw [mo_own h]
  exact q
theorem app_own (h : M a = some (.lst xs)) (l : xs.length < sizeLine) (q : Q .non (mput M a (.lst (xs ++ [y])))) : rAppD (.ref a) [y] M Q := own_L (k := fun a xs => xs.length < sizeLine ∧ Q .non (mput M a (.lst (xs ++ [y])))) h ⟨l, q⟩
theorem pop_own (h : M a = some (.lst (xs ++ [y]))) (q : Q y (mput M a (.lst xs))) : rPopD (.ref a) [] M Q := by
  refine own_L (k := fun a xs => optK xs[xs.length - 1]? fun y => Q y (mput M a (.lst xs.dropLast))) h ?_
  have e : (xs ++ [y])[(xs ++ [y]).length - 1]? = some y := by
    rw [List.length_append, List.length_singleton, Nat.add_sub_cancel, List.getElem?_append_right (Nat.le_refl _), Nat.sub_self]
    rfl
  rw [e, List.dropLast_concat]
  exact q
theorem ixN_nat {n k : Nat} (h : k < n) : ixN n (k : Int) = some k := by
  unfold ixN
  have : (k : Int) < n := by omega
  simp
  omega
theorem popAt_own {k : Nat} (h : M a = some (.lst xs)) (e : xs[k]? = some y) (l : xs.length ≤ sizeLine) (q : Q y (mput M a (.lst (xs.eraseIdx k)))) : rPopD (.ref a) [.int (k : Int)] M Q := by
  have hk : k < xs.length := (List.getElem?_eq_some_iff.mp e).1
  refine own_L (k := fun a xs => optK (ixN xs.length (k : Int)) fun k => optK xs[k]? fun y => (xs.length ≤ sizeLine ∧ Q y (mput M a (.lst (xs.eraseIdx k))))) h ?_
  rw [ixN_nat hk, optK_some, e]
  exact ⟨l, q⟩
theorem ext_own (h : M a = some (.lst xs)) (l : xs.length + ys.length ≤ sizeLine) (q : Q .non (mput M a (.lst (xs ++ ys)))) : rExtD (.ref a) [.lst ys] M Q := own_L (k := fun a xs => xs.length + ys.length ≤ sizeLine ∧ Q .non (mput M a (.lst (xs ++ ys)))) h ⟨l, q⟩
theorem ins_own {k : Nat} (h : M a = some (.lst xs)) (l : xs.length < sizeLine) (b : k < 2 ^ 63) (q : Q .non (mput M a (.lst (xs.take k ++ [y] ++ xs.drop k)))) : rInsD (.ref a) [.int (k : Int), y] M Q :=
  own_L (k := fun a xs => xs.length < sizeLine ∧ 0 ≤ (k : Int) ∧ (k : Int) < 2 ^ 63 ∧ Q .non (mput M a (.lst (xs.take (k : Int).toNat ++ [y] ++ xs.drop (k : Int).toNat)))) h ⟨l, by omega, by omega, q⟩
end
theorem atI_nat {α : Type} {xs : List α} {k : Nat} : atI xs (k : Int) = xs[k]? := by
  unfold atI ixN
  rw [if_pos (by omega)]
  by_cases h : k < xs.length
  · rw [if_pos (by omega)]
    rfl
  · rw [if_neg (by omega), List.getElem?_eq_none (by omega)]
    rfl
theorem insK_same {C : Addr} {ns : List Str} {M : Mem} {xs : List D} {k : List D → Prop} : insK C ns M (.ins C ns xs) k = k xs := propext ⟨fun h => h.2.2, fun h => ⟨rfl, rfl, h⟩⟩
theorem frz_lst {xs : List D} : frzSeq (.lst xs) = some xs := rfl
theorem frz_tup {xs : List D} : frzSeq (.tup xs) = some xs := rfl
theorem at1_0 {x0 : D} : atI [x0] (0 : Int) = some x0 := rfl
theorem set1_0 {x0 v : D} {M : Mem} {a : Addr} {k : Mem → Prop} (h : M a = some (.lst [x0])) (q : k (mput M a (.lst [v]))) : rSetD (.ref a) (.int 0) v M k := own_L (k := fun a xs => optK (ixN xs.length 0) fun n => k (mput M a (.lst (xs.set n v)))) h q
theorem at2_0 {x0 x1 : D} : atI [x0, x1] (0 : Int) = some x0 := rfl
theorem at2_1 {x0 x1 : D} : atI [x0, x1] (1 : Int) = some x1 := rfl
theorem set2_0 {x0 x1 v : D} {M : Mem} {a : Addr} {k : Mem → Prop} (h : M a = some (.lst [x0, x1])) (q : k (mput M a (.lst [v, x1]))) : rSetD (.ref a) (.int 0) v M k := own_L (k := fun a xs => optK (ixN xs.length 0) fun n => k (mput M a (.lst (xs.set n v)))) h q
theorem set2_1 {x0 x1 v : D} {M : Mem} {a : Addr} {k : Mem → Prop} (h : M a = some (.lst [x0, x1])) (q : k (mput M a (.lst [x0, v]))) : rSetD (.ref a) (.int 1) v M k := own_L (k := fun a xs => optK (ixN xs.length 1) fun n => k (mput M a (.lst (xs.set n v)))) h q
theorem at3_0 {x0 x1 x2 : D} : atI [x0, x1, x2] (0 : Int) = some x0 := rfl
theorem at3_1 {x0 x1 x2 : D} : atI [x0, x1, x2] (1 : Int) = some x1 := rfl
theorem at3_2 {x0 x1 x2 : D} : atI [x0, x1, x2] (2 : Int) = some x2 := rfl
theorem set3_0 {x0 x1 x2 v : D} {M : Mem} {a : Addr} {k : Mem → Prop} (h : M a = some (.lst [x0, x1, x2])) (q : k (mput M a (.lst [v, x1, x2]))) : rSetD (.ref a) (.int 0) v M k := own_L (k := fun a xs => optK (ixN xs.length 0) fun n => k (mput M a (.lst (xs.set n v)))) h q
theorem set3_1 {x0 x1 x2 v : D} {M : Mem} {a : Addr} {k : Mem → Prop} (h : M a = some (.lst [x0, x1, x2])) (q : k (mput M a (.lst [x0, v, x2]))) : rSetD (.ref a) (.int 1) v M k := own_L (k := fun a xs => optK (ixN xs.length 1) fun n => k (mput M a (.lst (xs.set n v)))) h q
theorem set3_2 {x0 x1 x2 v : D} {M : Mem} {a : Addr} {k : Mem → Prop} (h : M a = some (.lst [x0, x1, x2])) (q : k (mput M a (.lst [x0, x1, v]))) : rSetD (.ref a) (.int 2) v M k := own_L (k := fun a xs => optK (ixN xs.length 2) fun n => k (mput M a (.lst (xs.set n v)))) h q
theorem at4_0 {x0 x1 x2 x3 : D} : atI [x0, x1, x2, x3] (0 : Int) = some x0 := rfl
theorem at4_1 {x0 x1 x2 x3 : D} : atI [x0, x1, x2, x3] (1 : Int) = some x1 := rfl
theorem at4_2 {x0 x1 x2 x3 : D} : atI [x0, x1, x2, x3] (2 : Int) = some x2 := rfl
theorem at4_3 {x0 x1 x2 x3 : D} : atI [x0, x1, x2, x3] (3 : Int) = some x3 := rfl
theorem set4_0 {x0 x1 x2 x3 v : D} {M : Mem} {a : Addr} {k : Mem → Prop} (h : M a = some (.lst [x0, x1, x2, x3])) (q : k (mput M a (.lst [v, x1, x2, x3]))) : rSetD (.ref a) (.int 0) v M k := own_L (k := fun a xs => optK (ixN xs.length 0) fun n => k (mput M a (.lst (xs.set n v)))) h q
theorem set4_1 {x0 x1 x2 x3 v : D} {M : Mem} {a : Addr} {k : Mem → Prop} (h : M a = some (.lst [x0, x1, x2, x3])) (q : k (mput M a (.lst [x0, v, x2, x3]))) : rSetD (.ref a) (.int 1) v M k := own_L (k := fun a xs => optK (ixN xs.length 1) fun n => k (mput M a (.lst (xs.set n v)))) h q
theorem set4_2 {x0 x1 x2 x3 v : D} {M : Mem} {a : Addr} {k : Mem → Prop} (h : M a = some (.lst [x0, x1, x2, x3])) (q : k (mput M a (.lst [x0, x1, v, x3]))) : rSetD (.ref a) (.int 2) v M k := own_L (k := fun a xs => optK (ixN xs.length 2) fun n => k (mput M a (.lst (xs.set n v)))) h q
theorem set4_3 {x0 x1 x2 x3 v : D} {M : Mem} {a : Addr} {k : Mem → Prop} (h : M a = some (.lst [x0, x1, x2, x3])) (q : k (mput M a (.lst [x0, x1, x2, v]))) : rSetD (.ref a) (.int 3) v M k := own_L (k := fun a xs => optK (ixN xs.length 3) fun n => k (mput M a (.lst (xs.set n v)))) h q
theorem at5_0 {x0 x1 x2 x3 x4 : D} : atI [x0, x1, x2, x3, x4] (0 : Int) = some x0 := rfl
theorem at5_1 {x0 x1 x2 x3 x4 : D} : atI [x0, x1, x2, x3, x4] (1 : Int) = some x1 := rfl
theorem at5_2 {x0 x1 x2 x3 x4 : D} : atI [x0, x1, x2, x3, x4] (2 : Int) = some x2 := rfl
theorem at5_3 {x0 x1 x2 x3 x4 : D} : atI [x0, x1, x2, x3, x4] (3 : Int) = some x3 := rfl
theorem at5_4 {x0 x1 x2 x3 x4 : D} : atI [x0, x1, x2, x3, x4] (4 : Int) = some x4 := rfl
theorem set5_0 {x0 x1 x2 x3 x4 v : D} {M : Mem} {a : Addr} {k : Mem → Prop} (h : M a = some (.lst [x0, x1, x2, x3, x4])) (q : k (mput M a (.lst [v, x1, x2, x3, x4]))) : rSetD (.ref a) (.int 0) v M k := own_L (k := fun a xs => optK (ixN xs.length 0) fun n => k (mput M a (.lst (xs.set n v)))) h q
theorem set5_1 {x0 x1 x2 x3 x4 v : D} {M : Mem} {a : Addr} {k : Mem → Prop} (h : M a = some (.lst [x0, x1, x2, x3, x4])) (q : k (mput M a (.lst [x0, v, x2, x3, x4]))) : rSetD (.ref a) (.int 1) v M k := own_L (k := fun a xs => optK (ixN xs.length 1) fun n => k (mput M a (.lst (xs.set n v)))) h q
theorem set5_2 {x0 x1 x2 x3 x4 v : D} {M : Mem} {a : Addr} {k : Mem → Prop} (h : M a = some (.lst [x0, x1, x2, x3, x4])) (q : k (mput M a (.lst [x0, x1, v, x3, x4]))) : rSetD (.ref a) (.int 2) v M k := own_L (k := fun a xs => optK (ixN xs.length 2) fun n => k (mput M a (.lst (xs.set n v)))) h q
theorem set5_3 {x0 x1 x2 x3 x4 v : D} {M : Mem} {a : Addr} {k : Mem → Prop} (h : M a = some (.lst [x0, x1, x2, x3, x4])) (q : k (mput M a (.lst [x0, x1, x2, v, x4]))) : rSetD (.ref a) (.int 3) v M k := own_L (k := fun a xs => optK (ixN xs.length 3) fun n => k (mput M a (.lst (xs.set n v)))) h q
theorem set5_4 {x0 x1 x2 x3 x4 v : D} {M : Mem} {a : Addr} {k : Mem → Prop} (h : M a = some (.lst [x0, x1, x2, x3, x4])) (q : k (mput M a (.lst [x0, x1, x2, x3, v]))) : rSetD (.ref a) (.int 4) v M k := own_L (k := fun a xs => optK (ixN xs.length 4) fun n => k (mput M a (.lst (xs.set n v)))) h q
theorem seqOf_put {M : Mem} {a : Addr} {xs : List D} : seqOf (mput M a (.lst xs)) (.ref a) = some xs := seqOf_own mput_same
/-- the ends of a statement that another follows: kept folded, so that the kernel never has to unfold what follows -/
theorem seqE_ex0 (u : WS) (E : ED) : ∃ E' : ED, E' = { E with nx := fun ds' M' => u E ds' M' } := ⟨_, rfl⟩
noncomputable def seqE (u : WS) (E : ED) : ED := Classical.choose (seqE_ex0 u E)
theorem seqE_eq (u : WS) (E : ED) : seqE u E = { E with nx := fun ds' M' => u E ds' M' } := Classical.choose_spec (seqE_ex0 u E)
theorem wSeq_p {t u : WS} {E : ED} {ds : SD} {M : Mem} : wSeq t u E ds M = t (seqE u E) ds M := by rw [seqE_eq]; rfl
theorem seqE_nx {u : WS} {E : ED} {ds : SD} {M : Mem} : (seqE u E).nx ds M = u E ds M := by rw [seqE_eq]
theorem seqE_rt {u : WS} {E : ED} : (seqE u E).rt = E.rt := by rw [seqE_eq]
theorem seqE_bk {u : WS} {E : ED} : (seqE u E).bk = E.bk := by rw [seqE_eq]
theorem seqE_ct {u : WS} {E : ED} : (seqE u E).ct = E.ct := by rw [seqE_eq]
theorem seqE_ex {u : WS} {E : ED} : (seqE u E).ex = E.ex := by rw [seqE_eq]
theorem sizeLine_big : 100000 ≤ sizeLine := by decide +kernel
end DL
/-! readings unfolded only where the values' forms are known, step by step -/
namespace DL
open PySem PySem.Spec PyProof.Rows L2 RZ
theorem pVar {i : Nat} {ds : SD} {M : Mem} {Q : KN} {X : KX} : (wVar i ds M Q X) = (wGet ds[i]? fun d => Q d M) := propext Iff.rfl
theorem pGet {d : D} {k : D → Prop} : (wGet (some (some d)) k) = (k d) := propext Iff.rfl
theorem pC {d : D} {ds : SD} {M : Mem} {Q : KN} {X : KX} : (wC d ds M Q X) = (Q d M) := propext Iff.rfl
theorem pOp {r : RD2} {wa wb : WE} {ds : SD} {M : Mem} {Q : KN} {X : KX} : (wOp r wa wb ds M Q X) = (wa ds M (fun x M1 => wb ds M1 (fun y M2 => r x y M2 Q) X) X) := propext Iff.rfl
theorem pUn {r : RD1} {wa : WE} {ds : SD} {M : Mem} {Q : KN} {X : KX} : (wUn r wa ds M Q X) = (wa ds M (fun x M1 => r x M1 Q) X) := propext Iff.rfl
theorem pCB {r : RDs} {wa : WA} {ds : SD} {M : Mem} {Q : KN} {X : KX} : (wCB r wa ds M Q X) = (wa ds M (fun xs M1 => r xs M1 Q) X) := propext Iff.rfl
theorem pNil {ds : SD} {M : Mem} {Q : List D → Mem → Prop} {X : KX} : (wNil ds M Q X) = (Q [] M) := propext Iff.rfl
theorem pCons {wa : WE} {wr : WA} {ds : SD} {M : Mem} {Q : List D → Mem → Prop} {X : KX} : (wCons wa wr ds M Q X) = (wa ds M (fun d M1 => wr ds M1 (fun xs M2 => Q (d :: xs) M2) X) X) := propext Iff.rfl
theorem pTest {w : WE} {ds : SD} {M : Mem} {Q : Bool → Mem → Prop} {X : KX} : (wTest w ds M Q X) = (w ds M (fun d M1 => isBl d fun b => Q b M1) X) := propext Iff.rfl
theorem pBl {b : Bool} {k : Bool → Prop} : (isBl (.bl b) k) = (k b) := propext Iff.rfl
theorem pAndT {t u : WT} {ds : SD} {M : Mem} {Q : Bool → Mem → Prop} {X : KX} : (wAndT t u ds M Q X) = (t ds M (fun b M1 => if b = true then u ds M1 Q X else Q false M1) X) := propext Iff.rfl
theorem pOrT {t u : WT} {ds : SD} {M : Mem} {Q : Bool → Mem → Prop} {X : KX} : (wOrT t u ds M Q X) = (t ds M (fun b M1 => if b = true then Q true M1 else u ds M1 Q X) X) := propext Iff.rfl
theorem pNotT {t : WT} {ds : SD} {M : Mem} {Q : Bool → Mem → Prop} {X : KX} : (wNotT t ds M Q X) = (t ds M (fun b M1 => Q (!b) M1) X) := propext Iff.rfl
theorem pAndV {wa wb : WE} {ds : SD} {M : Mem} {Q : KN} {X : KX} : (wAndV wa wb ds M Q X) = (wa ds M (fun d M1 => isBl d fun b => if b = true then wb ds M1 Q X else Q (.bl false) M1) X) := propext Iff.rfl
theorem pOrV {wa wb : WE} {ds : SD} {M : Mem} {Q : KN} {X : KX} : (wOrV wa wb ds M Q X) = (wa ds M (fun d M1 => isBl d fun b => if b = true then Q (.bl true) M1 else wb ds M1 Q X) X) := propext Iff.rfl
theorem pNotV {wa : WE} {ds : SD} {M : Mem} {Q : KN} {X : KX} : (wNotV wa ds M Q X) = (wa ds M (fun d M1 => isBl d fun b => Q (.bl (!b)) M1) X) := propext Iff.rfl
theorem pIfE {t : WT} {wa wb : WE} {ds : SD} {M : Mem} {Q : KN} {X : KX} : (wIfE t wa wb ds M Q X) = (t ds M (fun b M1 => if b = true then wa ds M1 Q X else wb ds M1 Q X) X) := propext Iff.rfl
theorem pTup {wa : WA} {ds : SD} {M : Mem} {Q : KN} {X : KX} : (wTup wa ds M Q X) = (wa ds M (fun xs M1 => xs.length ≤ sizeLine ∧ Q (.tup xs) M1) X) := propext Iff.rfl
theorem pLst {wa : WA} {ds : SD} {M : Mem} {Q : KN} {X : KX} : (wLst wa ds M Q X) = (wa ds M (fun xs M1 => xs.length ≤ sizeLine ∧ Q (.lst xs) M1) X) := propext Iff.rfl
theorem pLstO {wa : WA} {ds : SD} {M : Mem} {Q : KN} {X : KX} : (wLstO wa ds M Q X) = (wa ds M (fun xs M1 => xs.length ≤ sizeLine ∧ ∀ a, M1 a = none → Q (.ref a) (mput M1 a (.lst xs))) X) := propext Iff.rfl
theorem pCall {sp : SpD} {wa : WA} {ds : SD} {M : Mem} {Q : KN} {X : KX} : (wCall sp wa ds M Q X) = (wa ds M (fun xs M1 => sp xs M1 Q X) X) := propext Iff.rfl
theorem pMeth {C : Addr} {ns : List Str} {sp : SpD} {we : WE} {wa : WA} {ds : SD} {M : Mem} {Q : KN} {X : KX} : (wMeth C ns sp we wa ds M Q X) = (we ds M (fun d M1 => insK C ns M1 d fun _ => wa ds M1 (fun xs M2 => sp (d :: xs) M2 Q X) X) X) := propext Iff.rfl
theorem pFld {C : Addr} {ns : List Str} {i : Nat} {we : WE} {ds : SD} {M : Mem} {Q : KN} {X : KX} : (wFld C ns i we ds M Q X) = (we ds M (fun d M1 => insK C ns M1 d fun xs => optK xs[i]? fun v => Q v M1) X) := propext Iff.rfl
theorem pProp {C : Addr} {ns : List Str} {sp : SpD} {we : WE} {ds : SD} {M : Mem} {Q : KN} {X : KX} : (wProp C ns sp we ds M Q X) = (we ds M (fun d M1 => insK C ns M1 d fun _ => sp [d] M1 Q XF) X) := propext Iff.rfl
theorem pMake {C : Addr} {sp : SpD} {wa : WA} {ds : SD} {M : Mem} {Q : KN} {X : KX} : (wMake C sp wa ds M Q X) = (wa ds M (fun xs M1 => ∀ a, M1 a = none → sp (.ref a :: xs) (mput M1 a (.ins C [] [])) (fun d M2 => d = .non ∧ Fin Q (.ref a) M2) X) X) := propext Iff.rfl
theorem pCv {C : Addr} {d : D} {we : WE} {ds : SD} {M : Mem} {Q : KN} {X : KX} : (wCv C d we ds M Q X) = (we ds M (fun z M1 => z = .ref C ∧ Q d M1) X) := propext Iff.rfl
theorem pSl {we : WE} {wl wh : WO} {ds : SD} {M : Mem} {Q : KN} {X : KX} : (wSl we wl wh ds M Q X) = (we ds M (fun d M1 => wl ds M1 (fun l M2 => wh ds M2 (fun h M3 => rSlD d l h M3 Q) X) X) X) := propext Iff.rfl
theorem pNo {ds : SD} {M : Mem} {Q : Option Int → Mem → Prop} {X : KX} : (wNo ds M Q X) = (Q none M) := propext Iff.rfl
theorem pSome {w : WE} {ds : SD} {M : Mem} {Q : Option Int → Mem → Prop} {X : KX} : (wSome w ds M Q X) = (w ds M (fun d M1 => intK d fun i => Q (some i) M1) X) := propext Iff.rfl
theorem pIntK {i : Int} {k : Int → Prop} : (intK (.int i) k) = (k i) := propext Iff.rfl
theorem pN {i : Nat} {d : D} {ds : SD} {Q : SD → Prop} : (gN i d ds Q) = (Q (ds.set i (some d))) := propext Iff.rfl
theorem pT {n : Nat} {gs : GDs} {es : List D} {ds : SD} {Q : SD → Prop} : (gT n gs (.tup es) ds Q) = (es.length = n ∧ gs es ds Q) := propext Iff.rfl
theorem pGC {g : GD} {gs : GDs} {e : D} {es : List D} {ds : SD} {Q : SD → Prop} : (gCons' g gs (e :: es) ds Q) = (g e ds fun ds2 => gs es ds2 Q) := propext Iff.rfl
theorem pGN {ds : SD} {Q : SD → Prop} : (gNil' [] ds Q) = (Q ds) := propext Iff.rfl
theorem pIf {t : WT} {a b : WS} {E : ED} {ds : SD} {M : Mem} : (wIf t a b E ds M) = (t ds M (fun c M1 => if c = true then a E ds M1 else b E ds M1) (E.xc ds)) := propext Iff.rfl
theorem pRet {we : WE} {E : ED} {ds : SD} {M : Mem} : (wRet we E ds M) = (we ds M E.rt (E.xc ds)) := propext Iff.rfl
theorem pRetN {E : ED} {ds : SD} {M : Mem} : (wRetN E ds M) = (E.rt .non M) := propext Iff.rfl
theorem pDrop {we : WE} {E : ED} {ds : SD} {M : Mem} : (wDrop we E ds M) = (we ds M (fun _ M1 => E.nx ds M1) (E.xc ds)) := propext Iff.rfl
theorem pAsg {we : WE} {g : GD} {E : ED} {ds : SD} {M : Mem} : (wAsg we g E ds M) = (we ds M (fun d M1 => g d ds fun ds2 => E.nx ds2 M1) (E.xc ds)) := propext Iff.rfl
theorem pNx {E : ED} {ds : SD} {M : Mem} : (wNx E ds M) = (E.nx ds M) := propext Iff.rfl
theorem pBrk {E : ED} {ds : SD} {M : Mem} : (wBrk E ds M) = (E.bk ds M) := propext Iff.rfl
theorem pCnt {E : ED} {ds : SD} {M : Mem} : (wCnt E ds M) = (E.ct ds M) := propext Iff.rfl
theorem pNever {E : ED} {ds : SD} {M : Mem} : (wNever E ds M) = (False) := propext Iff.rfl
theorem pSub {we wo wi : WE} {r : D → D → D → Mem → (Mem → Prop) → Prop} {E : ED} {ds : SD} {M : Mem} : (wSub we wo wi r E ds M) = (we ds M (fun v M1 => wo ds M1 (fun o M2 => wi ds M2 (fun i M3 => r o i v M3 fun M4 => E.nx ds M4) (E.xc ds)) (E.xc ds)) (E.xc ds)) := propext Iff.rfl
theorem pAug {i : Nat} {we : WE} {r : RD2} {E : ED} {ds : SD} {M : Mem} : (wAug i we r E ds M) = (wGet ds[i]? fun d => we ds M (fun e M1 => r d e M1 fun z M2 => E.nx (ds.set i (some z)) M2) (E.xc ds)) := propext Iff.rfl
def parK (i j : Nat) (E : ED) (ds : SD) (es : List D) (M : Mem) : Prop := match es with | [d, e] => E.nx ((ds.set i (some d)).set j (some e)) M | _ => False
theorem pPar {i j : Nat} {wa : WA} {E : ED} {ds : SD} {M : Mem} : (wPar i j wa E ds M) = (wa ds M (parK i j E ds) (E.xc ds)) := propext Iff.rfl
theorem pParK {i j : Nat} {E : ED} {ds : SD} {d e : D} {M : Mem} : (parK i j E ds [d, e] M) = (E.nx ((ds.set i (some d)).set j (some e)) M) := propext Iff.rfl
theorem pBM {T : String} {r : D → List D → Mem → KN → Prop} {we : WE} {wa : WA} {ds : SD} {M : Mem} {Q : KN} {X : KX} : (wBM T r we wa ds M Q X) = (we ds M (fun d M1 => tyD T M1 d ∧ wa ds M1 (fun xs M2 => r d xs M2 Q) X) X) := propext Iff.rfl
theorem pFor {wi : WI} {g : GD} {wb : WS} {E : ED} {ds : SD} {M : Mem} : (wFor wi g wb E ds M) = (wi ds M (fun items M1 => forR g wb E items ds M1) (E.xc ds)) := propext Iff.rfl
theorem pLc {wi : WI} {g : GD} {tt : WT} {te : WE} {vs : List Nat} {ds : SD} {M : Mem} {Q : KN} {X : KX} : (wLc wi g tt te vs ds M Q X) = (wi ds M (fun items M1 => lcR g tt te (wipeD ds vs) items [] M1 fun ys M2 => Q (.lst ys) M2) X) := propext Iff.rfl
theorem pLcO {wi : WI} {g : GD} {tt : WT} {te : WE} {vs : List Nat} {ds : SD} {M : Mem} {Q : KN} {X : KX} : (wLcO wi g tt te vs ds M Q X) = (wi ds M (fun items M1 => lcR g tt te (wipeD ds vs) items [] M1 fun ys M2 => ∀ a, M2 a = none → Q (.ref a) (mput M2 a (.lst ys))) X) := propext Iff.rfl
theorem pYes {ds : SD} {M : Mem} {Q : Bool → Mem → Prop} {X : KX} : (wYes ds M Q X) = (Q true M) := propext Iff.rfl
theorem piSeq {we : WE} {ds : SD} {M : Mem} {Q : List D → Mem → Prop} {X : KX} : (wiSeq we ds M Q X) = (we ds M (fun d M1 => optK (frzSeq d) fun xs => Q xs M1) X) := propext Iff.rfl
def strK (Q : List D → Mem → Prop) (d : D) (M : Mem) : Prop := match d with | .str x => Q (sgnD x) M | _ => False
theorem piStr {we : WE} {ds : SD} {M : Mem} {Q : List D → Mem → Prop} {X : KX} : (wiStr we ds M Q X) = (we ds M (strK Q) X) := propext Iff.rfl
theorem pStrK {Q : List D → Mem → Prop} {x : Str} {M : Mem} : (strK Q (.str x) M) = (Q (sgnD x) M) := propext Iff.rfl
def rng1K (Q : List D → Mem → Prop) (es : List D) (M : Mem) : Prop := match es with | [.int j] => (-(2 ^ 62) ≤ j ∧ j < 2 ^ 62) ∧ Q (rngD 0 j.toNat) M | _ => False
theorem piRng1 {wa : WA} {ds : SD} {M : Mem} {Q : List D → Mem → Prop} {X : KX} : (wiRng1 wa ds M Q X) = (wa ds M (rng1K Q) X) := propext Iff.rfl
theorem pRng1K {Q : List D → Mem → Prop} {j : Int} {M : Mem} : (rng1K Q [.int j] M) = ((-(2 ^ 62) ≤ j ∧ j < 2 ^ 62) ∧ Q (rngD 0 j.toNat) M) := propext Iff.rfl
def rng2K (Q : List D → Mem → Prop) (es : List D) (M : Mem) : Prop := match es with | [.int i, .int j] => (-(2 ^ 62) ≤ i ∧ i < 2 ^ 62 ∧ -(2 ^ 62) ≤ j ∧ j < 2 ^ 62) ∧ Q (rngD i (j - i).toNat) M | _ => False
theorem piRng2 {wa : WA} {ds : SD} {M : Mem} {Q : List D → Mem → Prop} {X : KX} : (wiRng2 wa ds M Q X) = (wa ds M (rng2K Q) X) := propext Iff.rfl
theorem pRng2K {Q : List D → Mem → Prop} {i j : Int} {M : Mem} : (rng2K Q [.int i, .int j] M) = ((-(2 ^ 62) ≤ i ∧ i < 2 ^ 62 ∧ -(2 ^ 62) ≤ j ∧ j < 2 ^ 62) ∧ Q (rngD i (j - i).toNat) M) := propext Iff.rfl
def enumK (Q : List D → Mem → Prop) (es : List D) (M : Mem) : Prop := match es with | [.lst xs] => Q (enumD xs) M | _ => False
theorem piEnum {wa : WA} {ds : SD} {M : Mem} {Q : List D → Mem → Prop} {X : KX} : (wiEnum wa ds M Q X) = (wa ds M (enumK Q) X) := propext Iff.rfl
theorem pEnumK {Q : List D → Mem → Prop} {xs : List D} {M : Mem} : (enumK Q [.lst xs] M) = (Q (enumD xs) M) := propext Iff.rfl
def zipK (Q : List D → Mem → Prop) (es : List D) (M : Mem) : Prop := match es with | [.lst xs, .lst ys] => Q (zipD xs ys) M | [.tup xs, .tup ys] => Q (zipD xs ys) M | _ => False
theorem piZip {wa : WA} {ds : SD} {M : Mem} {Q : List D → Mem → Prop} {X : KX} : (wiZip wa ds M Q X) = (wa ds M (zipK Q) X) := propext Iff.rfl
theorem pZipL {Q : List D → Mem → Prop} {xs ys : List D} {M : Mem} : (zipK Q [.lst xs, .lst ys] M) = (Q (zipD xs ys) M) := propext Iff.rfl
theorem pZipT {Q : List D → Mem → Prop} {xs ys : List D} {M : Mem} : (zipK Q [.tup xs, .tup ys] M) = (Q (zipD xs ys) M) := propext Iff.rfl
theorem pFz {w : WE} {ds : SD} {M : Mem} {Q : KN} {X : KX} : (wFz w ds M Q X) = (w ds M (Fin Q) X) := propext Iff.rfl
theorem pLenSet {we : WE} {ds : SD} {M : Mem} {Q : KN} {X : KX} : (wLenSet we ds M Q X) = (we ds M (fun d M1 => optK (seqOf M1 d) fun xs => optK (keysD xs) fun ks => ks.length < 4000 ∧ Q (.int (metK ks ks.length).length) M1) X) := propext Iff.rfl
theorem pIsT {cs : List String} {we : WE} {ds : SD} {M : Mem} {Q : KN} {X : KX} : (wIsT cs we ds M Q X) = (we ds M (fun d M1 => cs.all (fun c => ["bool", "int", "str", "tuple", "list", "dict"].contains c) = true ∧ optK (tyN M1 d) fun n => Q (.bl (cs.any (isB n))) M1) X) := propext Iff.rfl
theorem rIx_lst {xs : List D} {i : Int} {M : Mem} {Q : KN} : (rIxD (.lst xs) (.int i) M Q) = (optK (atI xs i) fun v => Q v M) := propext Iff.rfl
theorem rIx_tup {xs : List D} {i : Int} {M : Mem} {Q : KN} : (rIxD (.tup xs) (.int i) M Q) = (optK (atI xs i) fun v => Q v M) := propext Iff.rfl
theorem rIx_ref {a : Addr} {i : Int} {M : Mem} {Q : KN} : (rIxD (.ref a) (.int i) M Q) = (optK (seqOf M (.ref a)) fun xs => optK (atI xs i) fun v => Q v M) := propext Iff.rfl
theorem rIx_str {z : Str} {i : Int} {M : Mem} {Q : KN} : (rIxD (.str z) (.int i) M Q) = (z.length ≤ sizeLine ∧ optK (atI z.cps.toList i) fun c => Q (.str ⟨#[c]⟩) M) := propext Iff.rfl
theorem rLen_str {z : Str} {M : Mem} {Q : KN} : (rLenD [.str z] M Q) = (z.length ≤ sizeLine ∧ Q (.int z.length) M) := propext Iff.rfl
theorem rLen_lst {xs : List D} {M : Mem} {Q : KN} : (rLenD [.lst xs] M Q) = (Q (.int xs.length) M) := propext Iff.rfl
theorem rLen_tup {xs : List D} {M : Mem} {Q : KN} : (rLenD [.tup xs] M Q) = (Q (.int xs.length) M) := propext Iff.rfl
theorem rLen_ref {a : Addr} {M : Mem} {Q : KN} : (rLenD [.ref a] M Q) = (optK (seqOf M (.ref a)) fun xs => Q (.int xs.length) M) := propext Iff.rfl
theorem rIs_p {d : D} {c : String} {M : Mem} {Q : KN} : (rIsD [d, .ty c] M Q) = (c ∈ ["bool", "int", "str", "tuple", "list", "dict"] ∧ optK (tyN M d) fun n => Q (.bl (isB n c)) M) := propext Iff.rfl
theorem rInt_int {i : Int} {M : Mem} {Q : KN} : (rIntCD [.int i] M Q) = (Q (.int i) M) := propext Iff.rfl
theorem rInt_bl {b : Bool} {M : Mem} {Q : KN} : (rIntCD [.bl b] M Q) = (Q (.int (if b then 1 else 0)) M) := propext Iff.rfl
theorem rStr_int {i : Int} {M : Mem} {Q : KN} : (rStrCD [.int i] M Q) = (i.natAbs.log2 < 1920 ∧ Q (.str (toString i)) M) := propext Iff.rfl
theorem rList_p {d : D} {M : Mem} {Q : KN} : (rListD [d] M Q) = (optK (seqOf M d) fun xs => Q (.lst xs) M) := propext Iff.rfl
theorem rListO_p {d : D} {M : Mem} {Q : KN} : (rListO [d] M Q) = (optK (seqOf M d) fun xs => ∀ a, M a = none → Q (.ref a) (mput M a (.lst xs))) := propext Iff.rfl
theorem rTup_p {d : D} {M : Mem} {Q : KN} : (rTupD [d] M Q) = (optK (seqOf M d) fun xs => Q (.tup xs) M) := propext Iff.rfl
theorem rAdd_int {i j : Int} {M : Mem} {Q : KN} : (rAddD (.int i) (.int j) M Q) = (Q (.int (i + j)) M) := propext Iff.rfl
theorem rAdd_str {x y : Str} {M : Mem} {Q : KN} : (rAddD (.str x) (.str y) M Q) = (x.length + y.length ≤ sizeLine ∧ Q (.str (x ++ y)) M) := propext Iff.rfl
theorem rAdd_tup {xs ys : List D} {M : Mem} {Q : KN} : (rAddD (.tup xs) (.tup ys) M Q) = (xs.length + ys.length ≤ sizeLine ∧ Q (.tup (xs ++ ys)) M) := propext Iff.rfl
theorem rAdd_lst {xs ys : List D} {M : Mem} {Q : KN} : (rAddD (.lst xs) (.lst ys) M Q) = (xs.length + ys.length ≤ sizeLine ∧ Q (.lst (xs ++ ys)) M) := propext Iff.rfl
theorem rIntD_p {C : Int → Int → Prop} {g : Int → Int → D} {i j : Int} {M : Mem} {Q : KN} : (rIntD C g (.int i) (.int j) M Q) = (C i j ∧ Q (g i j) M) := propext Iff.rfl
theorem rInt0_p {g : Int → Int → D} {i j : Int} {M : Mem} {Q : KN} : (rInt0D g (.int i) (.int j) M Q) = (Q (g i j) M) := propext Iff.rfl
theorem rEq_int {neg : Bool} {i j : Int} {M : Mem} {Q : KN} : (rEqD neg (.int i) (.int j) M Q) = (Q (.bl (xor neg (decide (i = j)))) M) := propext Iff.rfl
theorem rEq_str {neg : Bool} {x y : Str} {M : Mem} {Q : KN} : (rEqD neg (.str x) (.str y) M Q) = (Q (.bl (xor neg (decide (x = y)))) M) := propext Iff.rfl
theorem rEq_bl {neg : Bool} {x y : Bool} {M : Mem} {Q : KN} : (rEqD neg (.bl x) (.bl y) M Q) = (Q (.bl (xor neg (decide (x = y)))) M) := propext Iff.rfl
theorem rEq_lst {neg : Bool} {xs : List D} {e : D} {M : Mem} {Q : KN} : (rEqD neg (.lst xs) e M Q) = (Dat (.lst xs) 60 ∧ Dat e 60 ∧ Q (.bl (xor neg (deq (.lst xs) e))) M) := propext Iff.rfl
theorem rEq_tup {neg : Bool} {xs : List D} {e : D} {M : Mem} {Q : KN} : (rEqD neg (.tup xs) e M Q) = (Dat (.tup xs) 60 ∧ Dat e 60 ∧ Q (.bl (xor neg (deq (.tup xs) e))) M) := propext Iff.rfl
theorem rIsN_non {neg : Bool} {M : Mem} {Q : KN} : (rIsND neg .non .non M Q) = (Q (.bl (!neg)) M) := propext Iff.rfl
theorem rIsN_bl {neg b : Bool} {M : Mem} {Q : KN} : (rIsND neg (.bl b) .non M Q) = (Q (.bl neg) M) := propext Iff.rfl
theorem rIsN_int {neg : Bool} {b : Int} {M : Mem} {Q : KN} : (rIsND neg (.int b) .non M Q) = (Q (.bl neg) M) := propext Iff.rfl
theorem rIsN_str {neg : Bool} {b : Str} {M : Mem} {Q : KN} : (rIsND neg (.str b) .non M Q) = (Q (.bl neg) M) := propext Iff.rfl
theorem rIsN_tup {neg : Bool} {b : List D} {M : Mem} {Q : KN} : (rIsND neg (.tup b) .non M Q) = (Q (.bl neg) M) := propext Iff.rfl
theorem rIsN_lst {neg : Bool} {b : List D} {M : Mem} {Q : KN} : (rIsND neg (.lst b) .non M Q) = (Q (.bl neg) M) := propext Iff.rfl
theorem rNeg_p {i : Int} {M : Mem} {Q : KN} : (rNegD (.int i) M Q) = (Q (.int (-i)) M) := propext Iff.rfl
theorem rSl_str {z : Str} {lo hi : Option Int} {M : Mem} {Q : KN} : (rSlD (.str z) lo hi M Q) = (z.length ≤ sizeLine ∧ Q (.str (cutS z lo hi)) M) := propext Iff.rfl
theorem rSl_tup {xs : List D} {lo hi : Option Int} {M : Mem} {Q : KN} : (rSlD (.tup xs) lo hi M Q) = (Q (.tup (cutL xs lo hi)) M) := propext Iff.rfl
theorem rSl_lst {xs : List D} {lo hi : Option Int} {M : Mem} {Q : KN} : (rSlD (.lst xs) lo hi M Q) = (Q (.lst (cutL xs lo hi)) M) := propext Iff.rfl
theorem rSl_scr {ns : List Int} {lo hi : Option Int} {M : Mem} {Q : KN} : (rSlD (.scr ns) lo hi M Q) = (Q (.lst ((cutL ns lo hi).map D.int)) M) := propext Iff.rfl
theorem rRep_p {xs : List D} {k : Int} {M : Mem} {Q : KN} : (rRepD (.lst xs) (.int k) M Q) = (-(2 ^ 63) ≤ k ∧ k < 2 ^ 63 ∧ xs.length * k.toNat ≤ sizeLine ∧ Q (.lst (List.replicate k.toNat xs).flatten) M) := propext Iff.rfl
theorem pOptK {α : Type} {a : α} {k : α → Prop} : (optK (some a) k) = (k a) := propext Iff.rfl
end DL
/-! calls with keywords; `is` of truth values; enumerate, texts times a number come later -/
namespace DL
open PySem PySem.Spec PyProof.Rows L2 RZ
/-! ### keywords -/
/-- n values by place, m by keyword, brought into the parameters' order -/
def gOrd {α : Type} (n m : Nat) (ord : List Nat) (us ws : List α) : List α := if us.length = n ∧ ws.length = m then ord.filterMap fun i => (us ++ ws)[i]? else []
theorem vals_pick {xs : List V} {us : List Value} (r : Vals xs us) : ∀ ord : List Nat, Vals (ord.filterMap fun i => xs[i]?) (ord.filterMap fun i => us[i]?)
  | [] => .nil
  | i :: ord => by
    rw [List.filterMap_cons, List.filterMap_cons]
    have hl := r.length
    by_cases h : i < xs.length
    · obtain ⟨u, hu, ru⟩ := r.get (i := i) (x := xs[i]) (List.getElem?_eq_getElem h)
      rw [List.getElem?_eq_getElem h, hu]
      exact .cons ru (vals_pick r ord)
    · rw [List.getElem?_eq_none (by omega), List.getElem?_eq_none (by omega)]
      exact vals_pick r ord
theorem vals_app : ∀ {xs ys : List V} {us ws : List Value}, Vals xs us → Vals ys ws → Vals (xs ++ ys) (us ++ ws)
  | _, _, _, _, .nil, h => h
  | _, _, _, _, .cons r t, h => .cons r (vals_app t h)
theorem gOrd_vals {n m : Nat} {ord : List Nat} {vs zs : List V} {us ws : List Value} (r : Vals vs us) (q : Vals zs ws) : Vals (gOrd n m ord vs zs) (gOrd n m ord us ws) := by
  unfold gOrd
  have h1 := r.length
  have h2 := q.length
  by_cases h : vs.length = n ∧ zs.length = m
  · rw [if_pos h, if_pos (by rw [← h1, ← h2]; exact h)]
    exact vals_pick (vals_app r q) ord
  · rw [if_neg h, if_neg (by rw [← h1, ← h2]; exact h)]
    exact .nil
theorem dvs_pick {K : PySem.W.Frag} {H : Hp} {M : Mem} {ds : List D} {xs : List V} (r : DVs K H M ds xs) : ∀ ord : List Nat, DVs K H M (ord.filterMap fun i => ds[i]?) (ord.filterMap fun i => xs[i]?)
  | [] => rfl
  | i :: ord => by
    rw [List.filterMap_cons, List.filterMap_cons]
    have hl := r.len
    by_cases h : i < ds.length
    · obtain ⟨x, hx, g⟩ := r.get (List.getElem?_eq_getElem h)
      rw [List.getElem?_eq_getElem h, hx]
      exact ⟨_, _, rfl, g, dvs_pick r ord⟩
    · rw [List.getElem?_eq_none (by omega), List.getElem?_eq_none (by omega)]
      exact dvs_pick r ord
theorem gOrd_dvs {K : PySem.W.Frag} {H : Hp} {M : Mem} {n m : Nat} {ord : List Nat} {ds es : List D} {vs zs : List V} (r : DVs K H M ds vs) (q : DVs K H M es zs) : DVs K H M (gOrd n m ord ds es) (gOrd n m ord vs zs) := by
  unfold gOrd
  have h1 := r.len
  have h2 := q.len
  by_cases h : ds.length = n ∧ es.length = m
  · rw [if_pos h, if_pos (by rw [h1, h2]; exact h)]
    exact dvs_pick (DVs.app r q) ord
  · rw [if_neg h, if_neg (by rw [h1, h2]; exact h)]
    rfl
theorem kb_mk {K : PySem.W.Frag} {fd : FuncData} {ps ks : List Str} {n m : Nat} {ord : List Nat} (hp : 0 < ps.length) (h : ∀ us ws : List Value, us.length = n → ws.length = m → ∀ s, BindsTo s fd ⟨us, ks.zip ws⟩ (ps.zip (gOrd n m ord us ws))) : KBinds K fd ps ks (gOrd n m ord) (gOrd n m ord) := by
  refine ⟨fun s us ws _ hl => ?_, fun r q => gOrd_vals r q⟩
  by_cases e : us.length = n ∧ ws.length = m
  · exact h us ws e.1 e.2 s
  · unfold gOrd at hl
    rw [if_neg e] at hl
    rw [← hl] at hp
    exact absurd hp (Nat.lt_irrefl 0)
/-- the def at f, called with these keywords -/
structure FnJK (P : Program) (w : World) (K : PySem.W.Frag) (mg : Str → Option Value) (base : Heap) (k : Nat) (f : Addr) (sp : SpD) (ks : List Str) (n m : Nat) (ord : List Nat) : Prop where
  ex : ∃ fd ps, FnOk P w K mg base (L2.CX P w) k f fd ps (liftSp K sp) ∧ KBinds K fd ps ks (gOrd n m ord) (gOrd n m ord)
  kp : PySem.W.keepIn K (.ref f) = true
def wCallK (sp : SpD) (n m : Nat) (ord : List Nat) (wa wk : WA) : WE := fun ds M Q Xc => wa ds M (fun xs M1 => wk ds M1 (fun ys M2 => sp (gOrd n m ord xs ys) M2 Q Xc) Xc) Xc
theorem pk_mono {X : Cx} {es : List Keyword} {t t' : TA} (h : PK X es t) (i : ∀ σ H Q, t' σ H Q → t σ H Q) : PK X es t' := ⟨fun pos pins s σ H Q I hw => h.run pos pins s σ H Q I (i σ H Q hw)⟩
section
variable {X : Cx} {W : WX} {x : Str} {p pos : Pos} {e : Expr} {es : List Expr} {kws : List Keyword} {wa wk : WA} {k j n m : Nat} {ord : List Nat} {f : Addr} {sp : SpD} {ks : List Str} {nm : Option Str} {kpos : Pos} {we : WE} {wr : WA}
theorem jk_nil : JK X W [] wNil := pk_mono pk_nil fun σ H Q h => by
  obtain ⟨ds, M, F, Qd, Xd, hs, _, hw, l1, _⟩ := h
  exact l1 [] H [] M Ext.rfl' hs.1 rfl hw
theorem jk_one (ha : JE X W e we) : JK X W [⟨nm, e, kpos⟩] (wCons we wNil) := pk_mono (pk_cons ha pk_nil) fun σ H Q h => bindE (wa := we) (f := fun d _ M Q _ => Q [d] M) h fun v d H1 h => by
  obtain ⟨_, M, F, Qd, Xd, hs, hv, hw, l1, _⟩ := h
  exact l1 [v] H1 [d] M Ext.rfl' hs.1 hv hw
theorem dvs_turn {K : PySem.W.Frag} {H : Hp} {M : Mem} {d : D} {v : V} : ∀ {ds : List D} {vs : List V}, DVs K H M (ds ++ [d]) (vs ++ [v]) → DVs K H M (d :: ds) (v :: vs)
  | ds, vs, h => by
    have hl := h.len
    rw [List.length_append, List.length_append, List.length_singleton, List.length_singleton] at hl
    have e : vs.length = ds.length := by omega
    have a := h.take ds.length
    rw [List.take_left, ← e, List.take_left] at a
    obtain ⟨x, hx, g⟩ := h.get (i := ds.length) (d := d) (by rw [List.getElem?_append_right (Nat.le_refl _), Nat.sub_self]; rfl)
    rw [← e, List.getElem?_append_right (Nat.le_refl _), Nat.sub_self] at hx
    cases (Option.some.inj hx : v = x)
    exact ⟨v, vs, rfl, g, a⟩
theorem jk_cons {kws : List Keyword} (ha : JE X W e we) (hr : JK X W kws wr) : JK X W (⟨nm, e, kpos⟩ :: kws) (wCons we wr) :=
  pk_mono (pk_cons ha hr) fun σ H Q h => bindE (wa := we) (f := fun d ds M Q Xc => wr ds M (fun xs M2 => Q (d :: xs) M2) Xc) h fun v d H1 h => bindA (wa := wr) (f := fun xs _ M Q _ => Q (d :: xs) M) h fun vs ds H2 h => by
    obtain ⟨_, M, F, Qd, Xd, hs, hv, hw, l1, _⟩ := h
    exact l1 (v :: vs) H2 (d :: ds) M Ext.rfl' hs.1 (dvs_turn hv) hw
theorem run_k {pins : List (Addr × Obj)} {σ : L2.St} {H : Hp} {s : Shared} {Q : VK} {E : XK} {us zs : List Value} {vs ws : List V} {fd : FuncData} {ps : List Str} {q : Sp} (F : FnOk X.prog X.w X.K X.mg X.base (L2.CX X.prog X.w) k f fd ps q) (hr : Room k X.A)
    (hb : KBinds X.K fd ps ks (gOrd n m ord) (gOrd n m ord)) (pass : PassesAt (L2.CX X.prog X.w) X σ E) (I : Inv X pins σ H s) (r1 : Vals vs us) (r2 : Vals ws zs) (h : q (gOrd n m ord vs ws) H Q E) :
    wpAny (model X.prog X.w) X.A (call (.ref f) us (ks.zip zs)) (EP X pins σ Q) X.xe s := by
  have r := gOrd_vals (n := n) (m := m) (ord := ord) r1 r2
  have bt := hb.to s us zs I.kIn (r.length.symm.trans (F.len _ _ _ _ h))
  refine wpAny_call (codeAny_mono (F.run _ X.stack _ _ ⟨us, ks.zip zs⟩ _ _ _ E hr I.env0 bt r h) fun res s' done => ?_)
  rcases res with e | fl
  · exact pass pins H s e s' I done
  · cases fl <;> first | exact I.after done | exact done.elim
/-- f(e, .., k=e, ..) -/
theorem j_callK (F : FnJK X.prog X.w X.K X.mg X.base k f sp ks n m ord) (hr : Room j X.A) (hkj : k ≤ j) (hm : X.mg x = some (.ref f)) (tk : Takes X W) (ha : JA X W (e :: es) wa) (hkw : JK X W kws wk) (hg : Gl X x := by rfl)
    (hall : (backToKw pos (keywordEach kws X.env)).all (·.1.isSome) = true := by rfl) (hks : (backToKw pos (keywordEach kws X.env)).filterMap (·.1) = ks := by rfl)
    (hdb : (x == ("__debug__" : Str)) = false := by decide) (he : starEach (e :: es) X.env = (false, eval e X.env) :: starEach es X.env := by rfl)
    (hpl : ((backTo pos (starEach (e :: es) X.env)).any (·.1) || (backToKw pos (keywordEach kws X.env)).any (·.1.isNone)) = false := by rfl) :
    JE X W (.Call (.Name x p) (e :: es) kws pos) (wCallK sp n m ord wa wk) := by
  obtain ⟨fd, ps, h1, h2⟩ := F.ex
  have main : ∀ σ, PE X (.Call (.Name x p) (e :: es) kws pos) (fun σ' H Q => σ' = σ ∧ tCallK (liftSp X.K sp) (gOrd n m ord) (L2.WE W σ) (liftA X.K W wa) (liftA X.K W wk) σ' H Q) := fun σ => ⟨fun pins s σ' H Q I h => by
    obtain ⟨e1, h⟩ := h
    subst e1
    refine wpAny_Call_Name_kw (ld_glob I hg hm ?_ hdb)
    refine PySem.W.callWith_KW (h₀ := X.base) I.ok.mod.kin F.kp hall (thn (ha.run pos pins s _ H _ I h) fun us s1 ⟨vs, H1, I1, r, q⟩ => ?_) hpl he
    refine thn (hkw.run pos pins s1 _ H1 _ I1 q) fun ws s2 ⟨zs, H2, I2, rz, q2⟩ => ⟨I2.kIn, ?_⟩
    rw [hks]
    exact run_k h1 (hr.mono hkj) h2 (passAt tk _) I2 r rz q2⟩
  refine ⟨fun pins s σ H Q I h => (main σ).run pins s σ H Q I ⟨rfl, ?_⟩⟩
  refine bindA (wa := wa) (f := fun xs ds M Q Xc => wk ds M (fun ys M2 => sp (gOrd n m ord xs ys) M2 Q Xc) Xc) h fun vs xs H1 h => ?_
  rw [List.append_nil, List.append_nil] at h
  have n1 : vs.length = xs.length := by
    obtain ⟨_, _, _, _, _, _, hv, _⟩ := h
    exact hv.len
  refine bindA (wa := wk) (f := fun ys _ M Q Xc => sp (gOrd n m ord xs ys) M Q Xc) h fun zs ys H2 h => ?_
  obtain ⟨ds, M, F', Qd, Xd, hs, hv, hw, l1, l2⟩ := h
  have n2 := hv.len
  rw [List.length_append, List.length_append] at n2
  have e : zs.length = ys.length := by omega
  have a := hv.take ys.length
  have b := hv.drop ys.length
  rw [List.take_left, ← e, List.take_left] at a
  rw [List.drop_left, ← e, List.drop_left] at b
  exact ⟨gOrd n m ord xs ys, M, F', Qd, Xd, hs.1, gOrd_dvs b a, hw, l1, l2⟩
/-- x is y, truth values -/
def rIsBD (neg : Bool) : RD2 := fun d e M Q => match d, e with
  | .bl x, .bl y => Q (.bl (xor neg (decide (x = y)))) M
  | _, _ => False
end
end DL
/-! dicts: what stands at a key, a key stored; truth values compared by `is` -/
namespace DL
open PySem PySem.Spec PyProof.Rows L2 RZ
/-- what stands at the key -/
def valD : List Key → List D → Key → Option D
  | j :: ks, x :: xs, k => if j = k then some x else valD ks xs k
  | _, _, _ => none
/-- the keys and values of a dict, frozen or owned -/
def moDct : Option MO → Option (List Key × List D)
  | some (.dct ks xs) => some (ks, xs)
  | _ => none
def dctOf (M : Mem) : D → Option (List Key × List D)
  | .dct ks xs => some (ks, xs)
  | .ref a => moDct (M a)
  | _ => none
section
variable {K : PySem.W.Frag} {H : Hp} {M F : Mem}
theorem valD_ok : ∀ {kvs : List (Key × V)} {ks : List Key} {xs : List D} {k : Key} {d : D}, kvs.map (·.1) = ks → DVs K H M xs (kvs.map (·.2)) → valD ks xs k = some d → ∃ v, valV kvs k = some v ∧ DV K H M d v
  | [], ks, xs, k, d, e, _, h => by
    cases (show [] = ks from e)
    cases h
  | p :: kvs, ks, xs, k, d, e, g, h => by
    cases (show p.1 :: kvs.map (·.1) = ks from e)
    cases xs with
    | nil => cases h
    | cons x xs =>
      obtain ⟨y, ys, e2, g1, g2⟩ := g
      cases e2
      by_cases c : p.1 = k
      · have h' : (if p.1 = k then some x else valD (kvs.map (·.1)) xs k) = some d := h
        rw [if_pos c] at h'
        cases h'
        exact ⟨p.2, valV_pos c, g1⟩
      · have h' : (if p.1 = k then some x else valD (kvs.map (·.1)) xs k) = some d := h
        rw [if_neg c] at h'
        obtain ⟨v, h1, h2⟩ := valD_ok rfl g2 h'
        exact ⟨v, by rw [valV_neg c]; exact h1, h2⟩
theorem dctOf_ok (R : Rm K H M F) {d : D} {ks : List Key} {xs : List D} {x : V} (h : dctOf M d = some (ks, xs)) (g : DV K H (uni M F) d x) : ∃ a kvs, x = .ref a ∧ Rd H a (.dK kvs) ∧ kvs.map (·.1) = ks ∧ DVs K H (uni M F) xs (kvs.map (·.2)) := by
  cases d <;> first | cases h | skip
  · rename_i a
    have h' : moDct (M a) = some (ks, xs) := h
    cases e : M a with
    | none => rw [e] at h'; cases h'
    | some o =>
      rw [e] at h'
      cases o <;> first | cases h' | skip
      obtain ⟨kvs, q1, q2, q3⟩ := R.get e
      cases (show x = .ref a from g)
      exact ⟨a, kvs, rfl, .inl q1, q2, q3⟩
  · obtain ⟨a, kvs, e, q1, _, q2, q3⟩ := g
    exact ⟨a, kvs, e, q1, q2, q3⟩
theorem keyD_val {d : D} {k : Key} {y : V} (h : keyD d = some k) (g : DV K H M d y) : y = kV k := by
  cases d <;> first | (cases h; exact g) | cases h
end
/-- d[k] -/
def rDixD : RD2 := fun d e M Q => optK (dctOf M d) fun p => optK (keyD e) fun k => optK (valD p.1 p.2 k) fun v => Q v M
section
variable {X : Cx} {W : WX} {o i : Expr} {wo wi : WE} {pos : Pos}
theorem j_dix (hu : X.A.units + 1 < cLine) (ho : JE X W o wo) (hi : JE X W i wi) (hs : NoSl i := by exact fun _ _ => rfl) : JE X W (.Subscript o i pos) (wOp rDixD wo wi) :=
  pe_mono (pe_dget hu ho hi hs) fun σ H Q h => bindE (wa := wo) (f := fun x ds M Q Xc => wi ds M (fun y M2 => rDixD x y M2 Q) Xc) h fun x d H1 h => bindE (wa := wi) (f := fun y _ M Q _ => rDixD d y M Q) h fun y e H2 h => by
    obtain ⟨ds, M, F, Qd, Xd, hs', hv, hw, l1, _⟩ := h
    obtain ⟨_, _, e1, h1, _, _, e2, h2, _⟩ := hv
    cases e1
    cases e2
    obtain ⟨⟨ks, xs⟩, q1, hw⟩ := optK_of hw
    obtain ⟨k, q2, hw⟩ := optK_of hw
    obtain ⟨v, q3, q⟩ := optK_of hw
    obtain ⟨a, kvs, e3, r1, r2, r3⟩ := dctOf_ok hs'.1 q1 h2
    obtain ⟨u, r4, r5⟩ := valD_ok r2 r3 q3
    refine ⟨a, u, e3, .inl ⟨kvs, k, r1, keyD_val q2 h1, r4.symm⟩, l1 u H2 v M Ext.rfl' hs'.1 r5 q⟩
end
section
variable {X : Cx}
theorem od_isB : OpR X (compareOp .Is) (liftV2 X.K (rIsBD false)) := by
  intro pins s σ H x y v u Q I rx ry hh
  obtain ⟨d, e, M, F, Qd, R, h1, h2, h3, l⟩ := hh
  unfold rIsBD at h3
  split at h3
  · rename_i a b
    cases (show x = .bl a from h1)
    cases (show y = .bl b from h2)
    exact op_isBl pins s σ H _ _ v u Q I rx ry ⟨a, b, rfl, rfl, l (.bl _) H (.bl _) M Ext.rfl' R rfl (by rw [Bool.false_xor] at h3; exact h3)⟩
  · exact h3.elim
end
/-! ### d[k] = v, d owned -/
def replD : List Key → List D → Key → D → List D
  | j :: ks, x :: xs, k, d => (if j = k then d else x) :: replD ks xs k d
  | _, _, _, _ => []
def putDk (ks : List Key) (xs : List D) (k : Key) (d : D) : List Key × List D := if (ks.any fun j => decide (j = k)) = true then (ks, replD ks xs k d) else (ks ++ [k], xs ++ [d])
theorem repl_ok {K : PySem.W.Frag} {H : Hp} {M : Mem} {k : Key} {d : D} {v : V} (g : DV K H M d v) : ∀ {kvs : List (Key × V)} {xs : List D}, DVs K H M xs (kvs.map (·.2)) →
    DVs K H M (replD (kvs.map (·.1)) xs k d) ((kvs.map fun kv => if kv.1 = k then (kv.1, v) else kv).map (·.2)) ∧ (kvs.map fun kv => if kv.1 = k then (kv.1, v) else kv).map (·.1) = kvs.map (·.1)
  | [], xs, h => by
    refine ⟨?_, rfl⟩
    cases xs <;> rfl
  | p :: kvs, xs, h => by
    cases xs with
    | nil => cases (show p.2 :: kvs.map (·.2) = [] from h)
    | cons x xs =>
      obtain ⟨y, ys, e, h1, h2⟩ := h
      cases e
      obtain ⟨q1, q2⟩ := repl_ok g h2
      by_cases c : p.1 = k
      · refine ⟨⟨v, _, ?_, ?_, q1⟩, ?_⟩
        · simp [c]
        · simp [c]; exact g
        · simpa [c] using q2
      · refine ⟨⟨p.2, _, ?_, ?_, q1⟩, ?_⟩
        · simp [c]
        · simp [c]; exact h1
        · simpa [c] using q2
theorem putDk_ok {K : PySem.W.Frag} {H : Hp} {M : Mem} {k : Key} {d : D} {v : V} {kvs : List (Key × V)} {xs : List D} (g : DV K H M d v) (h : DVs K H M xs (kvs.map (·.2))) :
    (putK kvs k v).map (·.1) = (putDk (kvs.map (·.1)) xs k d).1 ∧ DVs K H M (putDk (kvs.map (·.1)) xs k d).2 ((putK kvs k v).map (·.2)) := by
  have e : ((kvs.map (·.1)).any fun j => decide (j = k)) = kvs.any fun kv => decide (kv.1 = k) := by rw [List.any_map]; rfl
  unfold putDk putK
  rw [e]
  by_cases c : (kvs.any fun kv => decide (kv.1 = k)) = true
  · rw [if_pos c, if_pos c]
    obtain ⟨q1, q2⟩ := repl_ok (k := k) g h
    exact ⟨q2, q1⟩
  · rw [if_neg c, if_neg c]
    refine ⟨by rw [List.map_append]; rfl, ?_⟩
    rw [List.map_append]
    exact DVs.app h ⟨v, [], rfl, g, rfl⟩
def ownD (M : Mem) (d : D) (k : Addr → List Key → List D → Prop) : Prop := match d with
  | .ref a => optK (moDct (M a)) fun p => k a p.1 p.2
  | _ => False
def rDsetD (o i v : D) (M : Mem) (k : Mem → Prop) : Prop := ownD M o fun a ks xs => optK (keyD i) fun j => xs.length < sizeLine ∧ k (mput M a (.dct (putDk ks xs j v).1 (putDk ks xs j v).2))
section
variable {X : Cx} {W : WX} {o i e : Expr} {wo wi we : WE} {pos : Pos}
theorem js_dsub {spos : Pos} (hu : X.A.units + 1 < cLine) (he : JE X W e we) (ho : JE X W o wo) (hi : JE X W i wi)
    (ha : ∀ v, assign (.Subscript o i pos) X.env v = (do
      let ov ← holding [v] (eval o X.env)
      let iv ← holding [v, ov] (eval i X.env)
      standAt pos
      holding [v, ov, iv] (setItem ov iv v)
      release [v, ov, iv] []) := by intro _; rfl)
    (hs : swapsWithSole [.Subscript o i pos] e spos.line X.env = pure false := by rfl) (hw : swappedStores [.Subscript o i pos] e X.env = pure none := by rfl)
    (h1 : (assignEach [.Subscript o i pos] X.env).map (·.2) = [assign (.Subscript o i pos) X.env] := by rfl) : JS X W (.Assign [.Subscript o i pos] e spos) (wSub we wo wi rDsetD) :=
  ps_mono (ps_asg he (pg_sub ho hi (set_dict hu) ha) hs hw h1) fun D' σ H h =>
    bindSE (wa := we) (f := fun v E ds M => wo ds M (fun o M2 => wi ds M2 (fun i M3 => rDsetD o i v M3 fun M4 => E.nx ds M4) (E.xc ds)) (E.xc ds)) h fun v d H1 h =>
    bindSE (wa := wo) (f := fun o E ds M => wi ds M (fun i M3 => rDsetD o i d M3 fun M4 => E.nx ds M4) (E.xc ds)) h fun ov od H2 h =>
    bindSE (wa := wi) (f := fun i E ds M => rDsetD od i d M fun M4 => E.nx ds M4) h fun iv id H3 h => by
      obtain ⟨ds, M, F, E, hs, hv, hw, l⟩ := h
      obtain ⟨_, _, e1, g1, _, _, e2, g2, _, _, e3, g3, _⟩ := hv
      cases e1
      cases e2
      cases e3
      unfold rDsetD ownD at hw
      cases od <;> first | exact hw.elim | skip
      rename_i a
      obtain ⟨⟨ks, xs⟩, q1, hw⟩ := optK_of hw
      obtain ⟨j, q2, q3, q⟩ := optK_of hw
      have em : M a = some (.dct ks xs) := by
        cases z : M a with
        | none => rw [z] at q1; cases q1
        | some u => rw [z] at q1; cases u <;> cases q1; rfl
      cases (show ov = .ref a from g2)
      obtain ⟨kvs, k1, k2, k3⟩ := hs.1.get em
      subst k2
      have lk : kvs.length < sizeLine := by
        have z := k3.len
        rw [List.length_map] at z
        rw [z]
        exact q3
      refine ⟨a, _, rfl, .inl ⟨kvs, j, k1, keyD_val q2 g1, lk, rfl⟩, ?_⟩
      obtain ⟨p1, p2⟩ := putDk_ok (k := j) g3 k3
      have x := hs.1.xset (o := HO.dK (putK kvs j v)) (u := .dct (putDk (kvs.map (·.1)) xs j d).1 (putDk (kvs.map (·.1)) xs j d).2) em
      exact l.nx _ _ ds _ x (hs.ext x (hs.1.set em ⟨_, upd_same, p1, DVs.ext hs.1.rel x _ _ p2⟩)) q
end
end DL
/-! dict(zip(xs, ys)): an iterator over a list or a tuple, as one thing -/
namespace DL
open PySem PySem.Spec PyProof.Rows L2 RZ
/-- it draws the items of l, one after the other -/
structure Draw (prog : Program) (w : World) (it l : Addr) (xs : Array Value) (St : Nat → Heap → Prop) : Prop where
  it_ : ∀ i h, St i h → ∃ o, h.get? it = some o
  src : ∀ i h, St i h → ∃ o, h.get? l = some o
  frame : ∀ i h h', St i h → (∀ o, h.get? it = some o → h'.get? it = some o) → (∀ o, h.get? l = some o → h'.get? l = some o) → St i h'
  item : ∀ (A : Around) (s : Shared) (E : Value → Shared → Prop) (Q : Value → Shared → Prop) i x, St i s.heap → xs[i]? = some x → (∀ h', St (i + 1) h' → Heap.SameBut it s.heap h' → Q x { s with heap := h' }) →
    wpAny (model prog w) A (Builtin.SmallTypes.nextOf (.ref it)) Q E s
  done : ∀ (A : Around) (s : Shared) (E : Value → Shared → Prop) (Q : Value → Shared → Prop) i, A.handled = none → St i s.heap → xs[i]? = none →
    (∀ h' e, Heap.ExtBut it s.heap h' → (∃ o, h'.get? e = some o ∧ o.cls = .type "StopIteration") → E (.ref e) { s with heap := h' }) → wpAny (model prog w) A (Builtin.SmallTypes.nextOf (.ref it)) Q E s
theorem draw_list {prog : Program} {w : World} {it l : Addr} {xs : Array Value} (ne : l ≠ it) : Draw prog w it l xs (fun i h => h.IsListIter it l i ∧ h.IsList l xs) where
  it_ := fun i h ⟨⟨o, e, _⟩, _⟩ => ⟨o, e⟩
  src := fun i h ⟨_, ⟨o, e, _⟩⟩ => ⟨o, e⟩
  frame := fun i h h' ⟨a, b⟩ k1 k2 => ⟨a.at k1, b.at k2⟩
  item := fun A s E Q i x ⟨a, b⟩ e q => wpAny_nextOf_list_item a b e fun h' a' sb => q h' ⟨a', b.extBut sb.extBut ne⟩ sb
  done := fun A s E Q i hh ⟨a, b⟩ e q => wpAny_nextOf_list_end hh a b e fun h' x sb hx => q h' x sb hx
theorem draw_tup {prog : Program} {w : World} {it l : Addr} {xs : Array Value} (ne : l ≠ it) : Draw prog w it l xs (fun i h => h.IsTupleIter it l i ∧ h.IsTuple l xs) where
  it_ := fun i h ⟨⟨o, e, _⟩, _⟩ => ⟨o, e⟩
  src := fun i h ⟨_, ⟨o, e, _⟩⟩ => ⟨o, e⟩
  frame := fun i h h' ⟨a, b⟩ k1 k2 => ⟨a.at k1, b.at k2⟩
  item := fun A s E Q i x ⟨a, b⟩ e q => RZ.nextOf_tuple_item a b e fun h' a' sb => q h' ⟨a', b.extBut sb.extBut ne⟩ sb
  done := fun A s E Q i hh ⟨a, b⟩ e q => RZ.nextOf_tuple_end hh a b e fun h' x sb hx => q h' x sb hx
section
variable {prog : Program} {w : World} {A : Around} {E : Value → Shared → Prop} {s : Shared} {z TI TO T i1 i2 l1 l2 : Addr} {xs ys : Array Value} {S1 S2 : Nat → Heap → Prop} {k : Nat} {f : Bool} {oT : Obj} {x y : Value}
/-- the next pair while the last one is still out -/
theorem held_item (D : ZipApart z TI TO i1 i2 l1 l2) (d1 : Draw prog w i1 l1 xs S1) (d2 : Draw prog w i2 l2 ys S2) (hz : IsZipHeld s.heap z TI TO T f) (hT : s.heap.get? T = some oT) (hTI : IsPair s.heap TI (.ref i1) (.ref i2))
    (g1 : S1 k s.heap) (g2 : S2 k s.heap) (ex : xs[k]? = some x) (ey : ys[k]? = some y) {Q : Value → Shared → Prop}
    (q : ∀ h', IsZipHeld h' z TI TO T true → S1 (k + 1) h' → S2 (k + 1) h' → IsPair h' s.heap.objs.size x y → h'.objs.size = s.heap.objs.size + 1 → (∀ c o, c ≠ z → c ≠ i1 → c ≠ i2 → s.heap.get? c = some o → h'.get? c = some o) → Q (.ref s.heap.objs.size) { s with heap := h' }) :
    wpAny (model prog w) A (Builtin.«zip.__next__» ⟨[.ref z], []⟩) (fun fin s' => ∃ v, fin = .done (.ret v) ∧ Q v s') E s := by
  refine wpAny_bind (m := field (.ref z) 2) (wpAny_field hz rfl (x := .bool false) rfl (wpAny_bind (m := field (.ref z) 3) (wpAny_field hz rfl (x := .ref TI) rfl (wpAny_bind (wpAny_seqItems hTI rfl ?_)))))
  refine wpAny_bind (m := Builtin.SmallTypes.ownedTupleIsFree (.ref z)) (wpAny_tupleHeld_zip hz hT fun a za sa => ?_)
  simp only [Bool.false_eq_true, if_false]
  rw [← Array.forIn_toList]
  simp only [List.forIn_cons, List.forIn_nil]
  have g1a : S1 k a := d1.frame _ _ _ g1 (fun o e => sa.extBut _ _ D.i1z e) fun o e => sa.extBut _ _ D.l1z e
  have g2a : S2 k a := d2.frame _ _ _ g2 (fun o e => sa.extBut _ _ D.i2z e) fun o e => sa.extBut _ _ D.l2z e
  refine wpAny_bind (wpAny_bind (wpAny_bind (wpAny_holding ?_)))
  refine wpAny_bind (m := Builtin.SmallTypes.nextOf (.ref i1)) (d1.item _ { s with heap := a } _ _ k x g1a ex fun b g1b sb => wpAny_pure (wpAny_pure ?_))
  have g2b : S2 k b := d2.frame _ _ _ g2a (fun o e => sb.extBut _ _ D.i12.symm e) fun o e => sb.extBut _ _ D.l2i1 e
  refine wpAny_bind (wpAny_bind (wpAny_holding ?_))
  refine wpAny_bind (m := Builtin.SmallTypes.nextOf (.ref i2)) (d2.item _ { s with heap := b } _ _ k y g2b ey fun c g2c sc => wpAny_pure (wpAny_pure (wpAny_pure ?_)))
  have n : c.objs.size = s.heap.objs.size := sc.1.trans (sb.1.trans sa.1)
  have keep : ∀ v o, v ≠ z → v ≠ i1 → v ≠ i2 → s.heap.get? v = some o → c.get? v = some o := fun v o e1 e2 e3 e => sc.extBut _ _ e3 (sb.extBut _ _ e2 (sa.extBut _ _ e1 e))
  have zc : IsZipHeld c z TI TO T true := sc.extBut _ _ D.i2z.symm (sb.extBut _ _ D.i1z.symm za)
  have g1c : S1 (k + 1) c := d1.frame _ _ _ g1b (fun o e => sc.extBut _ _ D.i12 e) fun o e => sc.extBut _ _ D.l1i2 e
  refine wpAny_bind (m := newTuple [x, y]) (wpAny_newTuple (wpAny_pure ⟨_, rfl, ?_⟩))
  have more : ∀ v o, c.get? v = some o → (c.push { cls := .type "tuple", data := .seq #[x, y] }).get? v = some o := fun v o e => Heap.get?_push_of_some _ e
  have last : IsPair (c.push { cls := .type "tuple", data := .seq #[x, y] }) c.objs.size x y := Heap.get?_push_size _ rfl
  have grown : (c.push { cls := .type "tuple", data := .seq #[x, y] }).objs.size = c.objs.size + 1 := Heap.size_push ..
  show Q (.ref c.objs.size) _
  rw [n] at last grown ⊢
  exact q _ (more _ _ zc) (d1.frame _ _ _ g1c (fun o e => more _ _ e) fun o e => more _ _ e) (d2.frame _ _ _ g2c (fun o e => more _ _ e) fun o e => more _ _ e) last grown fun v o e1 e2 e3 e => more _ _ (keep v o e1 e2 e3 e)
/-- the end while the last pair is still out -/
theorem held_end (hh : A.handled = none) (D : ZipApart z TI TO i1 i2 l1 l2) (d1 : Draw prog w i1 l1 xs S1) (d2 : Draw prog w i2 l2 ys S2) (hz : IsZipHeld s.heap z TI TO T f) (hT : s.heap.get? T = some oT) (hTI : IsPair s.heap TI (.ref i1) (.ref i2))
    (g1 : S1 k s.heap) (g2 : S2 k s.heap) (fin : xs[k]? = none ∨ ys[k]? = none) {Q : PySem.Fin → Shared → Prop}
    (q : ∀ h' e, (∀ c o, c ≠ z → c ≠ i1 → c ≠ i2 → s.heap.get? c = some o → h'.get? c = some o) → (∃ o, h'.get? e = some o ∧ o.cls = .type "StopIteration") → E (.ref e) { s with heap := h' }) :
    wpAny (model prog w) A (Builtin.«zip.__next__» ⟨[.ref z], []⟩) Q E s := by
  refine wpAny_bind (m := field (.ref z) 2) (wpAny_field hz rfl (x := .bool false) rfl (wpAny_bind (m := field (.ref z) 3) (wpAny_field hz rfl (x := .ref TI) rfl (wpAny_bind (wpAny_seqItems hTI rfl ?_)))))
  refine wpAny_bind (m := Builtin.SmallTypes.ownedTupleIsFree (.ref z)) (wpAny_tupleHeld_zip hz hT fun a za sa => ?_)
  simp only [Bool.false_eq_true, if_false]
  rw [← Array.forIn_toList]
  simp only [List.forIn_cons, List.forIn_nil]
  have g1a : S1 k a := d1.frame _ _ _ g1 (fun o e => sa.extBut _ _ D.i1z e) fun o e => sa.extBut _ _ D.l1z e
  have g2a : S2 k a := d2.frame _ _ _ g2 (fun o e => sa.extBut _ _ D.i2z e) fun o e => sa.extBut _ _ D.l2z e
  refine wpAny_bind (wpAny_bind (wpAny_bind (wpAny_holding ?_)))
  cases ex : xs[k]? with
  | none => exact wpAny_bind (m := Builtin.SmallTypes.nextOf (.ref i1)) (d1.done _ { s with heap := a } _ _ k hh g1a ex fun b e sb he => q b e (fun c o e1 e2 _ h => sb _ _ e2 (sa.extBut _ _ e1 h)) he)
  | some x =>
    have ey : ys[k]? = none := fin.resolve_left (by rw [ex]; exact fun h => nomatch h)
    refine wpAny_bind (m := Builtin.SmallTypes.nextOf (.ref i1)) (d1.item _ { s with heap := a } _ _ k x g1a ex fun b g1b sb => wpAny_pure (wpAny_pure ?_))
    have g2b : S2 k b := d2.frame _ _ _ g2a (fun o e => sb.extBut _ _ D.i12.symm e) fun o e => sb.extBut _ _ D.l2i1 e
    refine wpAny_bind (wpAny_bind (wpAny_holding ?_))
    exact wpAny_bind (m := Builtin.SmallTypes.nextOf (.ref i2)) (d2.done _ { s with heap := b } _ _ k hh g2b ey fun c e sc he => q c e (fun v o e1 e2 e3 h => sc _ _ e3 (sb.extBut _ _ e2 (sa.extBut _ _ e1 h))) he)
/-- the next pair, put into the zip's own tuple and handed out as a new one -/
theorem free_item {u v : Value} (D : ZipApart z TI TO i1 i2 l1 l2) (ne1 : l1 ≠ TO) (ne2 : l2 ≠ TO) (d1 : Draw prog w i1 l1 xs S1) (d2 : Draw prog w i2 l2 ys S2) (hz : IsZip s.heap z TI TO .none) (hTI : IsPair s.heap TI (.ref i1) (.ref i2)) (hTO : IsPair s.heap TO u v)
    (g1 : S1 k s.heap) (g2 : S2 k s.heap) (ex : xs[k]? = some x) (ey : ys[k]? = some y) {Q : Value → Shared → Prop}
    (q : ∀ h', IsZipHeld h' z TI TO s.heap.objs.size false → S1 (k + 1) h' → S2 (k + 1) h' → IsPair h' s.heap.objs.size x y → h'.objs.size = s.heap.objs.size + 1 → (∀ c o, c ≠ z → c ≠ TO → c ≠ i1 → c ≠ i2 → s.heap.get? c = some o → h'.get? c = some o) → Q (.ref s.heap.objs.size) { s with heap := h' }) :
    wpAny (model prog w) A (Builtin.«zip.__next__» ⟨[.ref z], []⟩) (fun fin s' => ∃ v, fin = .done (.ret v) ∧ Q v s') E s := by
  refine wpAny_bind (m := field (.ref z) 2) (wpAny_field hz rfl (x := .bool false) rfl (wpAny_bind (m := field (.ref z) 3) (wpAny_field hz rfl (x := .ref TI) rfl (wpAny_bind (wpAny_seqItems hTI rfl ?_)))))
  refine wpAny_bind (m := Builtin.SmallTypes.ownedTupleIsFree (.ref z)) (wpAny_bind (wpAny_field hz rfl (x := .none) rfl (wpAny_pure ?_)))
  simp only [if_true]
  refine wpAny_bind (wpAny_rule (wpAny_bind (wpAny_field hz rfl (x := .ref TO) rfl (wpAny_bind (wpAny_setField_rec hz (by simp) fun a za sa => ?_)))))
  simp only [List.zipIdx_cons, List.zipIdx_nil, List.forIn_cons, List.forIn_nil]
  have za' : IsZip a z TI TO .ellipsis := za
  have g1a : S1 k a := d1.frame _ _ _ g1 (fun o e => sa.extBut _ _ D.i1z e) fun o e => sa.extBut _ _ D.l1z e
  have g2a : S2 k a := d2.frame _ _ _ g2 (fun o e => sa.extBut _ _ D.i2z e) fun o e => sa.extBut _ _ D.l2z e
  refine wpAny_bind (wpAny_bind (wpAny_bind (wpAny_onRaise ?_)))
  refine wpAny_bind (m := Builtin.SmallTypes.nextOf (.ref i1)) (d1.item _ { s with heap := a } _ _ k x g1a ex fun b g1b sb => wpAny_pure ?_)
  have pb : IsPair b TO u v := sb.extBut _ _ D.TOi1 (sa.extBut _ _ D.TOz hTO)
  refine wpAny_bind (wpAny_seqItems pb rfl (wpAny_bind (wpAny_updateSeq_pair pb fun c pc sc => wpAny_bind (wpAny_letGo (wpAny_pure ?_)))))
  have pc' : IsPair c TO x v := pc
  have g2c : S2 k c := d2.frame _ _ _ g2a (fun o e => sc.extBut _ _ D.TOi2.symm (sb.extBut _ _ D.i12.symm e)) fun o e => sc.extBut _ _ ne2 (sb.extBut _ _ D.l2i1 e)
  refine wpAny_bind (wpAny_bind (wpAny_onRaise ?_))
  refine wpAny_bind (m := Builtin.SmallTypes.nextOf (.ref i2)) (d2.item _ { s with heap := c } _ _ k y g2c ey fun d g2d sd => wpAny_pure ?_)
  have pd : IsPair d TO x v := sd.extBut _ _ D.TOi2 pc'
  refine wpAny_bind (wpAny_seqItems pd rfl (wpAny_bind (wpAny_updateSeq_pair pd fun e pe se => wpAny_bind (wpAny_letGo (wpAny_pure (wpAny_pure ?_))))))
  have pe' : IsPair e TO x y := pe
  refine wpAny_bind (wpAny_seqItems pe' rfl (wpAny_bind (wpAny_newTuple ?_)))
  have n : e.objs.size = s.heap.objs.size := se.1.trans (sd.1.trans (sc.1.trans (sb.1.trans sa.1)))
  have keep : ∀ m o, m ≠ z → m ≠ TO → m ≠ i1 → m ≠ i2 → s.heap.get? m = some o → e.get? m = some o := fun m o e1 e2 e3 e4 h => se.extBut _ _ e2 (sd.extBut _ _ e4 (sc.extBut _ _ e2 (sb.extBut _ _ e3 (sa.extBut _ _ e1 h))))
  have ze : IsZip e z TI TO .ellipsis := se.extBut _ _ D.TOz.symm (sd.extBut _ _ D.i2z.symm (sc.extBut _ _ D.TOz.symm (sb.extBut _ _ D.i1z.symm za')))
  have ltz : z < e.objs.size := Heap.lt_size ze
  have zp : IsZip (e.push { cls := .type "tuple", data := .seq #[x, y] }) z TI TO .ellipsis := Heap.get?_push_of_some _ ze
  refine wpAny_bind (m := Builtin.SmallTypes.ownedTupleHandOut (.ref z) (.ref e.objs.size)) ?_
  unfold Builtin.SmallTypes.ownedTupleHandOut
  refine wpAny_bind (wpAny_setField_rec zp (by simp) fun r1 zr1 sr1 => ?_)
  have zr1' : IsZip r1 z TI TO (rawInt e.objs.size) := zr1
  refine wpAny_setField_rec zr1' (by simp) fun r2 zr2 sr2 => wpAny_pure ⟨_, rfl, ?_⟩
  have zr2' : IsZipHeld r2 z TI TO e.objs.size false := zr2
  have more : ∀ m o, m ≠ z → e.get? m = some o → r2.get? m = some o := fun m o e1 h => sr2.extBut _ _ e1 (sr1.extBut _ _ e1 (Heap.get?_push_of_some _ h))
  have last : IsPair r2 e.objs.size x y := sr2.extBut _ _ (Nat.ne_of_gt ltz) (sr1.extBut _ _ (Nat.ne_of_gt ltz) (Heap.get?_push_size _ rfl))
  have grown : r2.objs.size = e.objs.size + 1 := by rw [sr2.1, sr1.1, Heap.size_push]
  have g1r : S1 (k + 1) r2 := d1.frame _ _ _ g1b (fun o h => more _ _ D.i1z (se.extBut _ _ D.TOi1.symm (sd.extBut _ _ D.i12 (sc.extBut _ _ D.TOi1.symm h)))) fun o h => more _ _ D.l1z (se.extBut _ _ ne1 (sd.extBut _ _ D.l1i2 (sc.extBut _ _ ne1 h)))
  have g2r : S2 (k + 1) r2 := d2.frame _ _ _ g2d (fun o h => more _ _ D.i2z (se.extBut _ _ D.TOi2.symm h)) fun o h => more _ _ D.l2z (se.extBut _ _ ne2 h)
  show Q (.ref e.objs.size) _
  rw [n] at zr2' last grown ⊢
  exact q _ zr2' g1r g2r last grown fun m o e1 e2 e3 e4 h => more _ _ e1 (keep m o e1 e2 e3 e4 h)
/-- the end, nothing out (two unequal lengths too) -/
theorem free_end {u v : Value} (hh : A.handled = none) (D : ZipApart z TI TO i1 i2 l1 l2) (ne1 : l1 ≠ TO) (ne2 : l2 ≠ TO) (d1 : Draw prog w i1 l1 xs S1) (d2 : Draw prog w i2 l2 ys S2) (hz : IsZip s.heap z TI TO .none) (hTI : IsPair s.heap TI (.ref i1) (.ref i2)) (hTO : IsPair s.heap TO u v)
    (g1 : S1 k s.heap) (g2 : S2 k s.heap) (fin : xs[k]? = none ∨ ys[k]? = none) {Q : PySem.Fin → Shared → Prop}
    (q : ∀ h' e, (∀ c o, c ≠ z → c ≠ TO → c ≠ i1 → c ≠ i2 → s.heap.get? c = some o → h'.get? c = some o) → (∃ o, h'.get? e = some o ∧ o.cls = .type "StopIteration") → E (.ref e) { s with heap := h' }) :
    wpAny (model prog w) A (Builtin.«zip.__next__» ⟨[.ref z], []⟩) Q E s := by
  refine wpAny_bind (m := field (.ref z) 2) (wpAny_field hz rfl (x := .bool false) rfl (wpAny_bind (m := field (.ref z) 3) (wpAny_field hz rfl (x := .ref TI) rfl (wpAny_bind (wpAny_seqItems hTI rfl ?_)))))
  refine wpAny_bind (m := Builtin.SmallTypes.ownedTupleIsFree (.ref z)) (wpAny_bind (wpAny_field hz rfl (x := .none) rfl (wpAny_pure ?_)))
  simp only [if_true]
  refine wpAny_bind (wpAny_rule (wpAny_bind (wpAny_field hz rfl (x := .ref TO) rfl (wpAny_bind (wpAny_setField_rec hz (by simp) fun a za sa => ?_)))))
  simp only [List.zipIdx_cons, List.zipIdx_nil, List.forIn_cons, List.forIn_nil]
  have za' : IsZip a z TI TO .ellipsis := za
  have g1a : S1 k a := d1.frame _ _ _ g1 (fun o e => sa.extBut _ _ D.i1z e) fun o e => sa.extBut _ _ D.l1z e
  have g2a : S2 k a := d2.frame _ _ _ g2 (fun o e => sa.extBut _ _ D.i2z e) fun o e => sa.extBut _ _ D.l2z e
  refine wpAny_bind (wpAny_bind (wpAny_bind (wpAny_onRaise ?_)))
  cases ex : xs[k]? with
  | none =>
    refine wpAny_bind (m := Builtin.SmallTypes.nextOf (.ref i1)) (d1.done _ { s with heap := a } _ _ k hh g1a ex fun b e sb he => ?_)
    have zb : IsZip b z TI TO .ellipsis := sb _ _ D.i1z.symm za'
    have ez : e ≠ z := fun h => by
      obtain ⟨o, h1, h2⟩ := he
      rw [h, zb] at h1
      cases h1
      exact absurd h2 (by simp)
    refine wpAny_setField_rec zb (by simp) fun c _ sc => q c e (fun m o e1 _ e3 _ h => sc.extBut _ _ e1 (sb _ _ e3 (sa.extBut _ _ e1 h))) ?_
    obtain ⟨o, h1, h2⟩ := he
    exact ⟨o, sc.extBut _ _ ez h1, h2⟩
  | some x =>
    have ey : ys[k]? = none := fin.resolve_left (by rw [ex]; exact fun h => nomatch h)
    refine wpAny_bind (m := Builtin.SmallTypes.nextOf (.ref i1)) (d1.item _ { s with heap := a } _ _ k x g1a ex fun b g1b sb => wpAny_pure ?_)
    have pb : IsPair b TO u v := sb.extBut _ _ D.TOi1 (sa.extBut _ _ D.TOz hTO)
    refine wpAny_bind (wpAny_seqItems pb rfl (wpAny_bind (wpAny_updateSeq_pair pb fun c pc sc => wpAny_bind (wpAny_letGo (wpAny_pure ?_)))))
    have g2c : S2 k c := d2.frame _ _ _ g2a (fun o e => sc.extBut _ _ D.TOi2.symm (sb.extBut _ _ D.i12.symm e)) fun o e => sc.extBut _ _ ne2 (sb.extBut _ _ D.l2i1 e)
    refine wpAny_bind (wpAny_bind (wpAny_onRaise ?_))
    refine wpAny_bind (m := Builtin.SmallTypes.nextOf (.ref i2)) (d2.done _ { s with heap := c } _ _ k hh g2c ey fun d e sd he => ?_)
    have zd : IsZip d z TI TO .ellipsis := sd _ _ D.i2z.symm (sc.extBut _ _ D.TOz.symm (sb.extBut _ _ D.i1z.symm za'))
    have ez : e ≠ z := fun h => by
      obtain ⟨o, h1, h2⟩ := he
      rw [h, zd] at h1
      cases h1
      exact absurd h2 (by simp)
    refine wpAny_setField_rec zd (by simp) fun r _ sr => q r e (fun m o e1 e2 e3 e4 h => sr.extBut _ _ e1 (sd _ _ e4 (sc.extBut _ _ e2 (sb.extBut _ _ e3 (sa.extBut _ _ e1 h))))) ?_
    obtain ⟨o, h1, h2⟩ := he
    exact ⟨o, sr.extBut _ _ ez h1, h2⟩
end
end DL
/-! a zip of two draws as dict's argument -/
namespace DL
open PySem PySem.Spec PyProof.Rows L2 RZ
/-- z walks two draws, as dict() and d.update() ask for it -/
theorem pair_draws {prog : Program} {w : World} {z TI TO i1 i2 l1 l2 : Addr} {xs ys : Array Value} {S1 S2 : Nat → Heap → Prop} (D : ZipApart z TI TO i1 i2 l1 l2) (ne1 : l1 ≠ TO) (ne2 : l2 ≠ TO) (d1 : Draw prog w i1 l1 xs S1) (d2 : Draw prog w i2 l2 ys S2) :
    PairArg prog w "zip" z [z, TI, TO, i1, i2, l1, l2] [z, TO, i1, i2] (min xs.size ys.size) (fun i k v => xs[i]? = some k ∧ ys[i]? = some v)
      (fun h => IsZip h z TI TO .none ∧ IsPair h TI (.ref i1) (.ref i2) ∧ (∃ a b, IsPair h TO a b) ∧ S1 0 h ∧ S2 0 h) where
  type := fun s ok => ⟨_, ok.1, rfl⟩
  notDict := by decide
  keep := fun h h' ⟨a, b, ⟨u, v, c⟩, e, f⟩ k => ⟨k _ _ a, k _ _ b, ⟨u, v, k _ _ c⟩, d1.frame _ _ _ e (k _) (k _), d2.frame _ _ _ f (k _) (k _)⟩
  there := fun h ⟨a, b, ⟨u, v, c⟩, e, f⟩ m hm => by
    simp only [List.mem_cons, List.not_mem_nil, or_false] at hm
    rcases hm with q | q | q | q | q | q | q <;> rw [q]
    · exact ⟨_, a⟩
    · exact ⟨_, b⟩
    · exact ⟨_, c⟩
    · exact d1.it_ _ _ e
    · exact d2.it_ _ _ f
    · exact d1.src _ _ e
    · exact d2.src _ _ f
  sub := fun m hm => by
    simp only [List.mem_cons, List.not_mem_nil, or_false] at hm ⊢
    rcases hm with q | q | q | q <;> simp [q]
  noKeys := fun A s Q E hA ok h => getAttrOr_miss_zip ok.1 rfl rfl rfl zip_no_keys (by decide +kernel) hA h
  iter := fun A s d Q E hA ⟨a, b, ⟨u, v, c⟩, e, f⟩ hd off h => by
    simp only [List.mem_cons, List.not_mem_nil, or_false, not_or] at off
    obtain ⟨o1, o2, o3, o4, o5, o6, o7⟩ := off
    refine wpAny_pyIter_zip a (h z [z, TO, i1, i2] (fun i h => IsPair h TI (.ref i1) (.ref i2) ∧ S1 i h ∧ S2 i h ∧ ((IsZip h z TI TO .none ∧ ∃ a b, IsPair h TO a b) ∨ ∃ T f oT, IsZipHeld h z TI TO T f ∧ h.get? T = some oT ∧ T ≠ z ∧ T ≠ i1 ∧ T ≠ i2 ∧ T ≠ d)) s.heap s.toks ?_
      ⟨b, e, f, .inl ⟨a, u, v, c⟩⟩ (fun _ _ q => q) fun _ q => .inl q)
    refine ⟨?_, ?_, ?_, ?_⟩
    · simp only [List.mem_cons, List.not_mem_nil, or_false, not_or]
      exact ⟨o1, o3, o4, o5⟩
    · rintro i h1 h2 ⟨t, p, q, r⟩ k
      refine ⟨k _ _ (Ne.symm o2) t, d1.frame _ _ _ p (fun o => k _ o (Ne.symm o4)) (fun o => k _ o (Ne.symm o6)), d2.frame _ _ _ q (fun o => k _ o (Ne.symm o5)) (fun o => k _ o (Ne.symm o7)), ?_⟩
      rcases r with ⟨x, m, n, y⟩ | ⟨T, g, oT, x, y, n1, n2, n3, n4⟩
      · exact .inl ⟨k _ _ (Ne.symm o1) x, m, n, k _ _ (Ne.symm o3) y⟩
      · exact .inr ⟨T, g, oT, k _ _ (Ne.symm o1) x, k _ _ n4 y, n1, n2, n3, n4⟩
    · rintro i s1 Q1 E1 lt ⟨t, p, q, r⟩ dl go
      have e1 := Array.getElem?_eq_getElem (Nat.lt_of_lt_of_le lt (Nat.min_le_left xs.size ys.size))
      have e2 := Array.getElem?_eq_getElem (Nat.lt_of_lt_of_le lt (Nat.min_le_right xs.size ys.size))
      have new : ∀ {m o}, s1.heap.get? m = some o → s1.heap.objs.size ≠ m := fun h => Nat.ne_of_gt (Heap.lt_size h)
      obtain ⟨_, w1⟩ := d1.it_ _ _ p
      obtain ⟨_, w2⟩ := d2.it_ _ _ q
      unfold pyNext
      rcases r with ⟨x, m, n, y⟩ | ⟨T, g, oT, x, y, n1, n2, n3, n4⟩
      · have ty : s1.TypeIs (.ref z) "zip" := ⟨_, x, rfl⟩
        refine wpAny_bind (wpAny_attempt (wpAny_callSpecial?_slot (name := Str.ofString "__next__") ty F.slot_zip_next (wpAny_call_entry F.slot_zip_next ty F.entry_zip_next (free_item D ne1 ne2 d1 d2 x t y p q e1 e2 fun h' k1 k2 k3 k4 k5 k6 => wpAny_pure ?_) (F.args_zip_next_1 _))))
        exact go s1.heap.objs.size _ _ h' s1.toks ⟨e1, e2⟩ (.inl ⟨_, k4, rfl, _, rfl⟩) ⟨k6 _ _ D.TIz D.TITO D.TIi1 D.TIi2 t, k2, k3, .inr ⟨_, false, _, k1, k4, new x, new w1, new w2, Nat.ne_of_gt dl⟩⟩
          fun c o hc h => k6 c o (fun z => hc (by simp [z])) (fun z => hc (by simp [z])) (fun z => hc (by simp [z])) (fun z => hc (by simp [z])) h
      · have ty : s1.TypeIs (.ref z) "zip" := ⟨_, x, rfl⟩
        refine wpAny_bind (wpAny_attempt (wpAny_callSpecial?_slot (name := Str.ofString "__next__") ty F.slot_zip_next (wpAny_call_entry F.slot_zip_next ty F.entry_zip_next (held_item D d1 d2 x y t p q e1 e2 fun h' k1 k2 k3 k4 k5 k6 => wpAny_pure ?_) (F.args_zip_next_1 _))))
        exact go s1.heap.objs.size _ _ h' s1.toks ⟨e1, e2⟩ (.inl ⟨_, k4, rfl, _, rfl⟩) ⟨k6 _ _ D.TIz D.TIi1 D.TIi2 t, k2, k3, .inr ⟨T, true, oT, k1, k6 _ _ n1 n2 n3 y, n1, n2, n3, n4⟩⟩
          fun c o hc h => k6 c o (fun z => hc (by simp [z])) (fun z => hc (by simp [z])) (fun z => hc (by simp [z])) h
    · rintro s1 Q1 E1 ⟨t, p, q, r⟩ go
      have fin : xs[min xs.size ys.size]? = none ∨ ys[min xs.size ys.size]? = none := by
        by_cases h : xs.size ≤ ys.size
        · exact .inl (Array.getElem?_eq_none (by omega))
        · exact .inr (Array.getElem?_eq_none (by omega))
      unfold pyNext
      rcases r with ⟨x, m, n, y⟩ | ⟨T, g, oT, x, y, n1, n2, n3, n4⟩
      · have ty : s1.TypeIs (.ref z) "zip" := ⟨_, x, rfl⟩
        refine wpAny_bind (wpAny_attempt (wpAny_callSpecial?_slot (name := Str.ofString "__next__") ty F.slot_zip_next (wpAny_call_entry F.slot_zip_next ty F.entry_zip_next (free_end (A := A.in1) hA D ne1 ne2 d1 d2 x t y p q fin fun h' e k he => ?_) (F.args_zip_next_1 _))))
        obtain ⟨o, g1, g2⟩ := he
        exact wpAny_bind (wpAny_isInstance (T := "StopIteration") (b := true) ⟨o, g1, g2⟩ isSubtype_stop (wpAny_pure (go _ s1.toks fun c o hc h => k c o (fun z => hc (by simp [z])) (fun z => hc (by simp [z])) (fun z => hc (by simp [z])) (fun z => hc (by simp [z])) h)))
      · have ty : s1.TypeIs (.ref z) "zip" := ⟨_, x, rfl⟩
        refine wpAny_bind (wpAny_attempt (wpAny_callSpecial?_slot (name := Str.ofString "__next__") ty F.slot_zip_next (wpAny_call_entry F.slot_zip_next ty F.entry_zip_next (held_end (A := A.in1) hA D d1 d2 x y t p q fin fun h' e k he => ?_) (F.args_zip_next_1 _))))
        obtain ⟨o, g1, g2⟩ := he
        exact wpAny_bind (wpAny_isInstance (T := "StopIteration") (b := true) ⟨o, g1, g2⟩ isSubtype_stop (wpAny_pure (go _ s1.toks fun c o hc h => k c o (fun z => hc (by simp [z])) (fun z => hc (by simp [z])) (fun z => hc (by simp [z])) h)))
end DL
/-! dict(zip(xs, ys)) -/
namespace DL
open PySem PySem.Spec PyProof.Rows L2 RZ
theorem apart_nat {a b n : Nat} (h1 : a < n) (h2 : b < n) : ZipApart (n + 4) (n + 2) (n + 3) n (n + 1) a b := by
  constructor <;> (show @Ne Nat _ _; omega)
section
variable {prog : Program} {w : World} {A : Around} {E : Value → Shared → Prop} {s : Shared} {l1 l2 : Addr} {us vs : Array Value} {o1 o2 : Obj} {H1 H2 : Heap → Prop} {S1 S2 : Addr → Nat → Heap → Prop} {ks : List Key}
theorem dict_zip0 (B1 : Begins (.ref l1) o1 H1) (B2 : Begins (.ref l2) o2 H2) (h1 : H1 s.heap) (h2 : H2 s.heap) (lt1 : l1 < s.heap.objs.size) (lt2 : l2 < s.heap.objs.size)
    (d1 : ∀ I, l1 ≠ I → Draw prog w I l1 us (S1 I)) (d2 : ∀ I, l2 ≠ I → Draw prog w I l2 vs (S2 I))
    (m1 : ∀ I h', h'.get? I = some o1 → (∀ c o, s.heap.get? c = some o → h'.get? c = some o) → S1 I 0 h') (m2 : ∀ I h', h'.get? I = some o2 → (∀ c o, s.heap.get? c = some o → h'.get? c = some o) → S2 I 0 h')
    (free : A.handled = none) (n : us.size = vs.size) (hk : Vals (ks.map kV) us.toList) (nd : ks.Nodup) (small : us.size ≤ sizeLine) {Q : Value → Shared → Prop}
    (q : ∀ h' tk d, s.heap.objs.size ≤ d → h'.DictOf (mixKind prog w) d (ks.zip vs.toList) → (∀ b o, s.heap.get? b = some o → h'.get? b = some o) → Q (.ref d) { s with heap := h', toks := tk }) :
    wpAny (model prog w) A (call (.type "zip") [.ref l1, .ref l2]) (fun z s1 => wpAny (model prog w) A (call (.type "dict") [z]) Q E s1) E s := by
  refine zip_begins2 B1 B2 h1 h2 fun h' a b c e1 e2 sz keep => ?_
  have kl : ks.length = us.size := by
    have z := hk.length
    rwa [List.length_map, Array.length_toList] at z
  have D : ZipApart (s.heap.objs.size + 4) (s.heap.objs.size + 2) (s.heap.objs.size + 3) s.heap.objs.size (s.heap.objs.size + 1) l1 l2 := apart_nat lt1 lt2
  have b1 : @LT.lt Nat _ l1 s.heap.objs.size := lt1
  have b2 : @LT.lt Nat _ l2 s.heap.objs.size := lt2
  have f1 : l1 ≠ s.heap.objs.size + 3 := Nat.ne_of_lt (by omega)
  have f2 : l2 ≠ s.heap.objs.size + 3 := Nat.ne_of_lt (by omega)
  have f3 : l1 ≠ s.heap.objs.size := Nat.ne_of_lt b1
  have f4 : l2 ≠ s.heap.objs.size + 1 := Nat.ne_of_lt (by omega)
  have P := pair_draws (prog := prog) (w := w) D f1 f2 (d1 s.heap.objs.size f3) (d2 (s.heap.objs.size + 1) f4)
  have mm : merged [] (ks.zip vs.toList) = ks.zip vs.toList := merged_nil_of_nodup _ (by
    rw [List.map_fst_zip (by rw [kl, n, Array.length_toList]; exact Nat.le_refl _)]
    exact nd)
  refine call_dict_pairs (knd := mixKind prog w) (kvs := ks.zip vs.toList) P free ⟨a, b, ⟨_, _, c⟩, m1 _ _ e1 keep, m2 _ _ e2 keep⟩ ⟨?_, fun i key v h => ?_⟩ (Nat.le_trans (Nat.min_le_left _ _) small) fun h'' tk dd k2 => ?_
  · rw [List.length_zip, kl, n, Array.length_toList]
  · obtain ⟨g1, g2⟩ := h
    obtain ⟨y, hy, ry⟩ := keys_at hk i key (by rw [Array.getElem?_toList]; exact g1)
    exact ⟨y, by rw [List.getElem?_zip_eq_some]; exact ⟨hy, by rw [Array.getElem?_toList]; exact g2⟩, kV_is ry⟩
  · rw [mm] at dd
    refine q h'' tk _ (by show @LE.le Nat _ _ h'.objs.size; rw [sz]; omega) dd fun m o h => k2 m o ?_ (keep m o h)
    have lt : @LT.lt Nat _ m s.heap.objs.size := Heap.lt_size h
    simp only [List.mem_cons, List.not_mem_nil, or_false, not_or]
    exact ⟨Nat.ne_of_lt (by omega), Nat.ne_of_lt (by omega), Nat.ne_of_lt lt, Nat.ne_of_lt (by omega)⟩
theorem dict_zip (g1 : Sq s.heap l1 us) (g2 : Sq s.heap l2 vs) (free : A.handled = none) (n : us.size = vs.size) (hk : Vals (ks.map kV) us.toList) (nd : ks.Nodup) (small : us.size ≤ sizeLine) {Q : Value → Shared → Prop}
    (q : ∀ h' tk d, s.heap.objs.size ≤ d → h'.DictOf (mixKind prog w) d (ks.zip vs.toList) → (∀ b o, s.heap.get? b = some o → h'.get? b = some o) → Q (.ref d) { s with heap := h', toks := tk }) :
    wpAny (model prog w) A (call (.type "zip") [.ref l1, .ref l2]) (fun z s1 => wpAny (model prog w) A (call (.type "dict") [z]) Q E s1) E s := by
  have a1 : l1 < s.heap.objs.size := by rcases g1 with ⟨o, e, _⟩ | ⟨o, e, _⟩ <;> exact Heap.lt_size e
  have a2 : l2 < s.heap.objs.size := by rcases g2 with ⟨o, e, _⟩ | ⟨o, e, _⟩ <;> exact Heap.lt_size e
  rcases g1 with g1 | g1 <;> rcases g2 with g2 | g2
  · exact dict_zip0 (begins_list l1 us) (begins_list l2 vs) g1 g2 a1 a2 (fun I h => draw_list h) (fun I h => draw_list h) (fun I h' e k => ⟨⟨_, e, rfl, rfl⟩, g1.at fun o => k _ o⟩) (fun I h' e k => ⟨⟨_, e, rfl, rfl⟩, g2.at fun o => k _ o⟩) free n hk nd small q
  · exact dict_zip0 (begins_list l1 us) (begins_tuple l2 vs) g1 g2 a1 a2 (fun I h => draw_list h) (fun I h => draw_tup h) (fun I h' e k => ⟨⟨_, e, rfl, rfl⟩, g1.at fun o => k _ o⟩) (fun I h' e k => ⟨⟨_, e, rfl, rfl⟩, g2.at fun o => k _ o⟩) free n hk nd small q
  · exact dict_zip0 (begins_tuple l1 us) (begins_list l2 vs) g1 g2 a1 a2 (fun I h => draw_tup h) (fun I h => draw_list h) (fun I h' e k => ⟨⟨_, e, rfl, rfl⟩, g1.at fun o => k _ o⟩) (fun I h' e k => ⟨⟨_, e, rfl, rfl⟩, g2.at fun o => k _ o⟩) free n hk nd small q
  · exact dict_zip0 (begins_tuple l1 us) (begins_tuple l2 vs) g1 g2 a1 a2 (fun I h => draw_tup h) (fun I h => draw_tup h) (fun I h' e k => ⟨⟨_, e, rfl, rfl⟩, g1.at fun o => k _ o⟩) (fun I h' e k => ⟨⟨_, e, rfl, rfl⟩, g2.at fun o => k _ o⟩) free n hk nd small q
end
end DL
namespace DL
open PySem PySem.Spec PyProof.Rows L2 RZ
theorem kv_zip : ∀ (ks : List Key) {ys : List V} {us : List Value}, Vals ys us → KV (ks.zip ys) (ks.zip us)
  | [], _, _, _ => by rw [List.zip_nil_left, List.zip_nil_left]; exact .nil
  | k :: ks, _, _, .nil => by rw [List.zip_nil_right, List.zip_nil_right]; exact .nil
  | k :: ks, _, _, .cons r t => by
    rw [List.zip_cons_cons, List.zip_cons_cons]
    exact .cons ⟨rfl, r⟩ (kv_zip ks t)
def dzipK (Q : KN) (es : List D) (M : Mem) : Prop := match es with
  | [d, e] => optK (seqOf M d) fun xs => optK (seqOf M e) fun ys => optK (keysD xs) fun ks => ks.Nodup ∧ xs.length = ys.length ∧ xs.length ≤ sizeLine ∧ Q (.dct ks ys) M
  | _ => False
/-- dict(zip(a, b)), a dict that nobody changes -/
def wDzip (wa : WA) : WE := fun ds M Q Xc => wa ds M (dzipK Q) Xc
section
variable {X : Cx} {W : WX} {a b : Expr} {wa : WA} {p p2 q pos : Pos}
theorem j_dzip (hc : X.calm = true) (hm : X.mg "dict" = none) (hm2 : X.mg "zip" = none) (ha : JA X W [a, b] wa) (hg : Gl X "dict" := by rfl) (hg2 : Gl X "zip" := by rfl)
    (hs : starEach [a, b] X.env = (false, eval a X.env) :: starEach [b] X.env := by rfl) (hpl : (backTo q (starEach [b] X.env)).any (·.1) = false := by rfl) :
    JE X W (.Call (.Name "dict" p) [.Call (.Name "zip" p2) [a, b] [] q] [] pos) (wDzip wa) := by
  refine ⟨fun pins s σ H Q I h => ?_⟩
  refine Call_ (ld_blt I hg hm boot_dict ?_)
  refine PyProof.Rows.callWith_type1 (PyProof.Rows.args_cons ?_ rfl) rfl rfl
  refine Call_ (ld_blt I hg2 hm2 PyProof.Rows.boot_zip ?_)
  have hh := bindA (R := fun vs H1 => ∃ (l1 l2 : Addr) (ks xs : List Key) (ys : List V), vs = [V.ref l1, V.ref l2] ∧ (SqL X.K H1 l1 (ks.map kV) ∨ SqT X.K H1 l1 (ks.map kV)) ∧ (SqL X.K H1 l2 ys ∨ SqT X.K H1 l2 ys) ∧ ks.Nodup ∧ ks.length = ys.length ∧ ks.length ≤ sizeLine ∧ xs = ks ∧ ∀ d, H1 d = none → Q (.ref d) (upd H1 d (.dK (ks.zip ys)))) (wa := wa) (f := fun es _ M Q _ => dzipK Q es M) h fun vs es H1 h => by
    obtain ⟨ds, M, F, Qd, Xd, hs, hv, hw, l1, l2⟩ := h
    rw [List.append_nil, List.append_nil] at hv
    unfold dzipK at hw
    split at hw
    · rename_i d e
      obtain ⟨x, y, e1, g1, g2⟩ := dv2 hv
      subst e1
      obtain ⟨xs, q1, hw⟩ := optK_of hw
      obtain ⟨ys, q2, hw⟩ := optK_of hw
      obtain ⟨ks, q3, nd, n, small, q⟩ := optK_of hw
      obtain ⟨a1, zs, e2, s1, r1⟩ := seqOf_ok hs.1 q1 g1
      obtain ⟨a2, ws, e3, s2, r2⟩ := seqOf_ok hs.1 q2 g2
      have e4 := keysD_ok q3 r1
      subst e2
      subst e3
      subst e4
      have kl : ks.length = xs.length := by
        have z := r1.len
        rwa [List.length_map] at z
      have wl := r2.len
      refine ⟨a1, a2, ks, ks, ws, rfl, s1, s2, nd, by omega, by omega, rfl, fun d hd => ?_⟩
      have ex := new_ext hs.1.rel (o := HO.dK (ks.zip ws)) hd
      refine l1 (.ref d) _ (.dct ks ys) M ex (hs.1.new hd) ⟨d, ks.zip ws, rfl, .inl upd_same, hs.1.rel.free hd, List.map_fst_zip (by omega), ?_⟩ q
      rw [List.map_snd_zip (by omega)]
      exact DVs.ext hs.1.rel ex _ _ r2
    · exact hw.elim
  refine PyProof.Rows.callWith_type1 (thn (ha.run q pins s σ H _ I hh) fun us s1 ⟨vs, H1, I1, r1, q1⟩ => ?_) hs hpl
  obtain ⟨l1, l2, ks, xs, ys, e1, g1, g2, nd, n, small, e2, fin⟩ := q1
  subst e1
  obtain ⟨u1, u2, e3, t1, t2⟩ := vals2 r1
  subst e3
  cases t1
  cases t2
  have sq : ∀ (l : Addr) (zs : List V), (SqL X.K H1 l zs ∨ SqT X.K H1 l zs) → ∃ its : List Value, Vals zs its ∧ Sq s1.heap l its.toArray := fun l zs h => by
    rcases h with h | h
    · obtain ⟨its, r, at_, _⟩ := I1.list h
      exact ⟨its, r, .inl at_.isList⟩
    · obtain ⟨its, r, at_, _⟩ := I1.tuple h
      exact ⟨its, r, .inr at_⟩
  obtain ⟨i1, r1, s1'⟩ := sq l1 _ g1
  obtain ⟨i2, r2, s2'⟩ := sq l2 _ g2
  have n1 := r1.length
  have n2 := r2.length
  rw [List.length_map] at n1
  refine wpAny_mono (dict_zip (E := X.xe) (Q := fun v s2 => EP X pins σ Q v s2) s1' s2' (I1.ok.hd hc) (by simp; omega) (by simpa using r1) nd (by simp; omega) fun h' tk d le dd keep => ?_) (fun z s2 hz => PyProof.Rows.args_nil hz) fun _ _ h => h
  have big : (d == sysModules) = false := beq_eq_false_iff_ne.mpr (Nat.ne_of_gt (Nat.lt_of_lt_of_le I1.big le))
  exact ⟨.ref d, upd H1 d (.dK (ks.zip ys)), I1.laid (t' := tk) keep le (show ObjOk X.prog X.w _ _ _ (.dK (ks.zip ys)) from ⟨by rw [List.length_zip]; omega, big, ks.zip i2, kv_zip ks r2, by simpa using dd⟩), rfl, fin d (I1.hok.fresh le)⟩
end
def dzipKO (Q : KN) (es : List D) (M : Mem) : Prop := match es with
  | [d, e] => optK (seqOf M d) fun xs => optK (seqOf M e) fun ys => optK (keysD xs) fun ks => ks.Nodup ∧ xs.length = ys.length ∧ xs.length ≤ sizeLine ∧ ∀ a, M a = none → Q (.ref a) (mput M a (.dct ks ys))
  | _ => False
/-- dict(zip(a, b)), an owned dict -/
def wDzipO (wa : WA) : WE := fun ds M Q Xc => wa ds M (dzipKO Q) Xc
section
variable {X : Cx} {W : WX} {a b : Expr} {wa : WA} {p p2 q pos : Pos}
theorem j_dzipO (hc : X.calm = true) (hm : X.mg "dict" = none) (hm2 : X.mg "zip" = none) (ha : JA X W [a, b] wa) (hg : Gl X "dict" := by rfl) (hg2 : Gl X "zip" := by rfl)
    (hs : starEach [a, b] X.env = (false, eval a X.env) :: starEach [b] X.env := by rfl) (hpl : (backTo q (starEach [b] X.env)).any (·.1) = false := by rfl) :
    JE X W (.Call (.Name "dict" p) [.Call (.Name "zip" p2) [a, b] [] q] [] pos) (wDzipO wa) := by
  refine ⟨fun pins s σ H Q I h => ?_⟩
  refine Call_ (ld_blt I hg hm boot_dict ?_)
  refine PyProof.Rows.callWith_type1 (PyProof.Rows.args_cons ?_ rfl) rfl rfl
  refine Call_ (ld_blt I hg2 hm2 PyProof.Rows.boot_zip ?_)
  have hh := bindA (R := fun vs H1 => ∃ (l1 l2 : Addr) (ks xs : List Key) (ys : List V), vs = [V.ref l1, V.ref l2] ∧ (SqL X.K H1 l1 (ks.map kV) ∨ SqT X.K H1 l1 (ks.map kV)) ∧ (SqL X.K H1 l2 ys ∨ SqT X.K H1 l2 ys) ∧ ks.Nodup ∧ ks.length = ys.length ∧ ks.length ≤ sizeLine ∧ xs = ks ∧ ∀ d, H1 d = none → Q (.ref d) (upd H1 d (.dK (ks.zip ys)))) (wa := wa) (f := fun es _ M Q _ => dzipKO Q es M) h fun vs es H1 h => by
    obtain ⟨ds, M, F, Qd, Xd, hs, hv, hw, l1, l2⟩ := h
    rw [List.append_nil, List.append_nil] at hv
    unfold dzipKO at hw
    split at hw
    · rename_i d e
      obtain ⟨x, y, e1, g1, g2⟩ := dv2 hv
      subst e1
      obtain ⟨xs, q1, hw⟩ := optK_of hw
      obtain ⟨ys, q2, hw⟩ := optK_of hw
      obtain ⟨ks, q3, nd, n, small, q⟩ := optK_of hw
      obtain ⟨a1, zs, e2, s1, r1⟩ := seqOf_ok hs.1 q1 g1
      obtain ⟨a2, ws, e3, s2, r2⟩ := seqOf_ok hs.1 q2 g2
      have e4 := keysD_ok q3 r1
      subst e2
      subst e3
      subst e4
      have kl : ks.length = xs.length := by
        have z := r1.len
        rwa [List.length_map] at z
      have wl := r2.len
      refine ⟨a1, a2, ks, ks, ws, rfl, s1, s2, nd, by omega, by omega, rfl, fun d hd => ?_⟩
      have ex := hs.1.xown (o := HO.dK (ks.zip ws)) (u := .dct ks ys) hd
      refine l1 (.ref d) _ (.ref d) _ ex (hs.1.own hd ⟨ks.zip ws, upd_same, List.map_fst_zip (by omega), ?_⟩) rfl (q d (hs.1.mfree hd))
      rw [List.map_snd_zip (by omega)]
      exact DVs.ext hs.1.rel ex _ _ r2
    · exact hw.elim
  refine PyProof.Rows.callWith_type1 (thn (ha.run q pins s σ H _ I hh) fun us s1 ⟨vs, H1, I1, r1, q1⟩ => ?_) hs hpl
  obtain ⟨l1, l2, ks, xs, ys, e1, g1, g2, nd, n, small, e2, fin⟩ := q1
  subst e1
  obtain ⟨u1, u2, e3, t1, t2⟩ := vals2 r1
  subst e3
  cases t1
  cases t2
  have sq : ∀ (l : Addr) (zs : List V), (SqL X.K H1 l zs ∨ SqT X.K H1 l zs) → ∃ its : List Value, Vals zs its ∧ Sq s1.heap l its.toArray := fun l zs h => by
    rcases h with h | h
    · obtain ⟨its, r, at_, _⟩ := I1.list h
      exact ⟨its, r, .inl at_.isList⟩
    · obtain ⟨its, r, at_, _⟩ := I1.tuple h
      exact ⟨its, r, .inr at_⟩
  obtain ⟨i1, r1, s1'⟩ := sq l1 _ g1
  obtain ⟨i2, r2, s2'⟩ := sq l2 _ g2
  have n1 := r1.length
  have n2 := r2.length
  rw [List.length_map] at n1
  refine wpAny_mono (dict_zip (E := X.xe) (Q := fun v s2 => EP X pins σ Q v s2) s1' s2' (I1.ok.hd hc) (by simp; omega) (by simpa using r1) nd (by simp; omega) fun h' tk d le dd keep => ?_) (fun z s2 hz => PyProof.Rows.args_nil hz) fun _ _ h => h
  have big : (d == sysModules) = false := beq_eq_false_iff_ne.mpr (Nat.ne_of_gt (Nat.lt_of_lt_of_le I1.big le))
  exact ⟨.ref d, upd H1 d (.dK (ks.zip ys)), I1.laid (t' := tk) keep le (show ObjOk X.prog X.w _ _ _ (.dK (ks.zip ys)) from ⟨by rw [List.length_zip]; omega, big, ks.zip i2, kv_zip ks r2, by simpa using dd⟩), rfl, fin d (I1.hok.fresh le)⟩
end
end DL
/-! a tuple times a number: at 1 the very tuple, beyond it a new one -/
namespace DL
open PySem PySem.Spec PyProof.Rows L2 RZ
theorem tuple_one (l : Addr) (items : Array Value) (n : Nat) (dd : Option Addr) (sl : Array (Option Value)) (u : Tok) :
    Meets (Builtin.«tuple.__mul__» ⟨[.ref l, .int 1 u], []⟩) (fun _ R s => s.heap.get? l = some { cls := .type "tuple", dict := dd, data := .seq items n, slots := sl } ∧
      R (.ok (.ret (Value.ref l))) s) :=
  .of_wp fun prog w A R s h => by
    obtain ⟨hp, g, d, tk, os⟩ := s
    obtain ⟨hl, h⟩ := h
    have f1 := AutoSeq1.idx_int
    have c0 : (decide ((1 : Int) < -(2 ^ 63)) || decide ((1 : Int) ≥ 2 ^ 63)) = false := by decide +kernel
    have c1 : (items.isEmpty || (1 : Int) == 1) = true := by simp
    wp_walk using wpAny_loadPart' hl
    repeat (first
      | (refine wpAny_ite_false (decide_eq_false (by rw [c0]; exact Bool.false_ne_true)) ?_; wp_walk using wpAny_loadPart' hl)
      | (refine wpAny_ite_true (decide_eq_true (by rw [c1])) ?_; wp_walk using wpAny_loadPart' hl))
    exact ⟨_, rfl, h⟩
def rRepTD : RD2 := fun d e M Q => match d, e with
  | .tup xs, .int k => xs ≠ [] ∧ 1 ≤ k ∧ k ≤ 1000 ∧ xs.length ≤ 1000 ∧ Q (.tup (List.replicate k.toNat xs).flatten) M
  | _, _ => False
section
variable {X : Cx}
theorem op_rep1 : OpR X (binaryOp .Mult) (fun x y H Q => ∃ l xs, x = .ref l ∧ y = .int 1 ∧ SqT X.K H l xs ∧ Q (.ref l) H) := by
  intro pins s σ H x y v u Q I rx ry h
  obtain ⟨l, xs, rfl, rfl, hT, q⟩ := h
  cases rx
  obtain ⟨t, rfl⟩ := ry
  obtain ⟨its, r, ⟨⟨cls, dd, data, sl⟩, ho, hc, n, hd⟩, hs⟩ := I.tuple hT
  simp only at hc hd
  subst hc hd
  refine wpAny_binaryOp_repeat_ref (T := "tuple") (U := "int") (by decide) ⟨_, ho, rfl⟩ (fun s' => typeIs_int s' 1 t) noFill_tuple_mul F.fills_int_mul F.slot_int_rmul repeat_tuple F.slot_int_index.lookup
    (call_meets F.slot_int_rmul (typeIs_int s 1 t) F.entry_int_rmul (F.args_int_rmul_2 _ _) (int_rmul_tuple 1 t l its.toArray n dd sl)
      ⟨ho, rfl, ⟨_, ho, rfl⟩, call_meets F.slot_tuple_mul ⟨_, ho, rfl⟩ F.entry_tuple_mul (F.args_tuple_mul_2 _ _) (tuple_one l its.toArray n dd sl t) ⟨ho, ?_⟩⟩)
  exact ⟨.ref l, H, I, rfl, q⟩
theorem od_repT : OpR X (binaryOp .Mult) (liftV2 X.K rRepTD) := by
  intro pins s σ H x y v u Q I rx ry hh
  obtain ⟨d, e, M, F, Qd, R, h1, h2, h3, l⟩ := hh
  unfold rRepTD at h3
  split at h3
  · rename_i xs k
    obtain ⟨a, ys, e1, g1, g2⟩ := h1
    subst e1
    cases (show y = .int k from h2)
    obtain ⟨hne, k1, k2, k3, q⟩ := h3
    by_cases hk : k = 1
    · subst hk
      have e : (List.replicate (1 : Int).toNat xs).flatten = xs := by simp
      rw [e] at q
      exact op_rep1 pins s σ H _ _ v u Q I rx ry ⟨a, ys, rfl, rfl, g1, l _ H (.tup xs) M Ext.rfl' R ⟨a, ys, rfl, g1, g2⟩ q⟩
    · refine op_repT pins s σ H _ _ v u Q I rx ry ⟨a, k, ys, rfl, rfl, g1, fun z => hne (List.eq_nil_of_length_eq_zero (by rw [← g2.len, z]; rfl)), by omega, k2, by rw [g2.len]; exact k3, fun p hp => ?_⟩
      have e' := new_ext R.rel (o := HO.tup (List.replicate k.toNat ys).flatten) hp
      exact l _ _ (.tup (List.replicate k.toNat xs).flatten) M e' (R.new hp) ⟨p, _, rfl, .inl (.inl upd_same), DVs.ext R.rel e' _ _ (g2.rep _)⟩ q
  · exact h3.elim
end
end DL
/-! further steps by constructor -/
namespace DL
open PySem PySem.Spec PyProof.Rows L2 RZ
theorem pChain {r r' : RD2} {wa wb wc : WE} {ds : SD} {M : Mem} {Q : KN} {X : KX} : (wChain r r' wa wb wc ds M Q X) = (wa ds M (fun x M1 => wb ds M1 (fun y M2 => r x y M2 fun z M3 => isBl z fun k => if k = true then wc ds M3 (fun w M4 => r' y w M4 fun z2 M5 => isBl z2 fun k2 => Q (.bl k2) M5) X else Q (.bl false) M3) X) X) := propext Iff.rfl
theorem pCallK {sp : SpD} {n m : Nat} {ord : List Nat} {wa wk : WA} {ds : SD} {M : Mem} {Q : KN} {X : KX} : (wCallK sp n m ord wa wk ds M Q X) = (wa ds M (fun xs M1 => wk ds M1 (fun ys M2 => sp (gOrd n m ord xs ys) M2 Q X) X) X) := propext Iff.rfl
theorem pDzip {wa : WA} {ds : SD} {M : Mem} {Q : KN} {X : KX} : (wDzip wa ds M Q X) = (wa ds M (dzipK Q) X) := propext Iff.rfl
theorem pDzipK {d e : D} {M : Mem} {Q : KN} : (dzipK Q [d, e] M) = (optK (seqOf M d) fun xs => optK (seqOf M e) fun ys => optK (keysD xs) fun ks => ks.Nodup ∧ xs.length = ys.length ∧ xs.length ≤ sizeLine ∧ Q (.dct ks ys) M) := propext Iff.rfl
theorem pDzipO {wa : WA} {ds : SD} {M : Mem} {Q : KN} {X : KX} : (wDzipO wa ds M Q X) = (wa ds M (dzipKO Q) X) := propext Iff.rfl
theorem pDzipKO {d e : D} {M : Mem} {Q : KN} : (dzipKO Q [d, e] M) = (optK (seqOf M d) fun xs => optK (seqOf M e) fun ys => optK (keysD xs) fun ks => ks.Nodup ∧ xs.length = ys.length ∧ xs.length ≤ sizeLine ∧ ∀ a, M a = none → Q (.ref a) (mput M a (.dct ks ys))) := propext Iff.rfl
theorem rIsB_bl {neg a b : Bool} {M : Mem} {Q : KN} : (rIsBD neg (.bl a) (.bl b) M Q) = (Q (.bl (xor neg (decide (a = b)))) M) := propext Iff.rfl
theorem rDix_str {ks : List Key} {xs : List D} {x : Str} {M : Mem} {Q : KN} : (rDixD (.dct ks xs) (.str x) M Q) = (optK (valD ks xs (.inr x)) fun v => Q v M) := propext Iff.rfl
theorem rDix_int {ks : List Key} {xs : List D} {x : Int} {M : Mem} {Q : KN} : (rDixD (.dct ks xs) (.int x) M Q) = (optK (valD ks xs (.inl x)) fun v => Q v M) := propext Iff.rfl
theorem rIn_tup {neg : Bool} {d : D} {xs : List D} {M : Mem} {Q : KN} : (rInD neg d (.tup xs) M Q) = (flatD d = true ∧ xs.all flatD = true ∧ Q (.bl (xor neg (inD d xs))) M) := propext Iff.rfl
theorem rIn_lst {neg : Bool} {d : D} {xs : List D} {M : Mem} {Q : KN} : (rInD neg d (.lst xs) M Q) = (flatD d = true ∧ xs.all flatD = true ∧ Q (.bl (xor neg (inD d xs))) M) := propext Iff.rfl
theorem rEq_ns {neg : Bool} {y : Str} {M : Mem} {Q : KN} : (rEqD neg .non (.str y) M Q) = (Dat .non 60 ∧ Dat (.str y) 60 ∧ Q (.bl (xor neg (deq .non (.str y)))) M) := propext Iff.rfl
theorem rEq_sn {neg : Bool} {y : Str} {M : Mem} {Q : KN} : (rEqD neg (.str y) .non M Q) = (Dat (.str y) 60 ∧ Dat .non 60 ∧ Q (.bl (xor neg (deq (.str y) .non))) M) := propext Iff.rfl
theorem rRepT_p {xs : List D} {k : Int} {M : Mem} {Q : KN} : (rRepTD (.tup xs) (.int k) M Q) = (xs ≠ [] ∧ 1 ≤ k ∧ k ≤ 1000 ∧ xs.length ≤ 1000 ∧ Q (.tup (List.replicate k.toNat xs).flatten) M) := propext Iff.rfl
theorem rAll_f {xs : List D} {M : Mem} {Q : KN} : (rAllD false [.lst xs] M Q) = (optK (bools xs) fun bs => Q (.bl (bs.all id)) M) := propext Iff.rfl
theorem rAll_t {xs : List D} {M : Mem} {Q : KN} : (rAllD true [.lst xs] M Q) = (optK (bools xs) fun bs => Q (.bl (bs.any id)) M) := propext Iff.rfl
/-! items of a list by its head -/
theorem at_0 {x : D} {xs : List D} : atI (x :: xs) (0 : Int) = some x := (atI_nat (k := 0)).trans rfl
theorem at_1 {x y : D} {xs : List D} : atI (x :: y :: xs) (1 : Int) = some y := (atI_nat (k := 1)).trans rfl
theorem at_2 {x y z : D} {xs : List D} : atI (x :: y :: z :: xs) (2 : Int) = some z := (atI_nat (k := 2)).trans rfl
theorem at_3 {x y z w : D} {xs : List D} : atI (x :: y :: z :: w :: xs) (3 : Int) = some w := (atI_nat (k := 3)).trans rfl
theorem dl_0_0 : decide (((0 : Nat) : Int) = 0) = true := by decide
theorem dl_0_1 : decide (((0 : Nat) : Int) = 1) = false := by decide
theorem dl_0_2 : decide (((0 : Nat) : Int) = 2) = false := by decide
theorem dl_0_3 : decide (((0 : Nat) : Int) = 3) = false := by decide
theorem dl_0_4 : decide (((0 : Nat) : Int) = 4) = false := by decide
theorem dl_0_5 : decide (((0 : Nat) : Int) = 5) = false := by decide
theorem dl_1_0 : decide (((0 + 1 : Nat) : Int) = 0) = false := by decide
theorem dl_1_1 : decide (((0 + 1 : Nat) : Int) = 1) = true := by decide
theorem dl_1_2 : decide (((0 + 1 : Nat) : Int) = 2) = false := by decide
theorem dl_1_3 : decide (((0 + 1 : Nat) : Int) = 3) = false := by decide
theorem dl_1_4 : decide (((0 + 1 : Nat) : Int) = 4) = false := by decide
theorem dl_1_5 : decide (((0 + 1 : Nat) : Int) = 5) = false := by decide
theorem dl_2_0 : decide (((0 + 1 + 1 : Nat) : Int) = 0) = false := by decide
theorem dl_2_1 : decide (((0 + 1 + 1 : Nat) : Int) = 1) = false := by decide
theorem dl_2_2 : decide (((0 + 1 + 1 : Nat) : Int) = 2) = true := by decide
theorem dl_2_3 : decide (((0 + 1 + 1 : Nat) : Int) = 3) = false := by decide
theorem dl_2_4 : decide (((0 + 1 + 1 : Nat) : Int) = 4) = false := by decide
theorem dl_2_5 : decide (((0 + 1 + 1 : Nat) : Int) = 5) = false := by decide
theorem dl_3_0 : decide (((0 + 1 + 1 + 1 : Nat) : Int) = 0) = false := by decide
theorem dl_3_1 : decide (((0 + 1 + 1 + 1 : Nat) : Int) = 1) = false := by decide
theorem dl_3_2 : decide (((0 + 1 + 1 + 1 : Nat) : Int) = 2) = false := by decide
theorem dl_3_3 : decide (((0 + 1 + 1 + 1 : Nat) : Int) = 3) = true := by decide
theorem dl_3_4 : decide (((0 + 1 + 1 + 1 : Nat) : Int) = 4) = false := by decide
theorem dl_3_5 : decide (((0 + 1 + 1 + 1 : Nat) : Int) = 5) = false := by decide
theorem dl_4_0 : decide (((0 + 1 + 1 + 1 + 1 : Nat) : Int) = 0) = false := by decide
theorem dl_4_1 : decide (((0 + 1 + 1 + 1 + 1 : Nat) : Int) = 1) = false := by decide
theorem dl_4_2 : decide (((0 + 1 + 1 + 1 + 1 : Nat) : Int) = 2) = false := by decide
theorem dl_4_3 : decide (((0 + 1 + 1 + 1 + 1 : Nat) : Int) = 3) = false := by decide
theorem dl_4_4 : decide (((0 + 1 + 1 + 1 + 1 : Nat) : Int) = 4) = true := by decide
theorem dl_4_5 : decide (((0 + 1 + 1 + 1 + 1 : Nat) : Int) = 5) = false := by decide
theorem dn_1_0 {n : Nat} : decide (((n + 1 : Nat) : Int) = 0) = false := decide_eq_false (by omega)
theorem dn_2_0 {n : Nat} : decide (((n + 1 + 1 : Nat) : Int) = 0) = false := decide_eq_false (by omega)
theorem dn_2_1 {n : Nat} : decide (((n + 1 + 1 : Nat) : Int) = 1) = false := decide_eq_false (by omega)
theorem dn_3_0 {n : Nat} : decide (((n + 1 + 1 + 1 : Nat) : Int) = 0) = false := decide_eq_false (by omega)
theorem dn_3_1 {n : Nat} : decide (((n + 1 + 1 + 1 : Nat) : Int) = 1) = false := decide_eq_false (by omega)
theorem dn_3_2 {n : Nat} : decide (((n + 1 + 1 + 1 : Nat) : Int) = 2) = false := decide_eq_false (by omega)
theorem dn_4_0 {n : Nat} : decide (((n + 1 + 1 + 1 + 1 : Nat) : Int) = 0) = false := decide_eq_false (by omega)
theorem dn_4_1 {n : Nat} : decide (((n + 1 + 1 + 1 + 1 : Nat) : Int) = 1) = false := decide_eq_false (by omega)
theorem dn_4_2 {n : Nat} : decide (((n + 1 + 1 + 1 + 1 : Nat) : Int) = 2) = false := decide_eq_false (by omega)
theorem dn_4_3 {n : Nat} : decide (((n + 1 + 1 + 1 + 1 : Nat) : Int) = 3) = false := decide_eq_false (by omega)
end DL
/-! loops and comprehensions by their turn's number -/
namespace DL
open PySem PySem.Spec PyProof.Rows L2 RZ
theorem rngD_at {lo : Int} {n k : Nat} (h : k < n) : (rngD lo n)[k]? = some (.int (lo + (k : Nat))) := by
  unfold rngD
  rw [List.getElem?_map, List.getElem?_range h]
  rfl
theorem forR_at {g : GD} {wb : WS} {E : ED} (xs : List D) (I : Nat → SD → Mem → Prop) (hn : ∀ ds M, I xs.length ds M → E.nx ds M)
    (hs : ∀ k d, xs[k]? = some d → ∀ ds M (R : SD → Mem → Prop), (∀ ds' M', I (k + 1) ds' M' → R ds' M') → I k ds M → g d ds fun ds2 => wb { E with nx := R, ct := R, bk := E.nx } ds2 M)
    {ds : SD} {M : Mem} (h : I 0 ds M) : forR g wb E xs ds M := by
  refine forR_ind (fun items ds M => ∃ k, k + items.length = xs.length ∧ items = xs.drop k ∧ I k ds M) ?_ ?_ xs ds M ⟨0, by omega, rfl, h⟩
  · rintro ds M ⟨k, h1, h2, h3⟩
    rw [List.length_nil, Nat.add_zero] at h1
    subst h1
    exact hn _ _ h3
  · rintro d items ds M R hR ⟨k, h1, h2, h3⟩
    rw [List.length_cons] at h1
    have e : xs[k]? = some d := by
      have := congrArg (fun l => l[0]?) h2
      rw [List.getElem?_drop] at this
      simpa using this.symm
    refine hs k d e ds M R (fun ds' M' q => hR _ _ ⟨k + 1, by omega, ?_, q⟩) h3
    have := congrArg List.tail h2
    rw [List.tail_cons, List.tail_drop] at this
    exact this
theorem forR_rng {g : GD} {wb : WS} {E : ED} {lo : Int} {n : Nat} (I : Nat → SD → Mem → Prop) (hn : ∀ ds M, I n ds M → E.nx ds M)
    (hs : ∀ k, k < n → ∀ ds M (R : SD → Mem → Prop), (∀ ds' M', I (k + 1) ds' M' → R ds' M') → I k ds M → g (.int (lo + (k : Nat))) ds fun ds2 => wb { E with nx := R, ct := R, bk := E.nx } ds2 M)
    {ds : SD} {M : Mem} (h : I 0 ds M) : forR g wb E (rngD lo n) ds M :=
  forR_at _ I (by rw [rngD_len]; exact hn) (fun k d e ds M R hR hI => by
    have hk : k < n := by
      have := (List.getElem?_eq_some_iff.mp e).1
      rwa [rngD_len] at this
    rw [rngD_at hk] at e
    cases e
    exact hs k hk ds M R hR hI) h
theorem lcR_at {g : GD} {tt : WT} {te : WE} {ds : SD} {k : List D → Mem → Prop} (xs : List D) (I : Nat → List D → Mem → Prop) (hn : ∀ acc M, I xs.length acc M → k acc M)
    (hs : ∀ j d, xs[j]? = some d → ∀ acc M (R : List D → Mem → Prop), (∀ acc' M', I (j + 1) acc' M' → R acc' M') → I j acc M →
      g d ds fun ds2 => tt ds2 M (fun b M1 => if b = true then te ds2 M1 (fun y M2 => acc.length < sizeLine ∧ R (acc ++ [y]) M2) XF else R acc M1) XF)
    {M : Mem} (h : I 0 [] M) : lcR g tt te ds xs [] M k := by
  refine lcR_ind (fun items acc M => ∃ j, j + items.length = xs.length ∧ items = xs.drop j ∧ I j acc M) ?_ ?_ xs [] M ⟨0, by omega, rfl, h⟩
  · rintro acc M ⟨j, h1, h2, h3⟩
    rw [List.length_nil, Nat.add_zero] at h1
    subst h1
    exact hn _ _ h3
  · rintro d items acc M R hR ⟨j, h1, h2, h3⟩
    rw [List.length_cons] at h1
    have e : xs[j]? = some d := by
      have := congrArg (fun l => l[0]?) h2
      rw [List.getElem?_drop] at this
      simpa using this.symm
    refine hs j d e acc M R (fun acc' M' q => hR _ _ ⟨j + 1, by omega, ?_, q⟩) h3
    have := congrArg List.tail h2
    rw [List.tail_cons, List.tail_drop] at this
    exact this
theorem lcR_rng {g : GD} {tt : WT} {te : WE} {ds : SD} {k : List D → Mem → Prop} {lo : Int} {n : Nat} (I : Nat → List D → Mem → Prop) (hn : ∀ acc M, I n acc M → k acc M)
    (hs : ∀ j, j < n → ∀ acc M (R : List D → Mem → Prop), (∀ acc' M', I (j + 1) acc' M' → R acc' M') → I j acc M →
      g (.int (lo + (j : Nat))) ds fun ds2 => tt ds2 M (fun b M1 => if b = true then te ds2 M1 (fun y M2 => acc.length < sizeLine ∧ R (acc ++ [y]) M2) XF else R acc M1) XF)
    {M : Mem} (h : I 0 [] M) : lcR g tt te ds (rngD lo n) [] M k :=
  lcR_at _ I (by rw [rngD_len]; exact hn) (fun j d e acc M R hR hI => by
    have hj : j < n := by
      have := (List.getElem?_eq_some_iff.mp e).1
      rwa [rngD_len] at this
    rw [rngD_at hj] at e
    cases e
    exact hs j hj acc M R hR hI) h
theorem cut_to {α : Type} {xs : List α} {k : Nat} (h : k ≤ xs.length) : cutL xs none (some (k : Int)) = xs.take k := by
  unfold cutL
  rw [HT.sIx_none, HT.sIx_nat, Nat.min_eq_left h, List.drop_zero, Nat.sub_zero]
theorem cut_from {α : Type} {xs : List α} {k : Nat} (h : k ≤ xs.length) : cutL xs (some (k : Int)) none = xs.drop k := by
  unfold cutL
  rw [HT.sIx_none, HT.sIx_nat, Nat.min_eq_left h, List.take_of_length_le]
  rw [List.length_drop]
  exact Nat.le_refl _
theorem cut_1 {x : D} {xs : List D} : cutL (x :: xs) (some 1) none = xs := cut_from (k := 1) (xs := x :: xs) (by simp)
theorem cut_2 {x y : D} {xs : List D} : cutL (x :: y :: xs) (some 2) none = xs := cut_from (k := 2) (xs := x :: y :: xs) (by simp)
/-- a if t else b as a test -/
def wIfT (c t u : WT) : WT := fun ds M Q Xc => c ds M (fun b M1 => if b = true then t ds M1 Q Xc else u ds M1 Q Xc) Xc
theorem pIfT {c t u : WT} {ds : SD} {M : Mem} {Q : Bool → Mem → Prop} {X : KX} : (wIfT c t u ds M Q X) = (c ds M (fun b M1 => if b = true then t ds M1 Q X else u ds M1 Q X) X) := propext Iff.rfl
theorem jt_if {X : Cx} {W : WX} {c a b : Expr} {pos : Pos} {wc wa wb : WT} (hc : JT X W c wc) (ha : JT X W a wa) (hb : JT X W b wb) : JT X W (.IfExp c a b pos) (wIfT wc wa wb) := by
  refine ⟨fun pins s σ H Q I h => isTrue_IfExp (thn (hc.run pins s σ H (fun k H1 => if k = true then liftT X.K W wa σ H1 Q else liftT X.K W wb σ H1 Q) I
    (bindT (wa := wc) (f := fun b ds M Q Xc => if b = true then wa ds M Q Xc else wb ds M Q Xc) h fun k H1 h => ?_)) fun k s1 ⟨H1, I1, q1⟩ => ?_)⟩
  · obtain ⟨ds, M, F, Qd, Xd, hs, hv, hw, l1, l2⟩ := h
    cases k with
    | true =>
      rw [if_pos rfl]
      exact ⟨ds, M, F, Qd, Xd, hs, rfl, DL.ite_tt hw, l1, l2⟩
    | false =>
      rw [if_neg Bool.false_ne_true]
      exact ⟨ds, M, F, Qd, Xd, hs, rfl, DL.ite_ff hw, l1, l2⟩
  · cases k with
    | true => exact ha.run pins s1 σ H1 Q I1 q1
    | false => exact hb.run pins s1 σ H1 Q I1 q1
/-- a comprehension of values that change nothing, with a test -/
theorem lcR_filt {α : Type} {g : GD} {tt : WT} {te : WE} {ds : SD} {k : List D → Mem → Prop} {M : Mem} (h f : α → D) (p : α → Bool) (P : α → Prop)
    (hs : ∀ a (acc : List D) (R : List D → Mem → Prop), P a → (if p a = true then acc.length < sizeLine ∧ R (acc ++ [f a]) M else R acc M) →
      g (h a) ds fun ds2 => tt ds2 M (fun b M1 => if b = true then te ds2 M1 (fun y M2 => acc.length < sizeLine ∧ R (acc ++ [y]) M2) XF else R acc M1) XF) :
    ∀ (L : List α) (acc : List D), (∀ a ∈ L, P a) → acc.length + L.length < sizeLine → k (acc ++ (L.filter p).map f) M → lcR g tt te ds (L.map h) acc M k
  | [], acc, _, _, q => by
    rw [List.filter_nil, List.map_nil, List.append_nil] at q
    exact q
  | a :: L, acc, hp, hl, q => by
    rw [List.length_cons] at hl
    refine hs a acc (fun acc' M' => lcR g tt te ds (L.map h) acc' M' k) (hp a List.mem_cons_self) ?_
    by_cases e : p a = true
    · rw [if_pos e]
      refine ⟨by omega, lcR_filt h f p P hs L _ (fun b hb => hp b (List.mem_cons_of_mem _ hb)) (by rw [List.length_append, List.length_singleton]; omega) ?_⟩
      rw [List.filter_cons, if_pos e, List.map_cons] at q
      rw [List.append_assoc]
      exact q
    · rw [if_neg e]
      refine lcR_filt h f p P hs L _ (fun b hb => hp b (List.mem_cons_of_mem _ hb)) (by omega) ?_
      rw [List.filter_cons, if_neg e] at q
      exact q
end DL
/-! a def that is called with keywords -/
namespace DL
open PySem PySem.Spec PyProof.Rows L2 RZ
theorem FnOk.mkD {P : Program} {w : World} {K : PySem.W.Frag} {mg : Str → Option Value} {base : Heap} {k : Nat} {x qual : Str} {st : Stmt} {f : Addr} {fd : FuncData} {N ps : List Str} {sp : SpD} {wb : WS}
    (F : Fun K x qual st f fd) (S : FnScope N ps (defScope st))
    (body : ∀ (cdv : Value) (A : Around) (outer : List Env) (s : Shared) (H : Hp) (E : XK), Room k (A.deeper (envOfC qual (defScope st) s.heap.objs.size f cdv)) →
      Takes (cxOf (L2.CX P w) P w K mg base N qual (defScope st) f cdv A outer s H E) (WD E) →
      JSs (cxOf (L2.CX P w) P w K mg base N qual (defScope st) f cdv A outer s H E) (WD E) (defBody st) wb)
    (h : ∀ ds M Q Xc, sp ds M Q Xc → ds.length = ps.length ∧ wb { nx := fun _ M => Fin Q .non M, rt := Fin Q, ex := fun x _ M => Xc x M } (startD N ds) M) : FnOk P w K mg base (L2.CX P w) (k + 1) f fd ps (liftSp K sp) := by
  refine F.okX S (fun vs H Q E hh => ?_) (fun cdv A outer s H vs Q E hr hh => ?_)
  · obtain ⟨ds, M, Fr, Qd, Xd, q1, q2, q3, _⟩ := hh
    rw [q2.len]
    exact (h _ _ _ _ q3).1
  · obtain ⟨ds, M, Fr, Qd, Xd, q1, q2, q3, l1, l2⟩ := hh
    refine ⟨_, body cdv A outer s H E hr (takes_of rfl rfl rfl rfl), ?_⟩
    have fin : ∀ (v : V) (H' : Hp) (d : D) (M' : Mem), Ext H (uni M Fr) H' (uni M' Fr) → Rm K H' M' Fr → DV K H' (uni M' Fr) d v → Fin Qd d M' → Q v H' := fun v H' d M' e r dv ⟨d2, M2, fz, q⟩ =>
      l1 v H' d2 M2 (e.down (sub_none fz.sub)) (r.sub fz.sub) (fz.dv K H' Fr v r dv) q
    exact ⟨startD N ds, M, Fr, _, ⟨q1, Sl.start q2⟩, rfl, (h _ _ _ _ q3).2, ⟨fun σ' H' ds' M' e r q => fin .non H' .non M' e r.1 rfl q, fin, fun _ _ _ _ _ _ z => z.elim, fun _ _ _ _ _ _ z => z.elim, fun cls dc σ' H' x ds' M' e r dv q => l2 cls dc H' x M' e r.1 dv q⟩⟩
theorem FnJK.mkAt {P : Program} {w : World} {K : PySem.W.Frag} {mg : Str → Option Value} {base : Heap} {k : Nat} {x qual : Str} {st : Stmt} {f : Addr} {N ps ks : List Str} {n m : Nat} {ord : List Nat} {sp : SpD} {wb : WS}
    (F : DefAt K x qual st ps f) (S : FnScope N ps (defScope st)) (hp : 0 < ps.length)
    (hb : ∀ (kV doc pm : Value) (an : Option Addr) (cdv ct : Value) (us ws : List Value), us.length = n → ws.length = m →
      bindArgs (PySem.W.fnOf x qual (defArgs st) (defBody st) (defScope st) .none kV doc pm an cdv ct) ⟨us, ks.zip ws⟩ = pure (ps.zip (gOrd n m ord us ws)))
    (body : ∀ (cdv : Value) (A : Around) (outer : List Env) (s : Shared) (H : Hp) (E : XK), Room k (A.deeper (envOfC qual (defScope st) s.heap.objs.size f cdv)) →
      Takes (cxOf (L2.CX P w) P w K mg base N qual (defScope st) f cdv A outer s H E) (WD E) →
      JSs (cxOf (L2.CX P w) P w K mg base N qual (defScope st) f cdv A outer s H E) (WD E) (defBody st) wb)
    (h : ∀ ds M Q Xc, sp ds M Q Xc → ds.length = ps.length ∧ wb { nx := fun _ M => Fin Q .non M, rt := Fin Q, ex := fun x _ M => Xc x M } (startD N ds) M) : FnJK P w K mg base (k + 1) f sp ks n m ord := by
  obtain ⟨fd, h1, h2⟩ := F.ex
  refine ⟨⟨fd, ps, FnOk.mkD h1 S body h, ?_⟩, h1.kp⟩
  obtain ⟨oc, od, kV, doc, pm, an, cdv, ct, osl, rfl, lk, hcd⟩ := h1.ex
  exact kb_mk hp fun us ws e1 e2 s => .of_eq (hb kV doc pm an cdv ct us ws e1 e2)
end DL
/-! enumerate over a tuple -/
namespace DL
open PySem PySem.Spec PyProof.Rows L2 RZ
open AutoSeq1 (wpAny_loadPart')
/-- the heap where enumerate of the tuple at t has begun -/
abbrev enT (h : Heap) (t : Addr) : Heap := (h.push { cls := .type "tuple_iterator", data := .fields #[.ref t, .int 0 0] }).push { cls := .type "enumerate", data := .fields #[.none, .bool false, .ref h.objs.size, rawInt 0, .none, .none] }
theorem en_new (t : Addr) (xs : Array Value) : Meets (Builtin.«enumerate.__new__» ⟨[.type "enumerate", .ref t], []⟩) (fun _ R s => s.heap.IsTuple t xs ∧ R (.ok (.ret (.ref (s.heap.objs.size + 1)))) { s with heap := enT s.heap t }) :=
  .of_wp fun prog w A R s ⟨ht, h⟩ => by
    obtain ⟨hp, g, d, tk, os⟩ := s
    have sub := sub_enumerate
    have T : Heap.IsTuple (Shared.heap ⟨hp, g, d, tk, os⟩) t xs := ht
    obtain ⟨⟨c, dct, dt, sl⟩, ho, hc, n, hd⟩ := id T
    have sz : (hp.push { cls := .type "tuple_iterator", data := .fields #[.ref t, .int 0 0] }).objs.size = hp.objs.size + 1 := Heap.size_push ..
    have fin : R (.ok (.ret (.ref (hp.push { cls := .type "tuple_iterator", data := .fields #[.ref t, .int 0 0] }).objs.size))) ⟨enT hp t, g, d, tk, os⟩ := by rw [sz]; exact h
    wp_walk using wpAny_loadPart' ho
    refine wpAny_stack_any fun st => wpAny_pure ?_
    split
    · rename_i k _ _ _ _ _
      cases (k == Value.type "enumerate") <;> wp_walk using wpAny_loadPart' ho, wpAny_pyIter_tuple T <;> exact ⟨_, rfl, fin⟩
    · wp_walk using wpAny_loadPart' ho, wpAny_pyIter_tuple T
      exact ⟨_, rfl, fin⟩
section
variable {prog : Program} {w : World} {A : Around} {E : Value → Shared → Prop} {s : Shared}
theorem en_call {t : Addr} {xs : Array Value} {Q : Value → Shared → Prop} (ht : s.heap.IsTuple t xs)
    (h : IsEnum (enT s.heap t) (s.heap.objs.size + 1) s.heap.objs.size 0 .none → (enT s.heap t).IsTupleIter s.heap.objs.size t 0 → (∀ b o, s.heap.get? b = some o → (enT s.heap t).get? b = some o) → Q (.ref (s.heap.objs.size + 1)) { s with heap := enT s.heap t }) :
    wpAny (model prog w) A (call (.type "enumerate") [.ref t]) Q E s := by
  have sz : (s.heap.push { cls := .type "tuple_iterator", data := .fields #[.ref t, .int 0 0] }).objs.size = s.heap.objs.size + 1 := Heap.size_push ..
  have e1 : IsEnum (enT s.heap t) (s.heap.objs.size + 1) s.heap.objs.size 0 .none := by
    have q := Heap.get?_push_size (s.heap.push { cls := .type "tuple_iterator", data := .fields #[.ref t, .int 0 0] }) (o := { cls := .type "enumerate", data := .fields #[.none, .bool false, .ref s.heap.objs.size, rawInt 0, .none, .none] }) rfl
    rw [sz] at q
    exact q
  have e2 : (enT s.heap t).IsTupleIter s.heap.objs.size t 0 := ⟨_, Heap.get?_push_of_some _ (Heap.get?_push_size _ rfl), rfl, rfl⟩
  exact callType_new F.called_enumerate (by decide) (F.typeCall_enumerate_1 _) (F.newCall_enumerate_1 _) (fun obj => F.args_object_init_2 obj _) F.entry_enumerate_new
    (en_new t xs) ⟨ht, ⟨⟨_, e1, rfl⟩, h e1 e2 fun b o x => Heap.get?_push_of_some _ (Heap.get?_push_of_some _ x)⟩⟩
end
/-- the turns: a new pair of the place and the item each -/
def Itp (K : PySem.W.Frag) (a : Addr) : It where
  go i H := ∃ (xs : List V) (x : V), SqT K H a xs ∧ xs[i]? = some x
  yld i H v H' := ∃ T x, v = .ref T ∧ H T = none ∧ H' = upd H T (.tup [.int (i : Nat), x]) ∧ ∀ xs, SqT K H a xs → xs[i]? = some x
  stop i H := ∃ xs : List V, SqT K H a xs ∧ xs.length ≤ i
theorem turn_enT {P : Program} {w : World} {K : PySem.W.Frag} {elts : List Expr} {kk : Nat} {tpos : Pos} {a e it : Addr} (ne : e ≠ it) :
    Turn P w K (.Tuple elts kk tpos) (Itp K a) [e, it] e (fun i h => (∃ old, IsEnum h e it (i : Nat) old) ∧ h.IsTupleIter it a i) where
  mem := List.mem_cons_self
  obj i h st b hb := by
    obtain ⟨⟨old, he⟩, o, ho, _, hd⟩ := st
    rcases List.mem_cons.mp hb with rfl | hb
    · exact ⟨_, he, fun v q => nomatch q⟩
    · rw [List.mem_singleton.mp hb]
      exact ⟨o, ho, fun v q => by rw [hd] at q; cases q⟩
  keep i h h' st k := ⟨st.1.elim fun old he => ⟨old, k e List.mem_cons_self _ he⟩, st.2.at fun o q => k it (by simp) o q⟩
  item := by
    intro X hP hw hK hc i pins s σ H E I hf st hg
    subst hP hw hK
    obtain ⟨⟨old, he⟩, hit⟩ := st
    obtain ⟨xs, x, hq, hx⟩ := hg
    obtain ⟨its, rv, tp, _⟩ := I.tuple hq
    obtain ⟨u, hu, ru⟩ := rv.get hx
    have lt : i < its.toArray.size := by
      have := (List.getElem?_eq_some_iff.mp hu).1
      simpa using this
    have l1 : e < s.heap.objs.size := Heap.lt_size he
    have l2 : it < s.heap.objs.size := by obtain ⟨_, q, _⟩ := hit; exact Heap.lt_size q
    have na : a ≠ it := fun z => by
      subst z
      obtain ⟨o1, q1, c1, _⟩ := tp
      obtain ⟨o2, q2, c2, _⟩ := hit
      rw [q1] at q2
      cases q2
      rw [c1] at c2
      exact absurd (Value.type.inj c2) (by decide)
    have nae : a ≠ e := fun z => by
      subst z
      obtain ⟨o1, q1, c1, _⟩ := tp
      rw [show s.heap.get? a = some _ from he] at q1
      cases q1
      exact absurd (Value.type.inj c1) (by decide)
    have D := Draws.tuple (prog := X.prog) (w := X.w) (A := X.A.in1) (I.ok.hd hc) it a na its.toArray
    refine wpAny_pyNext_enum_itemD D he ⟨hit, tp⟩ lt ne (by simp [ne, Ne.symm nae]) fun y h' tk hP ho ⟨hit', _⟩ hT hsz hk => ?_
    have ey : y = u := by
      have z : its.toArray[i]? = some u := by simpa using hu
      rw [z] at hP
      cases hP
      rfl
    subst ey
    refine ⟨_, rfl, wpAny_letOwnedTupleGo_enum (s := { s with heap := h', toks := tk + 1 }) ho fun h2 he2 sb => ?_⟩
    have cell : h2.get? s.heap.objs.size = some { cls := .type "tuple", data := .seq #[.int i tk, y] } := (sb.2 _ (Nat.ne_of_gt l1)).trans hT
    have new : ObjOk X.prog X.w (upd H s.heap.objs.size (.tup [.int (i : Nat), x])) h2 s.heap.objs.size (.tup [.int (i : Nat), x]) :=
      ⟨by show 2 ≤ sizeLine; decide, [.int i tk, y], .cons ⟨_, rfl⟩ (.cons ru .nil), ⟨_, cell, rfl, _, rfl⟩⟩
    have J : Inv X pins σ (upd H s.heap.objs.size (.tup [.int (i : Nat), x])) { s with heap := h2, toks := tk + 1 } :=
      I.turnedNew (ch := [e, it]) (fun b ob hb q => (sb.2 b fun z => hb (by simp [z])).trans (hk b ob (fun z => hb (by simp [z])) (fun z => hb (by simp [z])) q)) hf (Nat.le_refl _) new
    refine ⟨.ref s.heap.objs.size, _, J, rfl, ⟨_, x, rfl, I.hok.fresh (Nat.le_refl _), rfl, fun ys hy => I.tuple_inj hy hq ▸ hx⟩, ⟨⟨y, ?_⟩, hit'.at fun o q => (sb.2 it ne.symm).trans q⟩, fun b hb => ?_⟩
    · rw [show ((i + 1 : Nat) : Int) = (i : Int) + 1 by omega]
      exact he2
    · have lb : b < s.heap.objs.size := by
        rcases List.mem_cons.mp hb with rfl | hb
        · exact l1
        · rw [List.mem_singleton.mp hb]; exact l2
      rw [upd_ne (Nat.ne_of_lt lb)]
      exact (hf b hb).1
  done := by
    intro X hP hw hK hc i pins s σ H E I hf st hg
    subst hP hw hK
    obtain ⟨⟨old, he⟩, hit⟩ := st
    obtain ⟨xs, hq, hx⟩ := hg
    obtain ⟨its, rv, tp, _⟩ := I.tuple hq
    have hl := rv.length
    have na : a ≠ it := fun z => by
      subst z
      obtain ⟨o1, q1, c1, _⟩ := tp
      obtain ⟨o2, q2, c2, _⟩ := hit
      rw [q1] at q2
      cases q2
      rw [c1] at c2
      exact absurd (Value.type.inj c2) (by decide)
    obtain ⟨f0, f1, f2, f3, f4, f5⟩ := hf it (by simp)
    have hT : s.TypeIs (.ref e) "enumerate" := ⟨_, he, rfl⟩
    unfold pyNext
    refine wpAny_bind (wpAny_attempt (wpAny_callSpecial?_slot (name := Str.ofString "__next__") hT F.slot_enumerate_next
      (wpAny_call_entry F.slot_enumerate_next hT F.entry_enumerate_next ?_ (F.args_enumerate_next_1 _))))
    show wpAny _ _ (field (.ref e) 2 >>= _) _ _ _
    refine wpAny_bind (wpAny_field he rfl (x := .ref it) rfl ?_)
    refine wpAny_bind (wpAny_nextOf_tuple_end (I.ok.hd hc) hit tp (by simp; omega) fun h' y he' ⟨o, ho, hc'⟩ => ?_)
    refine wpAny_bind (wpAny_isInstance (T := "StopIteration") (b := true) ⟨o, ho, hc'⟩ isSubtype_stop ?_)
    exact wpAny_pure ⟨rfl, I.turned (t' := s.toks) (fun b ob q k => he' b ob q k) f0 f1 f3 f4 f5⟩
  self A i s Q E st h := st.1.elim fun _ he => wpAny_pyIter_enum he h
/-- enumerate(t), t a tuple -/
theorem pi_enT {X : Cx} {e : Expr} {ta : TA} {p pos tpos : Pos} {elts : List Expr} {kk : Nat} (hg : Gl X "enumerate") (hm : X.mg "enumerate" = none) (ha : PA X [e] ta) (hs : starEach [e] X.env = [(false, eval e X.env)] := by rfl) :
    PI X (.Tuple elts kk tpos) (.Call (.Name "enumerate" p) [e] [] pos) (fun σ H R => ta σ H fun vs H1 => ∃ a xs, vs = [.ref a] ∧ SqT X.K H1 a xs ∧ R (Itp X.K a) H1) := by
  refine ⟨fun pins s σ H R I h => Call_ (ld_blt I hg hm boot_enumerate (PyProof.Rows.callWith_type1 (thn (ha.run pos pins s σ H _ I h) fun us s1 ⟨vs, H1, I1, r1, a, xs, ex, hq, q⟩ => ?_) hs rfl))⟩
  subst ex
  cases r1 with
  | cons r rr =>
    cases rr
    cases r
    obtain ⟨its, rv, tp, _⟩ := I1.tuple hq
    refine en_call tp fun he hit hk => wpAny_pyIter_enum he ?_
    have I2 : Inv X pins σ H1 { s1 with heap := enT s1.heap a } := I1.kept (t' := s1.toks) hk
    refine ⟨s1.heap.objs.size + 1, [s1.heap.objs.size + 1, s1.heap.objs.size], _, _, H1, rfl, I2, turn_enT (Nat.succ_ne_self _), ⟨⟨.none, he⟩, hit⟩, fun b hb => ?_, q⟩
    have le : s1.heap.objs.size ≤ b := by
      rcases List.mem_cons.mp hb with rfl | hb
      · exact Nat.le_succ _
      · rw [List.mem_singleton.mp hb]; exact Nat.le_refl _
    exact I1.fpOk le (I1.hok.fresh le)
section
variable {K : PySem.W.Frag} {H0 : Hp} {N0 : Mem}
theorem yl_enT {a : Addr} {ds : List D} {xs : List V} (R0 : RelM K H0 N0) (h : SqT K H0 a xs) (dv : DVs K H0 N0 ds xs) : Yl K (Itp K a) (enumD ds) H0 N0 := fun i H N e R => by
  have h' : SqT K H a xs := SqT.ext R0 e h
  refine ⟨fun hi => ⟨xs, h', by unfold enumD at hi; rw [List.length_map, List.length_zipIdx] at hi; rw [dv.len]; exact hi⟩, fun d hd => ?_⟩
  unfold enumD at hd
  rw [List.getElem?_map, List.getElem?_zipIdx] at hd
  cases q : ds[i]? with
  | none => rw [q] at hd; cases hd
  | some u =>
    rw [q] at hd
    simp only [Option.map_some, Option.some.injEq] at hd
    subst hd
    obtain ⟨x, h1, h2⟩ := (DVs.ext R0 e _ _ dv).get q
    refine ⟨⟨xs, x, h', h1⟩, fun y H' ⟨T, z, e1, e2, e3, e4⟩ => ?_⟩
    subst e1
    subst e3
    have e5 := e4 xs h'
    rw [h1] at e5
    cases e5
    exact pair_new R e2 (show DV K H N (.int ((0 + i : Nat) : Int)) (.int (i : Nat)) by rw [Nat.zero_add]; rfl) h2
end
def enumKT (Q : List D → Mem → Prop) (es : List D) (M : Mem) : Prop := match es with | [.tup xs] => Q (enumD xs) M | _ => False
def wiEnumT (wa : WA) : WI := fun ds M Q Xc => wa ds M (enumKT Q) Xc
theorem piEnumT {wa : WA} {ds : SD} {M : Mem} {Q : List D → Mem → Prop} {X : KX} : (wiEnumT wa ds M Q X) = (wa ds M (enumKT Q) X) := propext Iff.rfl
theorem pEnumKT {Q : List D → Mem → Prop} {xs : List D} {M : Mem} : (enumKT Q [.tup xs] M) = (Q (enumD xs) M) := propext Iff.rfl
theorem ji_enumT {X : Cx} {W : WX} {a : Expr} {wa : WA} {p pos tpos : Pos} {elts : List Expr} {kk : Nat} (hm : X.mg "enumerate" = none) (ha : JA X W [a] wa) (hg : Gl X "enumerate" := by rfl) (hs : starEach [a] X.env = [(false, eval a X.env)] := by rfl) :
    JI X W (.Tuple elts kk tpos) (.Call (.Name "enumerate" p) [a] [] pos) (wiEnumT wa) := pi_mono (pi_enT hg hm ha hs) fun σ H R h => by
  obtain ⟨ds, M, F, Qd, Xd, hs, hw, l1, l2⟩ := h
  refine ⟨ds, M, F, _, Xd, hs, rfl, hw, fun v H' d M' e r dv q => ?_, l2⟩
  unfold enumKT at q
  split at q
  · rename_i xs
    obtain ⟨x, e1, g⟩ := dv1 dv
    subst e1
    obtain ⟨c, ys, e2, g1, g2⟩ := g
    subst e2
    exact ⟨c, ys, rfl, g1, l1 _ H' _ M' e r (yl_enT r.rel g1 g2) q⟩
  · exact q.elim
end DL
/-! enumerate of a list or a tuple; `in` over data with insides; index; lists of numbers ordered; stars in displays; freezing a slot -/
namespace DL
open PySem PySem.Spec PyProof.Rows L2 RZ
theorem pi_enA {X : Cx} {e : Expr} {ta : TA} {p pos tpos : Pos} {elts : List Expr} {kk : Nat} (hg : Gl X "enumerate") (hm : X.mg "enumerate" = none) (ha : PA X [e] ta) (hs : starEach [e] X.env = [(false, eval e X.env)] := by rfl) :
    PI X (.Tuple elts kk tpos) (.Call (.Name "enumerate" p) [e] [] pos) (fun σ H R => ta σ H fun vs H1 => ∃ a xs, vs = [.ref a] ∧ (SqT X.K H1 a xs ∧ R (Itp X.K a) H1 ∨ SqL X.K H1 a xs ∧ R (Ite X.K a) H1)) := by
  refine ⟨fun pins s σ H R I h => Call_ (ld_blt I hg hm boot_enumerate (PyProof.Rows.callWith_type1 (thn (ha.run pos pins s σ H _ I h) fun us s1 ⟨vs, H1, I1, r1, a, xs, ex, q⟩ => ?_) hs rfl))⟩
  subst ex
  cases r1 with
  | cons r rr =>
    cases rr
    cases r
    have fp : ∀ b, b ∈ [s1.heap.objs.size + 1, s1.heap.objs.size] → FpOk X pins H1 b := fun b hb => by
      have le : s1.heap.objs.size ≤ b := by
        rcases List.mem_cons.mp hb with rfl | hb
        · exact Nat.le_succ _
        · rw [List.mem_singleton.mp hb]; exact Nat.le_refl _
      exact I1.fpOk le (I1.hok.fresh le)
    rcases q with ⟨hq, q⟩ | ⟨hq, q⟩
    · obtain ⟨its, rv, tp, _⟩ := I1.tuple hq
      exact en_call tp fun he hit hk => wpAny_pyIter_enum he ⟨s1.heap.objs.size + 1, [s1.heap.objs.size + 1, s1.heap.objs.size], _, _, H1, rfl, I1.kept (t' := s1.toks) hk, turn_enT (Nat.succ_ne_self _), ⟨⟨.none, he⟩, hit⟩, fp, q⟩
    · obtain ⟨its, rv, tp, _⟩ := I1.list hq
      exact call_enumerate_list tp.isList fun h' he hit hz hk => wpAny_pyIter_enum he ⟨s1.heap.objs.size + 1, [s1.heap.objs.size + 1, s1.heap.objs.size], _, _, H1, rfl, I1.kept (t' := s1.toks) hk, turn_enum _ _ _, ⟨⟨.none, he⟩, hit, Nat.succ_ne_self _⟩, fp, q⟩
def enumKA (Q : List D → Mem → Prop) (es : List D) (M : Mem) : Prop := match es with
  | [.tup xs] => Q (enumD xs) M
  | [.lst xs] => Q (enumD xs) M
  | _ => False
def wiEnumA (wa : WA) : WI := fun ds M Q Xc => wa ds M (enumKA Q) Xc
theorem piEnumA {wa : WA} {ds : SD} {M : Mem} {Q : List D → Mem → Prop} {X : KX} : (wiEnumA wa ds M Q X) = (wa ds M (enumKA Q) X) := propext Iff.rfl
theorem pEnumA_tup {Q : List D → Mem → Prop} {xs : List D} {M : Mem} : (enumKA Q [.tup xs] M) = (Q (enumD xs) M) := propext Iff.rfl
theorem pEnumA_lst {Q : List D → Mem → Prop} {xs : List D} {M : Mem} : (enumKA Q [.lst xs] M) = (Q (enumD xs) M) := propext Iff.rfl
theorem ji_enumA {X : Cx} {W : WX} {a : Expr} {wa : WA} {p pos tpos : Pos} {elts : List Expr} {kk : Nat} (hm : X.mg "enumerate" = none) (ha : JA X W [a] wa) (hg : Gl X "enumerate" := by rfl) (hs : starEach [a] X.env = [(false, eval a X.env)] := by rfl) :
    JI X W (.Tuple elts kk tpos) (.Call (.Name "enumerate" p) [a] [] pos) (wiEnumA wa) := pi_mono (pi_enA hg hm ha hs) fun σ H R h => by
  obtain ⟨ds, M, F, Qd, Xd, hs, hw, l1, l2⟩ := h
  refine ⟨ds, M, F, _, Xd, hs, rfl, hw, fun v H' d M' e r dv q => ?_, l2⟩
  unfold enumKA at q
  split at q
  · obtain ⟨x, e1, g⟩ := dv1 dv
    subst e1
    obtain ⟨c, ys, e2, g1, g2⟩ := g
    subst e2
    exact ⟨c, ys, rfl, .inl ⟨g1, l1 _ H' _ M' e r (yl_enT r.rel g1 g2) q⟩⟩
  · obtain ⟨x, e1, g⟩ := dv1 dv
    subst e1
    obtain ⟨c, ys, e2, g1, gm, g2⟩ := g
    subst e2
    exact ⟨c, ys, rfl, .inr ⟨SqL.of g1, l1 _ H' _ M' e r (yl_enum r.rel g1 gm g2) q⟩⟩
  · exact q.elim
theorem enumD_at {xs : List D} {k : Nat} {x : D} (h : xs[k]? = some x) : (enumD xs)[k]? = some (.tup [.int (k : Nat), x]) := by
  unfold enumD
  rw [List.getElem?_map, List.getElem?_zipIdx, h]
  simp
theorem enumD_len {xs : List D} : (enumD xs).length = xs.length := by unfold enumD; rw [List.length_map, List.length_zipIdx]

/-! ### x in t, data of any depth in a list or a tuple -/
def rInVD (neg : Bool) : RD2 := fun d e M Q => match e with
  | .tup xs => Dat d 60 ∧ Dat (.tup xs) 60 ∧ Q (.bl (xor neg (xs.any fun y => deq y d))) M
  | .lst xs => Dat d 60 ∧ Dat (.lst xs) 60 ∧ Q (.bl (xor neg (xs.any fun y => deq y d))) M
  | _ => False
theorem toPys_any {d : D} : ∀ xs : List D, ((toPys xs).any fun z => PyData.eqv z (toPy d)) = xs.any fun y => deq y d
  | [] => rfl
  | x :: xs => by
    show (PyData.eqv (toPy x) (toPy d) || (toPys xs).any fun z => PyData.eqv z (toPy d)) = _
    rw [toPys_any xs]
    rfl
theorem rInV_tup {neg : Bool} {d : D} {xs : List D} {M : Mem} {Q : KN} : (rInVD neg d (.tup xs) M Q) = (Dat d 60 ∧ Dat (.tup xs) 60 ∧ Q (.bl (xor neg (xs.any fun y => deq y d))) M) := propext Iff.rfl
theorem rInV_lst {neg : Bool} {d : D} {xs : List D} {M : Mem} {Q : KN} : (rInVD neg d (.lst xs) M Q) = (Dat d 60 ∧ Dat (.lst xs) 60 ∧ Q (.bl (xor neg (xs.any fun y => deq y d))) M) := propext Iff.rfl
section
variable {X : Cx}
theorem od_inV (hu : X.A.units + 65 < cLine) : OpR X (compareOp .In) (liftV2 X.K (rInVD false)) := by
  intro pins s σ H x y v u Q I rx ry hh
  obtain ⟨d, e, M, F, Qd, R, h1, h2, h3, l⟩ := hh
  unfold rInVD at h3
  split at h3
  · rename_i xs
    obtain ⟨q1, q2, q⟩ := h3
    have p1 := Dat.dp q1 h1
    have p2 : Dp X.K H y (.tuple (toPys xs)) := Dat.dp q2 h2
    have s1 := Dat.shaped q1 (by decide)
    have s2 : SeqAt.shaped (.tuple (toPys xs)) = true := Dat.shaped q2 (by decide)
    obtain ⟨as, r1⟩ := Dp.reads I _ x v p1 rx
    obtain ⟨bs, r2⟩ := Dp.reads I _ y u p2 ry
    refine SeqAt.in_tuple_reads r2 r1 (SeqAt.canLay_of_shaped s2) (SeqAt.canLay_of_shaped s1) (room_in_shaped s1 hu) ⟨.bl _, H, I, rfl, ?_⟩
    rw [toPys_any]
    exact l (.bl _) H (.bl _) M Ext.rfl' R rfl (by rw [Bool.false_xor] at q; exact q)
  · rename_i xs
    obtain ⟨q1, q2, q⟩ := h3
    have p1 := Dat.dp q1 h1
    have p2 : Dp X.K H y (.list (toPys xs)) := Dat.dp q2 h2
    have s1 := Dat.shaped q1 (by decide)
    have s2 : SeqAt.shaped (.list (toPys xs)) = true := Dat.shaped q2 (by decide)
    obtain ⟨as, r1⟩ := Dp.reads I _ x v p1 rx
    obtain ⟨bs, r2⟩ := Dp.reads I _ y u p2 ry
    refine SeqAt.in_list_reads r2 r1 (SeqAt.canLay_of_shaped s2) (SeqAt.canLay_of_shaped s1) (room_in_shaped s1 hu) ⟨.bl _, H, I, rfl, ?_⟩
    rw [toPys_any]
    exact l (.bl _) H (.bl _) M Ext.rfl' R rfl (by rw [Bool.false_xor] at q; exact q)
  · exact h3.elim
end
end DL
namespace DL
open PySem PySem.Spec PyProof.Rows L2 RZ

/-! ### tuples that bear no dict -/
def rSlN (d : D) (lo hi : Option Int) (M : Mem) (Q : KN) : Prop := match d with
  | .tup xs => ¬ (HT.sIx xs.length 0 lo = 0 ∧ HT.sIx xs.length xs.length hi = xs.length) ∧ Q (.tpn (cutL xs lo hi)) M
  | _ => False
theorem rSlN_p {xs : List D} {lo hi : Option Int} {M : Mem} {Q : KN} : (rSlN (.tup xs) lo hi M Q) = (¬ (HT.sIx xs.length 0 lo = 0 ∧ HT.sIx xs.length xs.length hi = xs.length) ∧ Q (.tpn (cutL xs lo hi)) M) := propext Iff.rfl
def wSlN (we : WE) (wl wh : WO) : WE := fun ds M Q Xc => we ds M (fun d M1 => wl ds M1 (fun l M2 => wh ds M2 (fun h M3 => rSlN d l h M3 Q) Xc) Xc) Xc
theorem pSlN {we : WE} {wl wh : WO} {ds : SD} {M : Mem} {Q : KN} {X : KX} : (wSlN we wl wh ds M Q X) = (we ds M (fun d M1 => wl ds M1 (fun l M2 => wh ds M2 (fun h M3 => rSlN d l h M3 Q) X) X) X) := propext Iff.rfl
/-- from here on an ordinary tuple -/
def tnK (d : D) (M : Mem) (Q : KN) : Prop := match d with
  | .tpn xs => Q (.tup xs) M
  | _ => False
def wTn (w : WE) : WE := fun ds M Q Xc => w ds M (fun d M1 => tnK d M1 Q) Xc
theorem pTn {w : WE} {ds : SD} {M : Mem} {Q : KN} {X : KX} : (wTn w ds M Q X) = (w ds M (fun d M1 => tnK d M1 Q) X) := propext Iff.rfl
theorem pTnK {xs : List D} {M : Mem} {Q : KN} : (tnK (.tpn xs) M Q) = (Q (.tup xs) M) := propext Iff.rfl
section
variable {X : Cx} {W : WX}
theorem j_tn {e : Expr} {w : WE} (h : JE X W e w) : JE X W e (wTn w) := pe_mono h fun σ H Q hh => by
  obtain ⟨ds, M, F, Qd, Xd, hs, hv, hw, l1, l2⟩ := hh
  refine ⟨ds, M, F, fun d M1 => tnK d M1 Qd, Xd, hs, hv, hw, fun v H' d M' e r dv q => ?_, l2⟩
  cases d <;> first | exact q.elim | skip
  rename_i ys
  obtain ⟨a, xs, o, e1, e2, _, e3⟩ := dv
  exact l1 v H' (.tup ys) M' e r ⟨a, xs, e1, .inl (.inr ⟨o, e2⟩), e3⟩ q
theorem sd_slN : SlR X (liftSl X.K rSlN) := by
  intro pins s σ H x v vl vu lo hi sl Q I rx hs pl pu hh
  obtain ⟨d, M, F, Qd, R, h1, h3, l⟩ := hh
  cases d <;> first | exact h3.elim | skip
  rename_i xs
  obtain ⟨a, ys, e, q1, q2⟩ := h1
  subst e
  cases rx
  obtain ⟨its, r, tp, z⟩ := I.tuple q1
  have n : its.toArray.size = ys.length := by rw [List.size_toArray]; exact r.length.symm
  have nw : ¬ (HT.sIx its.toArray.size 0 lo = 0 ∧ HT.sIx its.toArray.size its.toArray.size hi = its.toArray.size) := by rw [n, q2.len]; exact h3.1
  refine ⟨"tuple", _, PyProof.Rows.slot_tuple_getitem.lookup, tp.typeIs, HT.getItem_tuple_cut tp hs pl pu nw ?_ (n ▸ z)⟩
  rw [n]
  have f : H s.heap.objs.size = none := I.hok.fresh (Nat.le_refl _)
  have ex := fun o => new_ext R.rel (o := HO.frz o (.tup (cutV ys lo hi))) f
  refine ⟨.ref s.heap.objs.size, _, I.laid (t' := s.toks) (o := .frz _ (.tup (cutV ys lo hi))) (fun b ob k => Heap.get?_push_of_some _ k) (Nat.le_refl _) ⟨Heap.get?_push_size _ rfl, Nat.le_trans (cutV_length ys lo hi) z, _, (r.drop _).take _, IsTup.new _ _⟩, rfl, ?_⟩
  exact l _ _ (.tpn (cutL xs lo hi)) M (ex _) (R.new f) ⟨_, _, _, rfl, upd_same, rfl, DVs.ext R.rel (ex _) _ _ (cut_rel q2)⟩ h3.2
theorem j_slN {e : Expr} {lo hi : Option Expr} {we : WE} {wl wh : WO} {pos p2 : Pos} (he : JE X W e we) (hl : JO X W lo wl) (hh : JO X W hi wh) : JE X W (.Subscript e (.Slice lo hi none p2) pos) (wSlN we wl wh) :=
  pe_mono (pe_slice sd_slN he hl hh) fun σ H Q h =>
    bindE (wa := we) (f := fun d ds M Q Xc => wl ds M (fun l M2 => wh ds M2 (fun h M3 => rSlN d l h M3 Q) Xc) Xc) h fun v d H1 h =>
    bindO (wa := wl) (f := fun l ds M Q Xc => wh ds M (fun h M3 => rSlN d l h M3 Q) Xc) h fun l H2 h =>
    bindO (wa := wh) (f := fun h _ M Q _ => rSlN d l h M Q) h fun u H3 h => by
      obtain ⟨_, M, F, Qd, Xd, hs, hv, hw, l1, _⟩ := h
      obtain ⟨_, _, e1, h1, _⟩ := hv
      cases e1
      exact ⟨d, M, F, Qd, hs.1, h1, hw, l1⟩
/-- t.m(e), a method of tuples -/
def wTM (r : D → List D → Mem → KN → Prop) (we : WE) (wa : WA) : WE := fun ds M Q Xc => we ds M (fun d M1 => tnK d M1 (fun _ M1 => wa ds M1 (fun xs M2 => r d xs M2 Q) Xc)) Xc
theorem pTM {r : D → List D → Mem → KN → Prop} {we : WE} {wa : WA} {ds : SD} {M : Mem} {Q : KN} {X : KX} : (wTM r we wa ds M Q X) = (we ds M (fun d M1 => tnK d M1 (fun _ M1 => wa ds M1 (fun xs M2 => r d xs M2 Q) X)) X) := propext Iff.rfl
theorem j_tm {o e : Expr} {es : List Expr} {name : Str} {id : String} {we : WE} {wa : WA} {r : D → List D → Mem → KN → Prop} {apos cpos : Pos} (slot : Slot "tuple" name id) (hty : typeOf (.builtin id) = pure (.type "method_descriptor")) (hm : MtR X id (liftM X.K r)) (ho : JE X W o we) (ha : JA X W (e :: es) wa)
    (hbase : attributeBase o name X.env (eval o X.env) = eval o X.env := by rfl)
    (hfew : ((backTo cpos (starEach (e :: es) X.env)).all (fun x => !x.1) && (backToKw cpos (keywordEach [] X.env)).all (fun x => x.1.isSome)
      && decide ((e :: es).length + ([] : List Keyword).length + (if ([] : List Keyword).isEmpty then 0 else 1) < 30)) = true := by rfl)
    (hline : (apos.endLine == cpos.line) = true := by rfl) (hs : starEach (e :: es) X.env = (false, eval e X.env) :: starEach es X.env := by rfl) (hplain : (backTo cpos (starEach es X.env)).any (·.1) = false := by rfl) :
    JE X W (.Call (.Attribute o name apos) (e :: es) [] cpos) (wTM r we wa) := by
  refine ⟨fun pins s σ H Q I h => ?_⟩
  have hh : liftE X.K W we σ H (fun x H1 => (∃ a o xs, x = V.ref a ∧ H1 a = some (.frz o (.tup xs)) ∧ o.dict = none) ∧ liftA X.K W wa σ H1 fun vs H2 => liftM X.K r x vs H2 Q) := by
    obtain ⟨ds, M, F, Qd, Xd, hs, hv, hw, l1, l2⟩ := h
    refine ⟨ds, M, F, _, Xd, hs, hv, hw, fun v H' d M' e rr dv q => ?_, l2⟩
    cases d <;> first | exact q.elim | skip
    have dv' := dv
    obtain ⟨a, xs, o, e1, e2, e3, e4⟩ := dv'
    exact ⟨⟨a, o, xs, e1, e2, e3⟩, bindA (Rr := rE X.K) (Q := Q) (wa := wa) (es := [D.tpn _]) (vs := [v]) (f := fun ys _ M Q _ => r _ ys M Q) ⟨ds, M', F, Qd, Xd, hs.ext e rr, DVs.one dv, q, l1.ext e, l2.ext e⟩ fun ys zs H2 h => finM h⟩
  refine wpAny_Call_method_late hbase hfew hline rfl (thn (ho.run pins s σ H _ I hh) fun v s1 ⟨x, H1, I1, r1, ⟨a, o, xs, ex, eo, nd⟩, q1⟩ => ?_)
  subst ex
  cases r1
  have ok := I1.hok a _ eo
  obtain ⟨g1, _, its, _, tp⟩ := ok
  refine ⟨"tuple", id, PySem.F.plainAttrs_tuple, slot, hty, tp.typeIs, fun b eb => by cases eb; exact ⟨o, g1, nd⟩, ?_⟩
  have hA := ha.run cpos pins s1 σ H1 _ I1 q1
  rw [hs] at hA ⊢
  refine Calls.callWith_builtin (by show (false || (backTo cpos (starEach es X.env)).any (·.1)) = false; rw [hplain] <;> rfl) (Calls.evalArgs_plain ?_)
  exact thn hA fun us s2 ⟨vs, H2, I2, r2, q2⟩ => hm pins s2 σ H2 (.ref a) vs (.ref a) us Q I2 rfl r2 q2
/-! ### index -/
def rTidx (d : D) (ds : List D) (M : Mem) (Q : KN) : Prop := match d, ds with
  | .tpn xs, [.str z] => optK (strsD xs) fun ys => optK (ys.findIdx? fun y => decide (y = z)) fun j => Q (.int (j : Nat)) M
  | _, _ => False
theorem rTidx_p {xs : List D} {z : Str} {M : Mem} {Q : KN} : (rTidx (.tpn xs) [.str z] M Q) = (optK (strsD xs) fun ys => optK (ys.findIdx? fun y => decide (y = z)) fun j => Q (.int (j : Nat)) M) := propext Iff.rfl
theorem md_tidx : MtR X "tuple.index" (liftM X.K rTidx) := by
  intro pins s σ H x xs v us Q I rx rs hh
  obtain ⟨d, ds, M, F, Qd, R, h1, h2, h3, l⟩ := hh
  unfold rTidx at h3
  split at h3
  · rename_i ws z
    obtain ⟨a, zs, o, e1, e2, _, e3⟩ := h1
    subst e1
    obtain ⟨y, ey, gy⟩ := dv1 h2
    subst ey
    cases (show y = .str z from gy)
    obtain ⟨ys, q1, q⟩ := optK_of h3
    obtain ⟨j, q2, q⟩ := optK_of q
    have e4 := DVs.strs q1 e3
    subst e4
    rw [List.findIdx?_eq_some_iff_getElem] at q2
    obtain ⟨hj, hz, hno⟩ := q2
    refine mt_tup_index pins s σ H _ _ v us Q I rx rs ⟨a, ys, z, j, rfl, rfl, .inl (.inr ⟨o, e2⟩), ?_, fun m hm e => ?_, l (.int (j : Nat)) H (.int (j : Nat)) M Ext.rfl' R rfl q⟩
    · rw [List.getElem?_eq_getElem hj, of_decide_eq_true hz]
    · have hl : m < ys.length := by omega
      rw [List.getElem?_eq_getElem hl] at e
      have := hno m hm
      rw [Option.some.inj e] at this
      simp at this
  · exact h3.elim
def rLidx (d : D) (ds : List D) (M : Mem) (Q : KN) : Prop := match d, ds with
  | .lst xs, [y] => flatD y = true ∧ xs.all flatD = true ∧ optK (xs.findIdx? fun z => deq z y) fun j => Q (.int (j : Nat)) M
  | _, _ => False
theorem rLidx_p {xs : List D} {y : D} {M : Mem} {Q : KN} : (rLidx (.lst xs) [y] M Q) = (flatD y = true ∧ xs.all flatD = true ∧ optK (xs.findIdx? fun z => deq z y) fun j => Q (.int (j : Nat)) M) := propext Iff.rfl
theorem md_lidx : MtR X "list.index" (liftM X.K rLidx) := by
  intro pins s σ H x xs v us Q I rx rs hh
  obtain ⟨d, ds, M, F, Qd, R, h1, h2, h3, l⟩ := hh
  unfold rLidx at h3
  split at h3
  · rename_i ws y
    obtain ⟨a, zs, e1, e2, _, e3⟩ := h1
    subst e1
    obtain ⟨u, eu, gu⟩ := dv1 h2
    subst eu
    obtain ⟨f1, f2, q⟩ := h3
    obtain ⟨j, q2, q⟩ := optK_of q
    rw [List.findIdx?_eq_some_iff_getElem] at q2
    obtain ⟨hj, hz, hno⟩ := q2
    obtain ⟨w, w1, w2⟩ := e3.get (List.getElem?_eq_getElem hj)
    have fl : ∀ (m : Nat) (h : m < ws.length), flatD ws[m] = true := fun m h => List.all_eq_true.mp f2 _ (List.getElem_mem h)
    refine mt_index pins s σ H _ _ v us Q I rx rs ⟨a, zs, u, j, w, rfl, rfl, SqL.of e2, flat_ok f1 gu, flats_ok f2 e3, w1, ?_, fun m z' hm hz' => ?_, l (.int (j : Nat)) H (.int (j : Nat)) M Ext.rfl' R rfl q⟩
    · rw [eqV_ok (fl j hj) f1 w2 gu]; exact hz
    · have hl : m < ws.length := by omega
      obtain ⟨w', w1', w2'⟩ := e3.get (List.getElem?_eq_getElem hl)
      rw [hz'] at w1'
      cases w1'
      rw [eqV_ok (fl m hl) f1 w2' gu]
      simpa using hno m hm
  · exact h3.elim
end
end DL
namespace DL
open PySem PySem.Spec PyProof.Rows L2 RZ

/-! ### lists of numbers by their order -/
def lexGt : List Int → List Int → Bool
  | [], _ => false
  | _ :: _, [] => true
  | a :: as, b :: bs => if a = b then lexGt as bs else decide (b < a)
theorem first_map {e r : Nat → Bool} {z : Bool} (f : Nat → Nat) : ∀ l : List Nat, SeqAt.firstLt e r z (l.map f) = SeqAt.firstLt (fun i => e (f i)) (fun i => r (f i)) z l
  | [] => rfl
  | i :: l => by
    show (if e (f i) = true then SeqAt.firstLt e r z (l.map f) else r (f i)) = (if e (f i) = true then _ else r (f i))
    rw [first_map f l]
theorem first_lex : ∀ ns ms : List Int, SeqAt.firstLt (fun j => decide (ns.getD j 0 = ms.getD j 0)) (fun j => decide (ms.getD j 0 < ns.getD j 0)) (decide (ns.length > ms.length)) (List.range (min ns.length ms.length)) = lexGt ns ms
  | [], ms => by simp [lexGt, SeqAt.firstLt]
  | a :: as, [] => by simp [lexGt, SeqAt.firstLt]
  | a :: as, b :: bs => by
    have e : min (a :: as).length (b :: bs).length = min as.length bs.length + 1 := by simp only [List.length_cons]; omega
    rw [e, List.range_succ_eq_map]
    show (if decide (a = b) = true then SeqAt.firstLt _ _ _ ((List.range (min as.length bs.length)).map Nat.succ) else decide (b < a)) = lexGt (a :: as) (b :: bs)
    rw [first_map]
    have ih := first_lex as bs
    have e2 : decide ((a :: as).length > (b :: bs).length) = decide (as.length > bs.length) := by
      rw [decide_eq_decide]
      simp only [List.length_cons]
      omega
    rw [e2]
    show (if decide (a = b) = true then SeqAt.firstLt (fun j => decide (as.getD j 0 = bs.getD j 0)) (fun j => decide (bs.getD j 0 < as.getD j 0)) (decide (as.length > bs.length)) (List.range (min as.length bs.length)) else decide (b < a)) = _
    rw [ih]
    show _ = if a = b then lexGt as bs else decide (b < a)
    by_cases h : a = b
    · rw [decide_eq_true h, if_pos rfl, if_pos h]
    · rw [decide_eq_false h, if_neg Bool.false_ne_true, if_neg h]
def intsD : List D → Option (List Int)
  | [] => some []
  | .int i :: ds => (intsD ds).map (i :: ·)
  | _ => none
theorem intsD_map {α : Type} (f : α → Int) : ∀ xs : List α, intsD (xs.map fun x => D.int (f x)) = some (xs.map f)
  | [] => rfl
  | x :: xs => by
    show (intsD (xs.map fun x => D.int (f x))).map (f x :: ·) = _
    rw [intsD_map f xs]
    rfl
theorem DVs.intsD {K : PySem.W.Frag} {H : Hp} {M : Mem} : ∀ {ds : List D} {ns : List Int} {xs : List V}, DL.intsD ds = some ns → DVs K H M ds xs → xs = ns.map V.int
  | [], ns, xs, h, g => by
    cases h
    exact g
  | d :: ds, ns, xs, h, g => by
    obtain ⟨y, zs, e, g1, g2⟩ := g
    subst e
    cases d <;> first | cases h | skip
    rename_i b
    cases (show y = .int b from g1)
    have h' : (DL.intsD ds).map (b :: ·) = some ns := h
    cases q : DL.intsD ds with
    | none => rw [q] at h'; cases h'
    | some cs =>
      rw [q] at h'
      cases h'
      rw [DVs.intsD q g2]
      rfl
def rGtL : RD2 := fun d e M Q => match d, e with
  | .lst xs, .lst ys => optK (intsD xs) fun ns => optK (intsD ys) fun ms => Q (.bl (lexGt ns ms)) M
  | _, _ => False
theorem rGtL_p {xs ys : List D} {M : Mem} {Q : KN} : (rGtL (.lst xs) (.lst ys) M Q) = (optK (intsD xs) fun ns => optK (intsD ys) fun ms => Q (.bl (lexGt ns ms)) M) := propext Iff.rfl
section
variable {X : Cx} {W : WX}
theorem od_gtL (hu : X.A.units < cLine) : OpR X (compareOp .Gt) (liftV2 X.K rGtL) := by
  intro pins s σ H x y v u Q I rx ry hh
  obtain ⟨d, e, M, F, Qd, R, h1, h2, h3, l⟩ := hh
  unfold rGtL at h3
  split at h3
  · rename_i xs ys
    obtain ⟨ns, q1, h3⟩ := optK_of h3
    obtain ⟨ms, q2, q⟩ := optK_of h3
    obtain ⟨a, zs, e1, g1, _, g2⟩ := h1
    obtain ⟨b, ws, e2, k1, _, k2⟩ := h2
    subst e1
    subst e2
    cases rx
    cases ry
    have e3 := DVs.intsD q1 g2
    have e4 := DVs.intsD q2 k2
    subst e3
    subst e4
    obtain ⟨its, r1, p1, _⟩ := I.list (SqL.of g1)
    obtain ⟨its2, r2, p2, _⟩ := I.list (SqL.of k1)
    have i1 : IntsAre its ns := Vals.ints r1
    have i2 : IntsAre its2 ms := Vals.ints r2
    have n1 : its.toArray.size = ns.length := by rw [List.size_toArray]; exact i1.length
    have n2 : its2.toArray.size = ms.length := by rw [List.size_toArray]; exact i2.length
    have at1 : ∀ j (h : j < its.toArray.size), ∃ t, its.toArray[j] = .int (ns.getD j 0) t := fun j h => IntsAre.int_at i1 _ _ (by simp at h; simp [h])
    have at2 : ∀ j (h : j < its2.toArray.size), ∃ t, its2.toArray[j] = .int (ms.getD j 0) t := fun j h => IntsAre.int_at i2 _ _ (by simp at h; simp [h])
    have R := SeqAt.RcOp.lists_gt (A := X.A) (s := s) (e := fun j => decide (ns.getD j 0 = ms.getD j 0)) (r := fun j => decide (ms.getD j 0 < ns.getD j 0)) p1.isList p2.isList hu (fun j j1 j2 => by
      obtain ⟨t, et⟩ := at1 j j1
      obtain ⟨t', et'⟩ := at2 j j2
      rw [et, et', show decide (ns.getD j 0 = ms.getD j 0) = (ns.getD j 0 == ms.getD j 0) from by rw [Bool.eq_iff_iff]; simp]
      exact SeqAt.EqAt.int_int _ _ _ _) (fun j j1 j2 _ => by
      obtain ⟨t, et⟩ := at1 j j1
      obtain ⟨t', et'⟩ := at2 j j2
      rw [et, et']
      exact fun _ _ _ _ h => PyProof.Rows.gt_int h)
    rw [n1, n2, first_lex] at R
    exact R X.prog X.w X.xe (EP X pins σ Q) ⟨.bl _, H, I, rfl, l (.bl _) H (.bl _) M Ext.rfl' ‹_› rfl q⟩
  · exact h3.elim
/-! ### stars in a display -/
def wStar (we : WE) (wr : WA) : WA := fun ds M Q Xc => we ds M (fun d M1 => optK (seqOf M1 d) fun xs => wr ds M1 (fun ys M2 => Q (xs ++ ys) M2) Xc) Xc
theorem pStar {we : WE} {wr : WA} {ds : SD} {M : Mem} {Q : List D → Mem → Prop} {X : KX} : (wStar we wr ds M Q X) = (we ds M (fun d M1 => optK (seqOf M1 d) fun xs => wr ds M1 (fun ys M2 => Q (xs ++ ys) M2) X) X) := propext Iff.rfl
theorem j_star {e : Expr} {es : List Expr} {we : WE} {wr : WA} {p : Pos} (he : JE X W e we) (hr : JA X W es wr) (hs : starEach (.Starred e p :: es) X.env = (true, eval e X.env) :: starEach es X.env := by rfl) : JA X W (.Starred e p :: es) (wStar we wr) :=
  pa_mono (StX.pa_star he hr hs) fun σ H Q h =>
    bindE (wa := we) (f := fun d ds M Q Xc => optK (seqOf M d) fun xs => wr ds M (fun ys M2 => Q (xs ++ ys) M2) Xc) h fun v d H1 h => by
      obtain ⟨ds, M, F, Qd, Xd, hs, hv, hw, l1, l2⟩ := h
      obtain ⟨_, _, e1, h1, _⟩ := hv
      cases e1
      obtain ⟨xs, q1, hw⟩ := optK_of hw
      obtain ⟨a, zs, e2, sq, dv⟩ := seqOf_ok hs.1 q1 h1
      refine ⟨a, zs, e2, sq.symm, ?_⟩
      refine bindA (Rr := rA X.K) (Q := Q) (wa := wr) (es := xs) (vs := zs) (f := fun ys _ M Q _ => Q (xs ++ ys) M) ⟨ds, M, F, Qd, Xd, hs, dv, hw, l1, l2⟩ fun us ys H2 h => ?_
      obtain ⟨_, M2, F2, Qd2, Xd2, hs2, hv2, hw2, m1, _⟩ := h
      have n1 := dv.len
      have n2 := hv2.len
      rw [List.length_append, List.length_append] at n2
      have t1 := hv2.take ys.length
      have t2 := hv2.drop ys.length
      rw [List.take_left, show ys.length = us.length by omega, List.take_left] at t1
      rw [List.drop_left, show ys.length = us.length by omega, List.drop_left] at t2
      exact m1 (zs ++ us) H2 (xs ++ ys) M2 Ext.rfl' hs2.1 (DVs.app t2 t1) hw2
/-! ### a name's value that nobody changes from here on -/
def wFzS (i : Nat) (w : WS) : WS := fun E ds M => ∃ d d' M', ds[i]? = some (some d) ∧ Fz d M d' M' ∧ w E (ds.set i (some d')) M'
theorem jss_fz {ss : List Stmt} {w : WS} (i : Nat) (h : JSs X W ss w) : JSs X W ss (wFzS i w) := pss_mono h fun D σ H hh => by
  obtain ⟨ds, M, F, E, hs, hv, ⟨d, d', M', e, fz, hw⟩, l⟩ := hh
  have ex : Ext H (uni M F) H (uni M' F) := Ext.down Ext.rfl' (sub_none fz.sub)
  refine ⟨ds.set i (some d'), M', F, E, ⟨hs.1.sub fz.sub, by rw [List.length_set]; exact hs.2.1, fun j d2 h2 => ?_⟩, rfl, hw, l.ext ex⟩
  by_cases z : i = j
  · subst z
    have hi := (List.getElem?_eq_some_iff.mp e).1
    rw [List.getElem?_set_self hi] at h2
    cases h2
    obtain ⟨v, v1, v2⟩ := hs.2.2 i d e
    exact ⟨v, v1, fz.dv _ _ _ _ hs.1 v2⟩
  · rw [List.getElem?_set_ne z] at h2
    obtain ⟨v, v1, v2⟩ := hs.2.2 j d2 h2
    exact ⟨v, v1, DV.down (sub_none fz.sub) _ _ v2⟩
end
theorem u65 {k : Nat} {A : Around} (hr : Room k A) : A.units + 65 < cLine := by have := hr.un; omega
theorem u0 {k : Nat} {A : Around} (hr : Room k A) : A.units < cLine := by have := hr.un; omega
theorem fzS_lst {i : Nat} {w : WS} {E : ED} {ds : SD} {M M' : Mem} {a : Addr} {xs : List D} (h : ds[i]? = some (some (.ref a))) (e : M a = some (.lst xs)) (n : M' a = none) (s : ∀ b o, M' b = some o → M b = some o) (q : w E (ds.set i (some (.lst xs))) M') : wFzS i w E ds M :=
  ⟨.ref a, .lst xs, M', h, Fz.lst e n (FzS.dn s), q⟩
end DL
set_option maxHeartbeats 2000000
namespace DL
open PySem PySem.Spec PyProof.Rows L2 RZ

/-! ### super().__init__("..") in an own exception's __init__ -/
/-- what the written part says of an own exception class: its __init__ the def ist -/
structure ExC (P : Program) (K : PySem.W.Frag) (qual : Str) (ist : Stmt) (C fI : Addr) : Prop where
  oex : OexC K C
  init : PySem.W.findIn K (.ref C) "__init__" = some (some (.ref fI))
  tyI : PySem.W.typeIn K (.ref fI) = some (.type "function")
  sup : PySem.W.ks_superIn K C C "__init__" = some (some (.builtin "ValueError.__init__"))
  sub : PySem.W.subIn K (.ref C) (.type "ValueError") = some true
  mro : PySem.W.mroIn K C (.ref C) = some true
  op : PySem.W.nsIn K PySem.cStatics "thirdparty.any" = some none
  xf : XfC K C
  fn : ∃ (cc cda : Addr) (oc : Value) (od : Option Addr) (kV doc pm ct : Value) (an : Option Addr) (osl : Array (Option Value)) (ccl : Value) (cdd : Option Addr) (vs : Array Value) (ccs : Array (Option Value)) (file : Str) (tf : Tok) (cl : Value) (cld : Option Addr) (csl : Array (Option Value)),
    K.lookup fI = some ⟨oc, od, .func (PySem.W.fnX "__init__" qual (defArgs ist) (defBody ist) (defScope ist) [("__class__", cc)] .none kV doc pm an (.ref cda) ct), osl⟩ ∧ PySem.W.codeIn K (.ref cda) qual = true ∧
    K.lookup cda = some ⟨ccl, cdd, .fields vs, ccs⟩ ∧ vs[2]? = some (.str file tf) ∧ ((P.main.file : Str) == file) = true ∧ K.lookup cc = some ⟨cl, cld, .cell (some (.ref C)), csl⟩
  top : (P.main.scope.names.lookup ("super" : Str)).isSome = false
section
variable {P : Program} {w : World} {A : Around} {E : Value → Shared → Prop} {h : Heap} {g : Array GenState} {d : Drawn} {t : Nat} {os : OsState} {nm q : Str} {C N : Addr} {bs bm : List Value} {hdct : Bool} {sn : List Str} {sub : List Value} {ab : Bool} {col : Option Bool} {dd : Option Addr} {k0 k1 k2 k3 k5 : Option Value}
/-- the bound ValueError.__init__ called -/
theorem call_mw {u e t0 : Addr} {rest : List Value} {Q : Value → Shared → Prop}
    (hC : h.get? C = some (excClassObj nm q C N bs bm hdct sn sub ab col dd k0 k1 k2 k3 k5 "ValueError.__new__")) (he : h.get? e = some ({ cls := .ref C, dict := none, data := .fields #[.ref t0, .none, .none, .none, .bool false, .none] } : Obj)) (hu : h.get? u = some (PySem.W.kxs_mw "ValueError.__init__" e)) (hrest : rest.length ≤ sizeLine)
    (hq : ∀ h' t1, (∀ b o, b ≠ e → h.get? b = some o → h'.get? b = some o) → h'.get? e = some ({ cls := .ref C, dict := none, data := .fields #[.ref t1, .none, .none, .none, .bool false, .none] } : Obj) → Q .none ⟨h', g, d, t, os⟩) :
    wpAny (model P w) A (call (.ref u) rest) Q E ⟨h, g, d, t, os⟩ := by
  have B := F.excBase_ValueError
  have isM : (Value.type "method-wrapper" == Value.type "method" || Value.type "method-wrapper" == Value.type "builtin_function_or_method" || Value.type "method-wrapper" == Value.type "method-wrapper") = true := by decide
  refine wpAny_call (codeAny_of_tree ?_)
  show wpAny _ A.in1 (callAny (.ref u) ⟨rest, []⟩) _ _ _
  unfold callAny
  refine wpAny_bind (wpAny_load hu ?_)
  dsimp only [PySem.W.kxs_mw]
  rw [isM]
  refine PySem.W.KFB.if_so (by decide) ?_
  refine wpAny_bind (PySem.W.check_bound_init B.toExcCallFacts hC he rfl ?_)
  refine wpAny_bind (wpAny_pure (wpAny_pure ⟨plainId_quiet B.init.plain _, codeAny_builtin B.initEntry ?_⟩))
  exact PySem.W.exc_init_tree he hrest fun h' k e1 _ => hq h' _ k e1
end
/-- the made function's words -/
def exNF (qual : Str) (ist : Stmt) (cc cda : Addr) : NdefX.NF := ⟨"__init__", qual, defArgs ist, defBody ist, defScope ist, [("__class__", cc)], cda⟩
theorem cells_cls {K : PySem.W.Frag} {C cc : Addr} {cl : Value} {cld : Option Addr} {csl : Array (Option Value)} {h : Heap} {H : Hp} (hc : K.lookup cc = some ⟨cl, cld, .cell (some (.ref C)), csl⟩) (X : K.In h) (hn : H cc = none) : NdefX.CellsAt [("__class__", cc)] ["__class__"] [some (V.ref C)] h H := by
  have one : ∀ y c, ([("__class__", cc)] : List (Str × Addr)).lookup y = some c → y = "__class__" ∧ c = cc := fun y c e => by
    rw [List.lookup_cons] at e
    by_cases z : y = "__class__"
    · subst z
      simp at e
      exact ⟨rfl, e.symm⟩
    · have z' : (y == ("__class__" : Str)) = false := by simpa using z
      rw [z'] at e
      simp at e
  have isc : h.IsCell cc (some (.ref C)) := ⟨_, X _ _ hc, rfl⟩
  refine ⟨rfl, fun y c e => ?_, fun x y c e1 e2 => ?_, fun i y e => ?_⟩
  · obtain ⟨_, rfl⟩ := one y c e
    exact ⟨hn, _, isc⟩
  · rw [(one x c e1).1, (one y c e2).1]
  · cases i with
    | zero =>
      cases e
      refine ⟨cc, by simp [List.lookup], fun v e => ?_⟩
      cases e
      exact ⟨.ref C, rfl, isc⟩
    | succ i => simp at e
section
variable {CX : CXT} {P : Program} {w : World} {K : PySem.W.Frag} {mg : Str → Option Value} {base : Heap} {k : Nat} {qual : Str} {ist : Stmt} {C fI : Addr} {N ps : List Str} {sp : Sp}
theorem exc_fn (X : ExC P K qual ist C fI) (S : NdefX.NScope N (("self" : Str) :: ps) ["__class__"] (defScope ist)) (ms : mg "super" = none) (hks : (defScope ist).names.lookup ("super" : Str) = some .globalImplicit)
    {msg : Str} {j : Nat} {p0 p1 p2 p3 p4 p5 : Pos} {rest : List Stmt} (hb : defBody ist = .Expr (.Call (.Attribute (.Call (.Name "super" p0) [] [] p1) "__init__" p2) [.Constant (.str msg) j p3] [] p4) p5 :: rest)
    (hE : ∀ cc cda L : Addr, (∃ pl : Sem Bool, eval (.Call (.Attribute (.Call (.Name "super" p0) [] [] p1) "__init__" p2) [.Constant (.str msg) j p3] [] p4) (NdefX.envF (exNF qual ist cc cda) fI L) = (do
      let ov ← attributeBase (.Call (.Name "super" p0) [] [] p1) "__init__" (NdefX.envF (exNF qual ist cc cda) fI L) (eval (.Call (.Name "super" p0) [] [] p1) (NdefX.envF (exNF qual ist cc cda) fI L))
      standAt p2.atName
      let (f, first) ← holding [ov] (getMethod ov "__init__" pl)
      callWith p4 f first (backTo p4 (starEach [.Constant (.str msg) j p3] (NdefX.envF (exNF qual ist cc cda) fI L))) [])) ∧ interactive (NdefX.envF (exNF qual ist cc cda) fI L) = false ∧
      swapsWith (.Call (.Attribute (.Call (.Name "super" p0) [] [] p1) "__init__" p2) [.Constant (.str msg) j p3] [] p4) none p5.line (NdefX.envF (exNF qual ist cc cda) fI L) = pure false)
    {ar : Arg} (har : ((defArgs ist).posonlyargs ++ (defArgs ist).args).head? = some ar) (hself : ar.arg = "self")
    (bind : ∀ (cc cda : Addr) (kV doc pm ct : Value) (an : Option Addr) (us : List Value), us.length = ps.length + 1 → bindArgs (PySem.W.fnX "__init__" qual (defArgs ist) (defBody ist) (defScope ist) [("__class__", cc)] .none kV doc pm an (.ref cda) ct) ⟨us, []⟩ = pure ((("self" : Str) :: ps).zip us))
    (len : ∀ vs H Q E, sp vs H Q E → vs.length = ps.length + 1)
    (hbody : ∀ (cc cda : Addr) (A : Around) (outer : List Env) (s : Shared) (H : Hp) (vs : List V) (Q : VK) (E : XK), sp vs H Q E →
      ∃ (a : Addr) (r : List V), vs = .ref a :: r ∧ H a = some (exo a C none) ∧ ∃ t, PSs (NdefX.ncx CX P w K mg base N (exNF qual ist cc cda) fI A outer s H E) rest t ∧ t { nx := fun _ H' => Q .non H', rt := Q } (NdefX.startF N vs [some (.ref C)]) H) :
    ∃ fd, FnOk P w K mg base CX (k + 1) fI fd (("self" : Str) :: ps) sp ∧ Binds K fd (("self" : Str) :: ps) [] := by
  obtain ⟨cc, cda, oc, od, kV, doc, pm, ct, an, osl, ccl, cdd, vs0, ccs, file, tf, cl, cld, csl, lk, hcd, lc, hvs, hfile, lcell⟩ := X.fn
  refine ⟨_, ⟨fun vs H Q E q => len vs H Q E q, fun A outer s H args us vs Q E hr e0 hbd r hsp => ?_⟩, .all fun us hl => bind cc cda kV doc pm ct an us hl⟩
  have hl := len _ _ _ _ hsp
  have KX : K.In s.heap := e0.mod.kin.keeps fun b o e => (e0.bs b o e).1
  have lim : s.heap.NoLimit := e0.mod.nolimit.keeps fun b o e => (e0.bs b o e).1
  have hn : H cc = none := (e0.bs cc _ (e0.mod.kin _ _ lcell)).2
  obtain ⟨a, rr, ev, ha, t, ht, hq⟩ := hbody cc cda A outer s H vs Q E hsp
  refine ks_codeAny_call_defAt (binds := (("self" : Str) :: ps).zip us) hr.depth (KX _ _ lk) rfl lim (PySem.W.codeRec_of KX hcd) rfl hbd S.nocell (fun ⟨n, _⟩ hy => S.par n (List.of_mem_zip hy).1) (fun h₀ hns kp => ?_) S.co S.gen S.kind
  have I : Inv (NdefX.ncx CX P w K mg base N (exNF qual ist cc cda) fI A outer s H E) [] (NdefX.startF N vs [some (.ref C)]) H { s with heap := h₀, toks := s.toks + ((("self" : Str) :: ps).zip us).length } := NdefX.inv_startN S hr.hd e0 hl r (cells_cls lcell KX hn) hns kp
  have fin : ∀ {σ' : L2.St} {H' : Hp} {v : V} {u : Value} {s'}, Inv (NdefX.ncx CX P w K mg base N (exNF qual ist cc cda) fI A outer s H E) [] σ' H' s' → L2.RelV v u → Q v H' → CE outer P w H s Q u s' :=
    fun {σ' H' v u s'} J rv q => ⟨v, H', J.os, J.bare, J.base, J.hok, rv, q⟩
  have hps : us = .ref a :: us.drop 1 := by
    subst ev
    cases r with
    | cons r1 r2 => rw [show _ = Value.ref a from r1]; rfl
  have hnd : ((("self" : Str) :: ps)).Nodup := by
    have q := S.nd.sublist (List.take_sublist ((("self" : Str) :: ps).length + 1) N)
    have p := S.pre
    rw [show (["__class__"] : List Str).length = 1 from rfl] at p
    rw [p] at q
    exact (List.nodup_append.mp q).1
  have hv : ((("self" : Str) :: ps).zip us).reverse.lookup ("self" : Str) = some (.ref a) := NdefX.zip_look (i := 0) hnd rfl (by rw [hps]; rfl)
  obtain ⟨nm, q, N', bs, bm, sn, sub, ab, col, dd, k0, k1, k2, k3, k5, hC, hbm⟩ := X.oex.cls
  have hcl : PySem.W.clsIn K C = some { name := nm, bases := bs, mro := .ref C :: bm, ns := N', qualname := q, hasDict := true, slotNames := sn, subclasses := sub, abstract := ab, collection := col, hasDel := false } := by unfold PySem.W.clsIn; rw [hC] <;> rfl
  have hal := X.sup
  unfold PySem.W.ks_superIn at hal
  rw [hcl, Option.bind_some] at hal
  obtain ⟨t0, ho⟩ := exo_at I.hok ha
  have X0 : K.In h₀ := I.kIn
  have IA : PySem.W.InstAt h₀ a ({ cls := .ref C, dict := none, data := .fields #[.ref t0, .none, .none, .none, .bool false, .none] } : Obj) C none := ⟨ho, rfl, rfl, trivial⟩
  have hne : a ≠ C := PySem.W.ks_ne X0 IA hcl
  obtain ⟨mb, b1, b2⟩ := e0.mod.blt
  have bK : ∀ b o, base.get? b = some o → h₀.get? b = some o := fun b o e => kp b o (e0.bs b o e).1
  obtain ⟨hp, g, d, tk, os⟩ := s
  show _root_.PySem.wpAt _ _ _ (execs (defBody ist) (NdefX.envF (exNF qual ist cc cda) fI hp.objs.size)) _ _ _
  rw [hb]
  obtain ⟨⟨pl, hE1⟩, hE2, hE3⟩ := hE cc cda hp.objs.size
  refine ks_wpAt_execs_cons (ks_wpAt_Expr_any (hi := hE2) (hs := hE3) (ks_wpAt_MethodCall (pl := pl) (he := hE1) (ks_wpAt_super_base (env := NdefX.envF (exNF qual ist cc cda) fI hp.objs.size) hks (S.frk _ List.mem_cons_self) (by decide) rfl (kp _ _ (KX _ _ lk)) rfl har rfl (kp _ _ (KX _ _ lc)) rfl hvs hfile X.top ?_)))
  refine PySem.W.ks_loadName_global S.kind hks (Calls.loadGlobal_builtin (e0.mod.glob.keeps bK) ms (b1.keeps bK) (v := .type "super") ((b2 ("super" : Str) (by decide)).trans (by rfl)) ⟨rfl, ?_⟩)
  refine wpAny_loadName_free S.kind (S.frk _ List.mem_cons_self) (by rfl) ⟨_, kp _ _ (KX _ _ lcell), rfl⟩ ?_
  rw [hself]
  refine wpAny_loadName_local S.kind (S.par _ List.mem_cons_self) hns hv ?_
  refine ks_wpAny_isType_cls (X0 _ _ hC) rfl ⟨rfl, ?_⟩
  refine ks_wpAny_call_super (X0 _ _ hC) rfl ho rfl (fun c e => by cases e) (PySem.W.looks_mroIn X0 X.mro) (fun h1 e1 kk1 => ?_)
  have X1 : K.In h1 := X0.keeps kk1
  have IA1 : PySem.W.InstAt h1 a ({ cls := .ref C, dict := none, data := .fields #[.ref t0, .none, .none, .none, .bool false, .none] } : Obj) C none := ⟨kk1 _ _ ho, rfl, rfl, trivial⟩
  refine PySem.W.kxs_getMethod PySem.W.kxs_ValueError e1 (PySem.W.looks_opaque X1 X.op) (fun A Q E s k q => wpAny_bind ((PySem.W.looks_clsIn X1 hcl) A _ E s k (wpAny_pure q))) rfl X1 hal (IA1.type.andThen (PySem.W.looks_subIn X1 X.sub)) hne (by decide) ?_
  have hmw : (h1.push (PySem.W.kxs_mw "ValueError.__init__" a)).get? h1.objs.size = some (PySem.W.kxs_mw "ValueError.__init__" a) := Heap.get?_push_at rfl rfl
  have kk2 : ∀ b o, h₀.get? b = some o → (h1.push (PySem.W.kxs_mw "ValueError.__init__" a)).get? b = some o := fun b o e => Heap.get?_push_of_some _ (kk1 b o e)
  refine PySem.W.kxs_callWith (i := "ValueError.__init__") (x := a) rfl (Calls.evalArgs_plain (Calls.spliced_cons (Calls.Constant_str (k := j) (pos := p3) (Calls.spliced_nil ⟨hmw, ?_⟩))))
  refine call_mw (kk2 _ _ (X0 _ _ hC)) (kk2 _ _ ho) hmw (by rw [sizeLine_eq]; simp) (fun h2 t2 kk3 e3 => ?_)
  have eu : upd H a (exo a C none) = H := by
    funext b
    by_cases z : b = a
    · rw [z, upd_same, ha]
    · rw [upd_ne z]
  have J : ∀ t' : Nat, Inv (NdefX.ncx CX P w K mg base N (exNF qual ist cc cda) fI A outer ⟨hp, g, d, tk, os⟩ H E) [] (NdefX.startF N vs [some (.ref C)]) H ⟨h2, g, d, t', os⟩ := fun t' => by
    have J := I.write (t' := t') (x := a) (e := a) (o := exo a C none) (h' := h2) (by rw [ha]; exact True.intro) (.inl rfl) (fun b o hb e => kk3 b o hb (kk2 b o e)) ⟨_, e3⟩ (exo_ok e3)
    rw [eu] at J
    exact J
  refine wpAt_of_wpAny (wpAny_mono (ht.run [] _ _ H _ (J _) hq) (fun fl s' hs => ?_) fun e s' hs => hs)
  cases fl with
  | ret u =>
    obtain ⟨v, σ', H', J, rv, q⟩ := hs
    exact fin J rv q
  | next =>
    obtain ⟨σ', H', J, q⟩ := hs
    exact fin (v := V.non) (u := Value.none) J rfl q
  | brk =>
    obtain ⟨_, _, _, q⟩ := hs
    exact False.elim q
  | cont =>
    obtain ⟨_, _, _, q⟩ := hs
    exact False.elim q
end
end DL
set_option maxHeartbeats 2000000
namespace DL
open PySem PySem.Spec PyProof.Rows L2 RZ

/-! ### own exceptions: what __init__ promises, raise -/
/-- __init__(self, ..) stores the fields fs, then the tag -/
def spEx (C : Addr) (fs : List Str) (tag : Str) : Sp := fun vs H Q _ => ∃ (a : Addr) (ys : List V), vs = .ref a :: ys ∧ ys.length = fs.length ∧ H a = some (exo a C none) ∧
  ∀ (d : Addr) (H' : Hp), H d = none → d ≠ a → H' a = some (exo a C (some d)) → H' d = some (exd d ((("tag" : Str), V.str tag) :: (fs.zip ys).reverse)) → (∀ b, b ≠ a → b ≠ d → H' b = H b) → Q .non H'
structure XJ (P : Program) (w : World) (K : PySem.W.Frag) (mg : Str → Option Value) (base : Heap) (C fI : Addr) (fs : List Str) (tag : Str) : Prop where
  ex : ∃ fd ps, FnOk P w K mg base CX0 1 fI fd ps (spEx C fs tag) ∧ Binds K fd ps []
  oex : OexC K C
  init : PySem.W.findIn K (.ref C) "__init__" = some (some (.ref fI))
  tyI : PySem.W.typeIn K (.ref fI) = some (.type "function")
section
variable {P : Program} {w : World} {K : PySem.W.Frag} {mg : Str → Option Value} {base : Heap} {k : Nat} {qual : Str} {ist : Stmt} {C fI : Addr} {f x tag : Str}
abbrev SupE (qual : Str) (ist : Stmt) (fI : Addr) (msg : Str) (j : Nat) (p0 p1 p2 p3 p4 p5 : Pos) : Prop := ∀ cc cda L : Addr, (∃ pl : Sem Bool, eval (.Call (.Attribute (.Call (.Name "super" p0) [] [] p1) "__init__" p2) [.Constant (.str msg) j p3] [] p4) (NdefX.envF (exNF qual ist cc cda) fI L) = (do
      let ov ← attributeBase (.Call (.Name "super" p0) [] [] p1) "__init__" (NdefX.envF (exNF qual ist cc cda) fI L) (eval (.Call (.Name "super" p0) [] [] p1) (NdefX.envF (exNF qual ist cc cda) fI L))
      standAt p2.atName
      let (f, first) ← holding [ov] (getMethod ov "__init__" pl)
      callWith p4 f first (backTo p4 (starEach [.Constant (.str msg) j p3] (NdefX.envF (exNF qual ist cc cda) fI L))) [])) ∧ interactive (NdefX.envF (exNF qual ist cc cda) fI L) = false ∧
      swapsWith (.Call (.Attribute (.Call (.Name "super" p0) [] [] p1) "__init__" p2) [.Constant (.str msg) j p3] [] p4) none p5.line (NdefX.envF (exNF qual ist cc cda) fI L) = pure false
theorem upd_at {H : Hp} {a b : Addr} {o : HO} (h : a ≠ b) : upd H b o a = H a := upd_ne h
/-- no field -/
theorem exc_0 (X : ExC P K qual ist C fI) (nt : PySem.W.findIn K (.ref C) "tag" = some none) (S : NdefX.NScope ["self", "__class__"] ["self"] ["__class__"] (defScope ist)) (ms : mg "super" = none) (hks : (defScope ist).names.lookup ("super" : Str) = some .globalImplicit)
    {msg : Str} {j j2 : Nat} {p0 p1 p2 p3 p4 p5 q5 q6 q7 q8 : Pos} (hb : defBody ist = [.Expr (.Call (.Attribute (.Call (.Name "super" p0) [] [] p1) "__init__" p2) [.Constant (.str msg) j p3] [] p4) p5,
      .Assign [.Attribute (.Name "self" q5) "tag" q6] (.Constant (.str tag) j2 q7) q8])
    (hE : SupE qual ist fI msg j p0 p1 p2 p3 p4 p5) {ar : Arg} (har : ((defArgs ist).posonlyargs ++ (defArgs ist).args).head? = some ar) (hself : ar.arg = "self")
    (bind : ∀ (cc cda : Addr) (kV doc pm ct : Value) (an : Option Addr) (us : List Value), us.length = 1 → bindArgs (PySem.W.fnX "__init__" qual (defArgs ist) (defBody ist) (defScope ist) [("__class__", cc)] .none kV doc pm an (.ref cda) ct) ⟨us, []⟩ = pure ((["self"] : List Str).zip us)) : XJ P w K mg base C fI [] tag := by
  refine ⟨?_, X.oex, X.init, X.tyI⟩
  obtain ⟨fd, h1, h2⟩ := exc_fn (CX := CX0) (w := w) (mg := mg) (base := base) (k := 0) (sp := spEx C [] tag) X S ms hks hb hE har hself bind (fun vs H Q E h => by
    obtain ⟨a, ys, rfl, hl, _⟩ := h
    rw [List.length_cons, hl]
    all_goals rfl) (fun cc cda A outer s H vs Q E h => by
    obtain ⟨a, ys, ev, hl, ha, q⟩ := h
    obtain rfl : ys = [] := List.eq_nil_of_length_eq_zero hl
    refine ⟨a, [], ev, ha, _, pss_one (ps_ost (pe_var (i := 0) rfl (.inl (S.par _ List.mem_cons_self))) pe_str), ?_⟩
    subst ev
    refine ⟨.ref a, rfl, a, C, rfl, X.oex, nt, .inl ⟨ha, fun d hd ne => ?_⟩⟩
    refine q d _ hd ne (by rw [upd_same]) (by rw [upd_ne ne, upd_same]; rfl) fun b h1 h2 => by rw [upd_ne h1, upd_ne h2])
  exact ⟨fd, _, h1, h2⟩
/-- one field -/
theorem exc_1 (X : ExC P K qual ist C fI) (nf : PySem.W.findIn K (.ref C) f = some none) (nt : PySem.W.findIn K (.ref C) "tag" = some none) (S : NdefX.NScope ["self", x, "__class__"] ["self", x] ["__class__"] (defScope ist)) (ms : mg "super" = none) (hks : (defScope ist).names.lookup ("super" : Str) = some .globalImplicit)
    {msg : Str} {j j2 : Nat} {p0 p1 p2 p3 p4 p5 q1 q2 q3 q4 q5 q6 q7 q8 : Pos} (hb : defBody ist = [.Expr (.Call (.Attribute (.Call (.Name "super" p0) [] [] p1) "__init__" p2) [.Constant (.str msg) j p3] [] p4) p5,
      .Assign [.Attribute (.Name "self" q1) f q2] (.Name x q3) q4, .Assign [.Attribute (.Name "self" q5) "tag" q6] (.Constant (.str tag) j2 q7) q8])
    (hE : SupE qual ist fI msg j p0 p1 p2 p3 p4 p5) {ar : Arg} (har : ((defArgs ist).posonlyargs ++ (defArgs ist).args).head? = some ar) (hself : ar.arg = "self")
    (bind : ∀ (cc cda : Addr) (kV doc pm ct : Value) (an : Option Addr) (us : List Value), us.length = 2 → bindArgs (PySem.W.fnX "__init__" qual (defArgs ist) (defBody ist) (defScope ist) [("__class__", cc)] .none kV doc pm an (.ref cda) ct) ⟨us, []⟩ = pure ((["self", x] : List Str).zip us))
    (hx : (x == ("__debug__" : Str)) = false) (hx2 : (x == ("__classdict__" : Str)) = false) : XJ P w K mg base C fI [f] tag := by
  refine ⟨?_, X.oex, X.init, X.tyI⟩
  obtain ⟨fd, h1, h2⟩ := exc_fn (CX := CX0) (w := w) (mg := mg) (base := base) (k := 0) (sp := spEx C [f] tag) X S ms hks hb hE har hself bind (fun vs H Q E h => by
    obtain ⟨a, ys, rfl, hl, _⟩ := h
    rw [List.length_cons, hl]
    all_goals rfl) (fun cc cda A outer s H vs Q E h => by
    obtain ⟨a, ys, ev, hl, ha, q⟩ := h
    obtain ⟨y, rfl⟩ : ∃ y, ys = [y] := by
      match ys, hl with
      | [y], _ => exact ⟨y, rfl⟩
    refine ⟨a, [y], ev, ha, _, pss_cons (ps_ost (pe_var (i := 0) rfl (.inl (S.par _ List.mem_cons_self))) (pe_var (i := 1) rfl (.inl (S.par _ (List.mem_cons_of_mem _ List.mem_cons_self))) hx hx2)) (pss_one (ps_ost (pe_var (i := 0) rfl (.inl (S.par _ List.mem_cons_self))) pe_str)), ?_⟩
    subst ev
    refine ⟨y, rfl, .ref a, rfl, a, C, rfl, X.oex, nf, .inl ⟨ha, fun d hd ne => ?_⟩⟩
    refine ⟨.ref a, rfl, a, C, rfl, X.oex, nt, .inr ⟨d, _, upd_same, by rw [upd_ne ne, upd_same], by simp, ?_⟩⟩
    refine q d _ hd ne (by rw [upd_ne ne.symm, upd_same]) (by rw [upd_same]; rfl) fun b h1 h2 => by rw [upd_ne h2, upd_ne h1, upd_ne h2])
  exact ⟨fd, _, h1, h2⟩
/-- two fields -/
theorem exc_2 {f2 x2 : Str} (X : ExC P K qual ist C fI) (nf : PySem.W.findIn K (.ref C) f = some none) (nf2 : PySem.W.findIn K (.ref C) f2 = some none) (nt : PySem.W.findIn K (.ref C) "tag" = some none) (S : NdefX.NScope ["self", x, x2, "__class__"] ["self", x, x2] ["__class__"] (defScope ist)) (ms : mg "super" = none) (hks : (defScope ist).names.lookup ("super" : Str) = some .globalImplicit)
    {msg : Str} {j j2 : Nat} {p0 p1 p2 p3 p4 p5 r1 r2 r3 r4 q1 q2 q3 q4 q5 q6 q7 q8 : Pos} (hb : defBody ist = [.Expr (.Call (.Attribute (.Call (.Name "super" p0) [] [] p1) "__init__" p2) [.Constant (.str msg) j p3] [] p4) p5,
      .Assign [.Attribute (.Name "self" q1) f q2] (.Name x q3) q4, .Assign [.Attribute (.Name "self" r1) f2 r2] (.Name x2 r3) r4, .Assign [.Attribute (.Name "self" q5) "tag" q6] (.Constant (.str tag) j2 q7) q8])
    (hE : SupE qual ist fI msg j p0 p1 p2 p3 p4 p5) {ar : Arg} (har : ((defArgs ist).posonlyargs ++ (defArgs ist).args).head? = some ar) (hself : ar.arg = "self")
    (bind : ∀ (cc cda : Addr) (kV doc pm ct : Value) (an : Option Addr) (us : List Value), us.length = 3 → bindArgs (PySem.W.fnX "__init__" qual (defArgs ist) (defBody ist) (defScope ist) [("__class__", cc)] .none kV doc pm an (.ref cda) ct) ⟨us, []⟩ = pure ((["self", x, x2] : List Str).zip us))
    (hx : (x == ("__debug__" : Str)) = false) (hx2 : (x == ("__classdict__" : Str)) = false) (hy : (x2 == ("__debug__" : Str)) = false) (hy2 : (x2 == ("__classdict__" : Str)) = false) : XJ P w K mg base C fI [f, f2] tag := by
  refine ⟨?_, X.oex, X.init, X.tyI⟩
  obtain ⟨fd, h1, h2⟩ := exc_fn (CX := CX0) (w := w) (mg := mg) (base := base) (k := 0) (sp := spEx C [f, f2] tag) X S ms hks hb hE har hself bind (fun vs H Q E h => by
    obtain ⟨a, ys, rfl, hl, _⟩ := h
    rw [List.length_cons, hl]
    all_goals rfl) (fun cc cda A outer s H vs Q E h => by
    obtain ⟨a, ys, ev, hl, ha, q⟩ := h
    obtain ⟨y, y2, rfl⟩ : ∃ y y2, ys = [y, y2] := by
      match ys, hl with
      | [y, y2], _ => exact ⟨y, y2, rfl⟩
    refine ⟨a, [y, y2], ev, ha, _, pss_cons (ps_ost (pe_var (i := 0) rfl (.inl (S.par _ List.mem_cons_self))) (pe_var (i := 1) rfl (.inl (S.par _ (List.mem_cons_of_mem _ List.mem_cons_self))) hx hx2))
      (pss_cons (ps_ost (pe_var (i := 0) rfl (.inl (S.par _ List.mem_cons_self))) (pe_var (i := 2) rfl (.inl (S.par _ (List.mem_cons_of_mem _ (List.mem_cons_of_mem _ List.mem_cons_self)))) hy hy2)) (pss_one (ps_ost (pe_var (i := 0) rfl (.inl (S.par _ List.mem_cons_self))) pe_str))), ?_⟩
    subst ev
    refine ⟨y, rfl, .ref a, rfl, a, C, rfl, X.oex, nf, .inl ⟨ha, fun d hd ne => ?_⟩⟩
    refine ⟨y2, rfl, .ref a, rfl, a, C, rfl, X.oex, nf2, .inr ⟨d, _, upd_same, by rw [upd_ne ne, upd_same], by simp, ?_⟩⟩
    refine ⟨.ref a, rfl, a, C, rfl, X.oex, nt, .inr ⟨d, _, by rw [upd_ne ne.symm, upd_same], upd_same, by simp, ?_⟩⟩
    refine q d _ hd ne (by rw [upd_ne ne.symm, upd_ne ne.symm, upd_same]) (by rw [upd_same]; rfl) fun b h1 h2 => by rw [upd_ne h2, upd_ne h2, upd_ne h1, upd_ne h2])
  exact ⟨fd, _, h1, h2⟩
end
end DL
set_option maxHeartbeats 2000000
namespace DL
open PySem PySem.Spec PyProof.Rows L2 RZ

/-! ### raise of an own exception -/
section
variable {K : PySem.W.Frag} {W : WX} {H H' : Hp} {M M' F : Mem} {σ : L2.St} {ds : SD} {E : ED} {D' : Ends} {es : List D} {vs : List V}
theorem bindSA {wa : WA} {f : List D → WS} {R : List V → Hp → Prop} (h : liftS K W es vs (fun E ds M => wa ds M (fun d M1 => f d E ds M1) (E.xc ds)) D' σ H)
    (k : ∀ v d H1, liftS K W (d ++ es) (v ++ vs) (f d) D' σ H1 → R v H1) : liftA K W wa σ H R := by
  obtain ⟨ds, M, F, E, hs, hv, hw, l⟩ := h
  exact ⟨ds, M, F, fun d M1 => f d E ds M1, E.xc ds, hs, rfl, hw, fun v H' d M' e r dv q => k v d H' ⟨ds, M', F, E, hs.ext e r, DVs.app dv (DVs.ext hs.1.rel e es vs hv), q, l.ext e⟩,
    fun cls dc H' x M' e r dv q => l.ex cls dc σ H' x ds M' e (hs.ext e r) dv q⟩
theorem DVs.rev : ∀ {ds : List D} {vs : List V}, DVs K H M ds vs → DVs K H M ds.reverse vs.reverse
  | [], vs, h => by
    have e : vs = [] := h
    subst e
    exact rfl
  | d :: ds, vs, h => by
    obtain ⟨y, ys, e, h1, h2⟩ := h
    subst e
    rw [List.reverse_cons, List.reverse_cons]
    exact DVs.app (DVs.rev h2) (DVs.one h1)
theorem zip_fst : ∀ {fs : List Str} {ys : List V}, ys.length = fs.length → (fs.zip ys).map (·.1) = fs
  | [], [], _ => rfl
  | f :: fs, y :: ys, h => by
    show f :: (fs.zip ys).map (·.1) = _
    rw [zip_fst (by simpa using h)]
theorem zip_snd : ∀ {fs : List Str} {ys : List V}, ys.length = fs.length → (fs.zip ys).map (·.2) = ys
  | [], [], _ => rfl
  | f :: fs, y :: ys, h => by
    show y :: (fs.zip ys).map (·.2) = _
    rw [zip_snd (by simpa using h)]
end
/-- raise C(..): the fields last stored stand first -/
def wRaise (C : Addr) (fs : List Str) (tag : Str) (wa : WA) : WS := fun E ds M => wa ds M (fun xs M1 => xs.length = fs.length ∧ E.ex (.own C ((("tag" : Str)) :: fs.reverse) (.str tag :: xs.reverse)) ds M1) (E.xc ds)
/-- what is left behind the making -/
theorem gone_eq {H1 H' : Hp} {a d : Addr} {o : HO} (ha : H1 a = none) (h3 : ∀ b, b ≠ a → b ≠ d → H' b = upd H1 a (exo a 0 none) b) : upd (del H' a) d o = upd H1 d o := by
  funext b
  by_cases hb : b = d
  · rw [hb, upd_same, upd_same]
  · rw [upd_ne hb, upd_ne hb]
    by_cases hz : b = a
    · rw [hz, del_same, ha]
    · rw [del_ne hz, h3 b hz hb, upd_ne hz]
section
variable {X : Cx} {W : WX} {x : Str} {p pos rpos : Pos} {e : Expr} {es : List Expr} {wa : WA} {j : Nat} {C fI : Addr} {fs : List Str} {tag : Str}
theorem raise_end {D' : Ends} {σ : L2.St} {vs : List V} {xs : List D} {H1 : Hp} (h : liftS X.K W xs vs (fun E ds M => xs.length = fs.length ∧ E.ex (.own C ((("tag" : Str)) :: fs.reverse) (.str tag :: xs.reverse)) ds M) D' σ H1) :
    vs.length = fs.length ∧ ∀ d, H1 d = none → W (.ref C) (some d) σ (upd H1 d (.xd ((("tag" : Str), V.str tag) :: (fs.zip vs).reverse))) := by
  obtain ⟨ds, M, F, E, hs, hv, ⟨hl, hw⟩, l⟩ := h
  have hl' : vs.length = fs.length := by rw [hv.len, hl]
  refine ⟨hl', fun d hd => ?_⟩
  have ex := new_ext hs.1.rel (o := HO.xd ((("tag" : Str), V.str tag) :: (fs.zip vs).reverse)) hd
  refine l.ex _ _ σ _ (.own C ((("tag" : Str)) :: fs.reverse) (.str tag :: xs.reverse)) ds M ex (hs.ext ex (hs.1.new hd)) ⟨rfl, d, _, rfl, upd_same, hs.1.rel.free hd, ?_, ?_⟩ hw
  · rw [List.map_cons, List.map_reverse, zip_fst hl']
  · rw [List.map_cons, List.map_reverse, zip_snd hl']
    exact ⟨_, _, rfl, rfl, (DVs.ext hs.1.rel ex _ _ hv).rev⟩
theorem js_raise (hc : X.calm = true) (J : XJ X.prog X.w X.K X.mg X.base C fI fs tag) (hr : Room j X.A) (hj : 2 ≤ j) (tk : Takes X W) (hm : X.mg x = some (.ref C)) (hfs : fs.length ≤ 1000) (ha : JA X W (e :: es) wa) (hg : Gl X x := by rfl)
    (hdb : (x == ("__debug__" : Str)) = false := by decide) (he : starEach (e :: es) X.env = (false, eval e X.env) :: starEach es X.env := by rfl) (hpl : (backTo pos (starEach es X.env)).any (·.1) = false := by rfl) :
    JS X W (.Raise (some (.Call (.Name x p) (e :: es) [] pos)) none rpos) (wRaise C fs tag wa) := by
  obtain ⟨fd, ps, F1, hb⟩ := J.ex
  refine ps_mono (ps_raise hc tk (pmk_oex J.oex J.init J.tyI F1 (hr.mono hj) hb .nil pass0 hg hm ha hdb he hpl)) fun D' σ H h => ?_
  refine bindSA (wa := wa) (f := fun xs E ds M => xs.length = fs.length ∧ E.ex (.own C ((("tag" : Str)) :: fs.reverse) (.str tag :: xs.reverse)) ds M) h fun vs xs H1 h => ?_
  rw [List.append_nil, List.append_nil] at h
  obtain ⟨hl, q⟩ := raise_end h
  refine ⟨by rw [hl]; exact hfs, fun a ha => ⟨a, vs, by rw [List.append_nil], hl, upd_same, fun d H' hd ne h1 h2 h3 => ?_⟩⟩
  have hd' : H1 d = none := by rw [upd_ne ne] at hd; exact hd
  refine ⟨rfl, d, _, h1, h2, hd', ?_⟩
  rw [gone_eq (H1 := H1) ha fun b hb1 hb2 => by rw [h3 b hb1 hb2, upd_ne hb1, upd_ne hb1]]
  exact q d hd'
/-- C(..) called, C's own __init__ keeping spEx -/
theorem run_exc {Q : XK} {pins : List (Addr × Obj)} {σ : L2.St} {H : Hp} {s : Shared} {us : List Value} {vs : List V} (J : XJ X.prog X.w X.K X.mg X.base C fI fs tag) (hr : Room 2 X.A) (I : Inv X pins σ H s) (r : Vals vs us) (hl : vs.length = fs.length) (hz : vs.length ≤ 1000)
    (q : ∀ d, H d = none → Q (.ref C) (some d) (upd H d (.xd ((("tag" : Str), V.str tag) :: (fs.zip vs).reverse)))) : wpAny (model X.prog X.w) X.A (call (.ref C) us) (MkP X pins σ Q) X.xe s := by
  obtain ⟨fd, ps, F1, hb⟩ := J.ex
  obtain ⟨nm, qn, N, bs, bm, sn, sub, ab, col, dd, k0, k1, k2, k3, k5, hC, hbm⟩ := J.oex.cls
  have lu : us.length ≤ sizeLine := by rw [← r.length, sizeLine_eq]; omega
  obtain ⟨n, hn⟩ : ∃ n, n = s.heap.objs.size := ⟨_, rfl⟩
  have free : H (n + 1) = none := I.hok.fresh (by omega)
  have sp0 : spEx C fs tag (.ref (n + 1) :: vs) (upd H (n + 1) (exo (n + 1) C none)) (fun v H2 => v = .non ∧ ∃ (d : Addr) (ff : List (Str × V)), H2 (n + 1) = some (exo (n + 1) C (some d)) ∧ H2 d = some (exd d ff) ∧ H d = none ∧ Q (.ref C) (some d) (upd (del H2 (n + 1)) d (.xd ff))) E0 :=
    ⟨n + 1, vs, rfl, hl, upd_same, fun d H2 hd ne h1 h2 h3 => by
      have hd' : H d = none := by rw [upd_ne ne] at hd; exact hd
      refine ⟨rfl, d, _, h1, h2, hd', ?_⟩
      rw [gone_eq (H1 := H) free fun b hb1 hb2 => by rw [h3 b hb1 hb2, upd_ne hb1, upd_ne hb1]]
      exact q d hd'⟩
  obtain ⟨hp, g, dr, tk, os⟩ := s
  subst hn
  have keep : ∀ b o, hp.get? b = some o → ((hp.push (PySem.W.kdv_tup us)).push (PySem.HandSPX.excO C hp.objs.size)).get? b = some o := fun b o e => Heap.get?_push_of_some _ (Heap.get?_push_of_some _ e)
  have at1 : ((hp.push (PySem.W.kdv_tup us)).push (PySem.HandSPX.excO C hp.objs.size)).get? (hp.objs.size + 1) = some (PySem.HandSPX.excO C hp.objs.size) := by heap_get
  have I2 := I.laid (t' := tk) (a := hp.objs.size + 1) (o := exo (hp.objs.size + 1) C none) keep (Nat.le_succ _) (exo_ok at1)
  have r2 : Vals (V.ref (hp.objs.size + 1) :: vs) (Value.ref (hp.objs.size + 1) :: us) := .cons rfl r
  have hb2 := hb _ (Value.ref (hp.objs.size + 1) :: us) I2.kIn (by rw [List.append_nil, ← r2.length]; exact F1.len _ _ _ _ sp0)
  rw [List.append_nil] at hb2
  refine wpAny_call (PySem.HandSPX.call_own F.excBase_ValueError (fun Y => PySem.HandSPX.refsVE_contains Y bm hbm) (I.kIn _ _ hC) (PySem.W.looks_findIn I.kIn J.init) (fun self => PySem.W.bind_fn I.kIn self J.tyI) lu
    (codeAny_mono (F1.run _ X.stack _ _ ⟨_, []⟩ _ _ _ E0 (hr.make C us []) (I2.env0.make C us []) hb2 r2 sp0) fun res s' hres => ?_))
  cases res with
  | error e => exact (show False from hres).elim
  | ok fl =>
    cases fl with
    | ret u =>
      obtain ⟨v, H2, o2, b2, un2, ok2, rv, e1, d, ff, ea, ed, hd1, q2⟩ := hres
      subst e1
      exact ⟨rv, mk_end (raises_own J.oex.exC J.oex.tyC) I (Nat.le_succ _) keep un2 ok2 o2 b2 ea ed hd1 q2⟩
    | next => exact hres.elim
    | brk => exact hres.elim
    | cont => exact hres.elim
/-- raise C() -/
theorem js_raise0 (hc : X.calm = true) (J : XJ X.prog X.w X.K X.mg X.base C fI [] tag) (hr : Room j X.A) (hj : 2 ≤ j) (tk : Takes X W) (hm : X.mg x = some (.ref C)) (hg : Gl X x := by rfl) (hdb : (x == ("__debug__" : Str)) = false := by decide) :
    JS X W (.Raise (some (.Call (.Name x p) [] [] pos)) none rpos) (wRaise C [] tag wNil) := by
  refine ps_mono (ps_raise (t := fun σ H Q => ∀ d, H d = none → Q (.ref C) (some d) (upd H d (.xd [(("tag" : Str), V.str tag)]))) hc tk fun pins s σ H Q I h => ?_) fun D' σ H h => ?_
  · refine wpAny_Call_Name_kw (ld_glob I hg hm ?_ hdb)
    exact PySem.W.callWith_K0 I.kIn J.oex.kC (run_exc J (hr.mono hj) I .nil rfl (by decide) h)
  · obtain ⟨ds, M, F, E, hs, hv, hw, l⟩ := h
    exact (raise_end (vs := []) (xs := []) (fs := []) (tag := tag) (C := C) ⟨ds, M, F, E, hs, rfl, hw, l⟩).2
end
end DL
set_option maxHeartbeats 2000000
namespace DL
open PySem PySem.Spec PyProof.Rows L2 RZ

/-! ### a def that gets the caught exception, called within the except suite -/
abbrev SpP := Addr × Obj → List V → Hp → VK → Prop
structure FnP (P : Program) (w : World) (K : PySem.W.Frag) (mg : Str → Option Value) (base : Heap) (k : Nat) (f : Addr) (fd : FuncData) (ps : List Str) (sp : SpP) : Prop where
  len : ∀ p vs H Q, sp p vs H Q → vs.length = ps.length
  run : ∀ (A : Around) (outer : List Env) (s : Shared) (H : Hp) (args : Args) (us : List Value) (vs : List V) (Q : VK) (p : Addr × Obj), L2H.RoomH k A → L2H.PinOk outer H s p → Env0 P w K mg base A outer s H → BindsTo s fd args (ps.zip us) → Vals vs us → sp p vs H Q →
    codeAny (model P w) A (.call (.ref f) args) (CR CX0 outer P w H s Q E0) s
theorem _root_.L2H.RoomH.units {k : Nat} {A : Around} (r : L2H.RoomH k A) : A.units + 64 < cLine := by have := r.un; omega
theorem takesF {X : Cx} : Takes X WF := fun u s' x => by
  obtain ⟨_, _, _, _, _, _, _, _, _, _, _, _, _, _, _, _, z⟩ := x
  exact z.elim
section
variable {P : Program} {w : World} {K : PySem.W.Frag} {mg : Str → Option Value} {base : Heap} {k : Nat} {x qual : Str} {st : Stmt} {f : Addr} {fd : FuncData} {N ps : List Str} {sp : SpP}
theorem fn_pin (Fn : Fun K x qual st f fd) (S : FnScope N ps (defScope st)) (len : ∀ p vs H Q, sp p vs H Q → vs.length = ps.length)
    (hbody : ∀ (cdv : Value) (A : Around) (outer : List Env) (s : Shared) (H : Hp) (vs : List V) (Q : VK) (p : Addr × Obj), L2H.RoomH k (A.deeper (envOfC qual (defScope st) s.heap.objs.size f cdv)) → sp p vs H Q →
      ∃ t, PSs (L2H.cxH CX0 P w K mg base N qual (defScope st) f cdv A outer s H E0 p) (defBody st) t ∧ t { nx := fun _ H' => Q .non H', rt := Q } (L2.start N vs) H) : FnP P w K mg base (k + 1) f fd ps sp := by
  obtain ⟨oc, od, kV, doc, pm, an, cdv, ct, osl, rfl, lk, hcd⟩ := Fn.ex
  refine ⟨len, fun A outer s H args us vs Q p hr hpin e0 hb r hsp => ?_⟩
  have inb : ∀ b o, base.get? b = some o → s.heap.get? b = some o := fun b o e => (e0.bs b o e).1
  have hk : ∀ y ∈ ps.zip us, (defScope st).names.lookup y.1 = some .local ∨ ((defScope st).names.lookup y.1 = some .cell ∧ ((cellsFrom (s.heap.objs.size + 1) (defScope st).names []).lookup y.1).isSome = true) := fun y hy =>
    (S.par y.1 (List.of_mem_zip (a := y.1) (b := y.2) hy).1).imp id fun q => ⟨q, PySem.W.cellsFrom_some _ _ _ (.inl q)⟩
  obtain ⟨t, ht, hq⟩ := hbody cdv A outer s H vs Q p (hr.deeper _) hsp
  refine codeAny_call_function hr.depth ((e0.mod.kin.keeps inb) _ _ lk) rfl S.co S.gen rfl (PySem.W.codeRec_of (e0.mod.kin.keeps inb) hcd) (hb _ _ _ _ (wpAny_newFunctionEnv_cells S.kind hk fun env he s1 y => ?_))
  subst he
  refine ⟨(e0.mod.nolimit.keeps inb).keeps y.toInCall.keep, codeAny_func (wpAny_mono (ht.run [] s1 _ H _ (L2H.inv_startH S hpin e0 (len _ _ _ _ hsp) r y) hq) (fun fl s' hs => ?_) fun e s' hs => hs)⟩
  cases fl with
  | ret u =>
    obtain ⟨v, σ', H', J, rv, q⟩ := hs
    exact ⟨v, H', J.os, J.bare, J.base, J.hok, rv, q⟩
  | next =>
    obtain ⟨σ', H', J, q⟩ := hs
    exact ⟨.non, H', J.os, J.bare, J.base, J.hok, rfl, q⟩
  | brk =>
    obtain ⟨_, _, _, q⟩ := hs
    exact q.elim
  | cont =>
    obtain ⟨_, _, _, q⟩ := hs
    exact q.elim
end
/-- the promise of such a def: the exception's class and fields -/
abbrev SpX := Addr → List Str → List D → Mem → KN → Prop
/-- p's object is an exception of C with its dict at dd -/
structure PinX (p : Addr × Obj) (a dd C : Addr) : Prop where
  at_ : p.1 = a
  cls : p.2.cls = .ref C
  dict : p.2.dict = some dd
  data : ∃ vs : Array Value, p.2.data = .fields vs
def spP (K : PySem.W.Frag) (sp : SpX) : SpP := fun p vs H Q => ∃ (a dd C : Addr) (ns : List Str) (xs : List D) (M F : Mem) (Qd : KN), PinX p a dd C ∧ Rm K H M F ∧ DVs K H (uni M F) [.exc a dd C ns xs] vs ∧ sp C ns xs M Qd ∧ LkG K F (rE K) H M Qd Q
structure FnXJ (P : Program) (w : World) (K : PySem.W.Frag) (mg : Str → Option Value) (base : Heap) (k : Nat) (f : Addr) (sp : SpX) : Prop where
  ex : ∃ fd ps, FnP P w K mg base k f fd ps (spP K sp) ∧ Binds K fd ps []
  kp : PySem.W.keepIn K (.ref f) = true
theorem FnXJ.mkAt {P : Program} {w : World} {K : PySem.W.Frag} {mg : Str → Option Value} {base : Heap} {k : Nat} {x qual e : Str} {st : Stmt} {f : Addr} {N : List Str} {sp : SpX} {wb : Addr → Addr → Addr → WS}
    (Fd : DefAt K x qual st [e] f) (S : FnScope N [e] (defScope st))
    (body : ∀ (cdv : Value) (A : Around) (outer : List Env) (s : Shared) (H : Hp) (p : Addr × Obj) (a dd C : Addr), L2H.RoomH k (A.deeper (envOfC qual (defScope st) s.heap.objs.size f cdv)) → PinX p a dd C → JSs (L2H.cxH CX0 P w K mg base N qual (defScope st) f cdv A outer s H E0 p) WF (defBody st) (wb a dd C))
    (h : ∀ a dd C ns xs M Q, sp C ns xs M Q → wb a dd C { nx := fun _ M => Fin Q .non M, rt := Fin Q, ex := fun _ _ _ => False } (startD N [.exc a dd C ns xs]) M) : FnXJ P w K mg base (k + 1) f sp := by
  obtain ⟨fd, Fn, hb⟩ := Fd.ex
  refine ⟨⟨fd, [e], fn_pin Fn S (fun p vs H Q q => ?_) (fun cdv A outer s H vs Q p hr q => ?_), hb⟩, Fn.kp⟩
  · obtain ⟨_, _, _, _, _, _, _, _, _, _, q, _⟩ := q
    exact q.len
  · obtain ⟨a, dd, C, ns, xs, M, Fr, Qd, px, R, dv, hs, l⟩ := q
    refine ⟨_, body cdv A outer s H p a dd C hr px, ?_⟩
    have fin : ∀ (v : V) (H' : Hp) (d : D) (M' : Mem), Ext H (uni M Fr) H' (uni M' Fr) → Rm K H' M' Fr → DV K H' (uni M' Fr) d v → Fin Qd d M' → Q v H' := fun v H' d M' e r dv ⟨d2, M2, fz, q⟩ =>
      l v H' d2 M2 (e.down (sub_none fz.sub)) (r.sub fz.sub) (fz.dv K H' Fr v r dv) q
    exact ⟨startD N [.exc a dd C ns xs], M, Fr, _, ⟨R, Sl.start dv⟩, rfl, h a dd C ns xs M Qd hs, ⟨fun σ' H' ds' M' e r q => fin .non H' .non M' e r.1 rfl q, fin, fun _ _ _ _ _ _ z => z.elim, fun _ _ _ _ _ _ z => z.elim, fun _ _ _ _ _ _ _ _ _ _ z => z.elim⟩⟩
/-- e.f of the caught exception -/
def wXf (K : PySem.W.Frag) (a dd C : Addr) (f : Str) (we : WE) : WE := fun ds M Q Xc => we ds M (fun d M1 => ∃ ns xs i v, d = .exc a dd C ns xs ∧ XfC K C ∧ PySem.W.findIn K (.ref C) f = some none ∧ ns.findIdx? (· == f) = some i ∧ xs[i]? = some v ∧ Q v M1) Xc
/-- f(e), e the caught exception -/
def wCallX (a dd C : Addr) (sp : SpX) (we : WE) : WE := fun ds M Q Xc => we ds M (fun d M1 => ∃ ns xs, d = .exc a dd C ns xs ∧ sp C ns xs M1 Q) Xc
section
variable {X : Cx} {W : WX} {e : Expr} {we : WE} {f x : Str} {pos q : Pos} {p : Addr × Obj} {a dd C : Addr} {j k : Nat} {g : Addr} {sp : SpX}
theorem j_xf (hp : p ∈ X.pn) (px : PinX p a dd C) (he : JE X W e we) (hb : attributeBase e f X.env (eval e X.env) = eval e X.env := by rfl) : JE X W (.Attribute e f pos) (wXf X.K a dd C f we) := by
  refine ⟨fun pins s σ H Q I h => ?_⟩
  have hh : liftE X.K W we σ H (fun x H1 => x = V.ref a ∧ XfC X.K C ∧ PySem.W.findIn X.K (.ref C) f = some none ∧ ∃ (fs : List (Str × V)) (v : V), H1 dd = some (.xd fs) ∧ fs.lookup f = some v ∧ Q v H1) :=
    bindE (wa := we) (f := fun d _ M Q _ => ∃ ns xs i v, d = .exc a dd C ns xs ∧ XfC X.K C ∧ PySem.W.findIn X.K (.ref C) f = some none ∧ ns.findIdx? (· == f) = some i ∧ xs[i]? = some v ∧ Q v M) h fun v d H1 h => by
      obtain ⟨_, M, F, Qd, Xd, hs, hv, ⟨ns, xs, i, y, e1, h1, h2, h3, h4, h5⟩, l1, _⟩ := h
      subst e1
      obtain ⟨_, _, e2, dv, _⟩ := hv
      cases e2
      obtain ⟨e3, fs, g1, g2, g3, g4⟩ := dv
      obtain ⟨u, k1, k2⟩ := g4.get h4
      exact ⟨e3, h1, h2, fs, u, g1, by rw [look_at g3 h3]; exact k1, l1 u H1 y M Ext.rfl' hs.1 k2 h5⟩
  refine attr_of hb (thn (he.run pins s σ H _ I hh) fun u s1 hq => ?_)
  obtain ⟨x, H1, I1, rx, ex, T, hno, fs, v, ea, l, q⟩ := hq
  subst ex
  obtain rfl : u = Value.ref a := rx
  obtain ⟨ha, _⟩ := I1.pin p (List.mem_append_left _ hp)
  obtain ⟨vs, hd⟩ := px.data
  obtain ⟨mA, hns, hr⟩ : ObjOk X.prog X.w H1 s1.heap dd (.xd fs) := I1.hok dd _ ea
  obtain ⟨od, ho, hl⟩ := lookIn_ns hns
  obtain ⟨u, hu, ru⟩ := RelO.some_of (v := v) (o := mA f) (by rw [← l]; exact hr f)
  have J : PySem.W.InstAt s1.heap a p.2 C (some od) := ⟨by rw [← px.at_]; exact ha, px.cls, by unfold PySem.W.notCls; rw [hd] <;> rfl, by rw [px.dict]; exact ho⟩
  exact HandSPX.exc_get I1.kIn J T.ga T.gg T.exC (PySem.W.findObj_own T.hdC hno rfl (by rw [hl, hu])) (handed_of ru) ⟨v, H1, I1.tok _, ru, q⟩
theorem j_callX (hp : p ∈ X.pn) (px : PinX p a dd C) (F : FnXJ X.prog X.w X.K X.mg X.base k g sp) (hr : L2H.RoomH j X.A) (hkj : k ≤ j) (hm : X.mg x = some (.ref g)) (he : JE X W e we) (hg : Gl X x := by rfl)
    (hdb : (x == ("__debug__" : Str)) = false := by decide) (hst : starEach [e] X.env = (false, eval e X.env) :: starEach [] X.env := by rfl) (hpl : (backTo pos (starEach [] X.env)).any (·.1) = false := by rfl) :
    JE X W (.Call (.Name x q) [e] [] pos) (wCallX a dd C sp we) := by
  obtain ⟨fd, ps, Fp, hb⟩ := F.ex
  have ha : JA X W [e] (wCons we wNil) := j_cons he j_nil hst
  refine ⟨fun pins s σ H Q I h => wpAny_Call_Name_kw (ld_glob I hg hm ?_ hdb)⟩
  have hh : liftA X.K W (wCons we wNil) σ H (fun vs H1 => spP X.K sp p vs H1 Q) := by
    obtain ⟨ds, M, F, Qd, Xd, hs, hv, hw, l1, l2⟩ := h
    refine ⟨ds, M, F, fun xs M1 => ∃ ns ys, xs = [.exc a dd C ns ys] ∧ sp C ns ys M1 Qd, Xd, hs, hv, ?_, fun vs H1 xs M1 e1 r1 dv ⟨ns, ys, e2, q⟩ => ?_, l2⟩
    · have key : (fun (d : D) M1 => ∃ ns xs, d = .exc a dd C ns xs ∧ sp C ns xs M1 Qd) = fun d M1 => ∃ ns ys, [d] = [.exc a dd C ns ys] ∧ sp C ns ys M1 Qd := by
        funext d M1
        simp
      show we ds M (fun d M1 => ∃ ns ys, [d] = [.exc a dd C ns ys] ∧ sp C ns ys M1 Qd) Xd
      rw [← key]
      exact hw
    · subst e2
      exact ⟨a, dd, C, ns, ys, M1, F, Qd, px, r1, dv, q, l1.ext e1⟩
  refine PySem.W.callWith_K (h₀ := X.base) I.ok.mod.kin F.kp (thn (ha.run pos pins s σ H _ I hh) fun us s1 ⟨vs, H1, I1, r, q⟩ => ⟨I1.kIn, ?_⟩) hst hpl
  have hl : us.length = ps.length := by rw [← r.length]; exact Fp.len _ _ _ _ q
  have b := hb s1 us I1.kIn (by rw [List.append_nil]; exact hl)
  rw [List.append_nil] at b
  have P1 := I1.pin p (List.mem_append_left _ hp)
  have hpin : L2H.PinOk X.stack H1 s1 p := ⟨P1.1, P1.2.1, fun hm => (List.mem_cons.mp (I1.stkSub p.1 hm)).elim P1.2.2.1 P1.2.2.2.1, P1.2.2.2.2⟩
  refine wpAny_call (codeAny_mono (Fp.run X.A X.stack s1 H1 ⟨us, []⟩ us vs Q p ⟨by have := hr.dp; omega, by have := hr.un; omega⟩ hpin I1.env0 b r q) fun r s' hq => ?_)
  cases r with
  | error e => exact (show False from hq).elim
  | ok fl =>
    cases fl with
    | ret u => exact I1.after hq
    | next => exact hq.elim
    | brk => exact hq.elim
    | cont => exact hq.elim
end
end DL
set_option maxHeartbeats 2000000
namespace DL
open PySem PySem.Spec PyProof.Rows L2 RZ

/-! ### try: .. except (A, B, C) as n: .., each exception caught -/
def w3 (K : PySem.W.Frag) (cs : List Value) (i : Nat) (ts : Addr → Value → Option Addr → TS) (D : Ends) : WX := fun cls d σ H =>
  PySem.W.exmAny K cls cs = some true ∧ ∀ a, H a = none → ts a cls d { nx := fun σ' H' => D.nx (σ'.set i none) H', rt := D.rt, bk := fun σ' H' => D.bk (σ'.set i none) H', ct := fun σ' H' => D.ct (σ'.set i none) H' } (σ.set i (some (.ref a))) H
theorem flying_more {B h h' : Heap} {l : List Env} {a : Addr} {Z : Obj → Prop} (f : HandSPX.FlyingZ B l a Z h) (k : ∀ b o, h.get? b = some o → h'.get? b = some o) : HandSPX.FlyingZ B l a Z h' := by
  obtain ⟨f1, f2, f3, oe, vs, T, oT, ts, e1, e2, e3, e4, e5, e6, e7, e8, e9⟩ := f
  exact ⟨fun b o q => k b o (f1 b o q), f2, f3.of_keeps fun b o q _ => ⟨o, k b o q, rfl⟩, oe, vs, T, oT, ts, k _ _ e1, e2, e3, e4, e5, e6, k _ _ e7, e8, e9⟩
section
variable {X : Cx} {x1 x2 x3 n : Str} {c1 c2 c3 : Value} {i kk : Nat} {body suite : List Stmt} {b₀ : Stmt} {p1 p2 p3 tpos pos pos' : Pos} {tb : WX → TS} {ts : Addr → Value → Option Addr → TS}
/-- a name that is read in any context of the same frame -/
theorem ld_name {Y : Cx} {pins : List (Addr × Obj)} {σ : L2.St} {H : Hp} {s : Shared} {x : Str} {c : Value} {p : Pos} {Q : Value → Shared → Prop} {E : Value → Shared → Prop} (I : Inv Y pins σ H s) (hc : Names Y x c) (q : Q c s) : wpAny (model Y.prog Y.w) Y.A (eval (.Name x p) Y.env) Q E s := by
  obtain ⟨g, d, h | ⟨h, hv, hn⟩⟩ := hc
  · exact ld_glob I g h q d
  · exact ld_blt I g h hv q hn d
theorem ps_try3 (hs : X.stack = X.env :: X.outer) (hf : X.env.frame = some X.env.locals) (hN : X.N.Nodup) (hi : X.N[i]? = some n) (hln : X.env.kindOf n = some .local) (h1 : Names X x1 c1) (h2 : Names X x2 c2) (h3 : Names X x3 c3)
    (hb : ∀ (W : WX) (pn : List (Addr × Obj)) (xe : Value → Shared → Prop), Takes (X.tr pn xe) W → PassesOwn (model X.prog X.w) X.A X.env xe → PSs (X.tr pn xe) body (tb W))
    (hsu : ∀ (a : Addr) (oe : Obj) (cls : Value) (d : Option Addr) (pn : List (Addr × Obj)), Zc cls d oe → (∃ vs, oe.data = .fields vs) → PSs (X.suite a ((a, oe) :: pn)) (b₀ :: suite) (ts a cls d)) :
    PS X (.Try body [.ExceptHandler (some (.Tuple [.Name x1 p1, .Name x2 p2, .Name x3 p3] kk tpos)) (some n) (b₀ :: suite) pos'] [] [] pos) (fun D σ H => tb (w3 X.K [c1, c2, c3] i ts D) D σ H) := by
  refine ⟨fun pins s σ H D I h => wpAny_Try_except ?_⟩
  have ok := I.ok
  have hfr : X.A.frames = some (X.env :: X.outer) := by rw [ok.frames, hs]
  refine wpAny_mono ((hb _ (X.pn ++ pins) _ ?_ PassesOwn.looking).run [] s σ H D (I.toTry _) h) (fun f s1 hsp => ?_) (fun e s1 he => he)
  · rintro u s' ⟨a, B, sI, pins', σ', H', cls, d, rfl, J', nb, up, sky, na, os, ag, hx, hgo⟩
    have J : Inv X pins σ' H' sI := J'.ofTry ok
    refine Sky.land Zc.steady hfr hf (by rw [← hs]; exact sky) fun ha fl up3 => ?_
    have Ja : Inv X pins σ' H' { s' with heap := ha } := J.landed nb fl.1 (up.trans up3) os ag
    obtain ⟨oe, vs, he, hz, hd⟩ := fl.there
    -- the exception is no frame of ours
    have out : ∀ {h : Heap} {o : Obj} {ws : Array Value}, h.FunFrames B (X.env :: X.outer) → h.get? a = some o → o.data = .fields ws → a ≠ X.env.locals ∧ a ∉ X.fs := fun {h o ws} ff e dd => by
      have nf : a ∉ frs (X.env :: X.outer) := fun hm => by
        obtain ⟨_, o2, e2, q⟩ := ff.mem hm
        rw [e] at e2
        cases e2
        exact q _ dd
      refine ⟨fun z => nf (List.mem_filterMap.mpr ⟨X.env, List.mem_cons_self, by rw [hf, z]⟩), fun hm => nf ?_⟩
      obtain ⟨e3, h3, q⟩ := List.mem_filterMap.mp hm
      exact List.mem_filterMap.mpr ⟨e3, List.mem_cons_of_mem _ h3, q⟩
    obtain ⟨nL, nF⟩ := out fl.2.2.1 he hd
    have S := Ja.suite he hd na nL nF
    refine wpAny_handleBy_cons (codeAny_handlers_test ?_) (by intro q; cases q)
    have kp : ∀ b o, ha.get? b = some o → (ha.push { cls := .type "tuple", data := .seq [c1, c2, c3].toArray }).get? b = some o := fun _ _ z => Heap.get?_push_of_some _ z
    have LT : PySem.W.Looks (model X.prog X.w) (ha.push { cls := .type "tuple", data := .seq [c1, c2, c3].toArray }) (typeOf (.ref a)) cls := fun A Q E s k q => wpAny_typeOf_ref (k _ _ (kp _ _ he)) (by rw [hz.1]; exact q)
    refine wpAny_Tuple ?_
    refine wpAny_items_cons (ld_name (Y := X.suite a ((a, oe) :: (X.pn ++ pins))) S h1 ?_)
    refine wpAny_items_cons (ld_name (Y := X.suite a ((a, oe) :: (X.pn ++ pins))) S h2 ?_)
    refine wpAny_items_cons (ld_name (Y := X.suite a ((a, oe) :: (X.pn ++ pins))) S h3 ?_)
    refine wpAny_items_nil ⟨by size_fits, ?_⟩
    refine (PySem.W.exm_tup3 (Ja.kIn.keeps kp) LT (Heap.get?_push_size ha rfl) hx).here ?_
    refine codeAny_handlers_suite_as ?_
    refine HandSPX.lands_againZ (flying_more fl kp) fun hq fl4 up4 => ?_
    have J4 : Inv X pins σ' H' { s' with heap := hq } := J.landed nb fl4.1 (((up.trans up3).trans (Heap.UpToSlots.of_keeps kp)).trans up4) os ag
    obtain ⟨oe4, vs4, he4, hz4, hd4⟩ := fl4.there
    have S4 := J4.suite he4 hd4 na nL nF
    refine store_ok (X := X.suite a ((a, oe4) :: (X.pn ++ pins))) (v := .ref a) S4 hN hi (.inl hln) rfl (fun s5 S5 => ?_) (.inr hln)
    refine wpAny_mono ((hsu a oe4 cls d (X.pn ++ pins) hz4 ⟨_, hd4⟩).run [] s5 _ H' _ S5 (hgo a na)) (fun f s6 hsp => ?_) (fun _ _ z => False.elim z)
    cases f with
    | next =>
      obtain ⟨σ6, H6, S6, q6⟩ := hsp
      exact gone_ok (S6.unsuite ok) hN hi hln fun s7 J7 => ⟨_, _, J7, q6⟩
    | brk =>
      obtain ⟨σ6, H6, S6, q6⟩ := hsp
      exact gone_ok (S6.unsuite ok) hN hi hln fun s7 J7 => ⟨_, _, J7, q6⟩
    | cont =>
      obtain ⟨σ6, H6, S6, q6⟩ := hsp
      exact gone_ok (S6.unsuite ok) hN hi hln fun s7 J7 => ⟨_, _, J7, q6⟩
    | ret u =>
      obtain ⟨v6, σ6, H6, S6, r6, q6⟩ := hsp
      exact gone_ok (S6.unsuite ok) hN hi hln fun s7 J7 => ⟨_, _, _, J7, r6, q6⟩
  · cases f with
    | next =>
      obtain ⟨σ', H', J', q⟩ := hsp
      exact wpAny_execs_nil ⟨σ', H', J'.ofTry ok, q⟩
    | brk =>
      obtain ⟨σ', H', J', q⟩ := hsp
      exact ⟨σ', H', J'.ofTry ok, q⟩
    | cont =>
      obtain ⟨σ', H', J', q⟩ := hsp
      exact ⟨σ', H', J'.ofTry ok, q⟩
    | ret u =>
      obtain ⟨v, σ', H', J', r, q⟩ := hsp
      exact ⟨v, σ', H', J'.ofTry ok, r, q⟩
end
end DL
set_option maxHeartbeats 2000000
namespace DL
open PySem PySem.Spec PyProof.Rows L2 RZ

/-! ### a lambda without parameters is made: all but the maker's table stays -/
abbrev lamQ (X : Cx) : Str := X.env.qual ++ "<lambda>"
section
variable {X : Cx} {pins : List (Addr × Obj)} {σ : L2.St} {H : Hp} {s : Shared}
theorem lam_mk {c P : Addr} {params : Arguments} {body : Expr} {scope : Scope} {pos : Pos} {E : Value → Shared → Prop} {Q : Value → Shared → Prop} (I : Inv X pins σ H s) (B : LamX.TabB X.base X.mg c P) (hcode : X.env.code = .ref c) (T : LamX.TabS H P (lamQ X))
    (hdef : defaultsOf params X.env = ([], [])) (hfree : ∀ y ∈ scope.names, y.2 = .free → ∃ c, X.env.cells.lookup y.1 = some c)
    (h : ∀ (f c' : Addr) (pm ctv : Value) (H1 : Hp) (s' : Shared), Inv X pins σ H1 s' → (∀ b o, b ≠ P → H b = some o → H1 b = some o) → LamX.TabS H1 P (lamQ X) →
      s'.heap.get? f = some (PySem.W.kla_obj "<lambda>" (lamQ X) params body scope (cloFrom X.env.cells scope.names []) pm c' ctv) → H1 f = none → f ∉ frs X.stack → H1 c' = some (LamX.CodeO c' (lamQ X)) → Q (.ref f) s') :
    wpAny (model X.prog X.w) X.A (eval (.Lambda params body scope pos) X.env) Q E s := by
  obtain ⟨ps, hP, ht, ha⟩ := T
  have atP : s.heap.get? P = some ({ cls := .none, data := .fields ps } : Obj) := I.hok P _ hP
  have code := B.code.keeps I.bk
  have bm := B.bm.keeps I.bk
  have clo := closure_ok (env := X.env) hfree
  have far : ∀ {f : Addr}, s.heap.objs.size ≤ f → f ∉ frs X.stack := fun {f} hf z => (List.mem_cons.mp (I.stkSub f z)).elim (fun e => Nat.lt_irrefl _ (Nat.lt_of_lt_of_le I.lt (e ▸ hf))) (I.nofs hf)
  refine PySem.W.kla_eval hdef ?_
  rcases hc : codeAmong pos ps.toList with _ | cv
  · -- a new code object
    refine PySem.W.kla_makeFunction (mg := X.mg) (c := c) (P := P) (ps := ps) clo I.ok.glob (I.mod.glob.keeps I.bk) hcode code atP ht hc B.gP bm fun c' ctv h1 tk ext hge hlt ⟨c2, oc, vs, t, e2, hoc, hd, hv⟩ tab => ?_
    cases e2
    have nC : H c' = none := I.hok.fresh hge
    have le : s.heap.objs.size ≤ h1.objs.size := Nat.le_trans hge (Nat.le_of_lt hlt)
    have new := LamX.inv_table (t' := tk) (q := lamQ X) (more := #[rawInt pos.line, rawInt pos.col, .ref c']) (h' := h1.push (PySem.W.kla_obj "<lambda>" (lamQ X) params body scope (cloFrom X.env.cells scope.names []) ((X.mg "__name__").getD .none) c' ctv)) I hP
      (fun b o hb e => Heap.get?_push_of_some _ (ext b o hb e)) (Heap.get?_push_of_some _ tab) hge ⟨oc, vs, t, Heap.get?_push_of_some _ hoc, hd, hv⟩
    have stay : ∀ b o, b ≠ P → H b = some o → upd (upd H P (.tbl (ps ++ #[rawInt pos.line, rawInt pos.col, .ref c']))) c' (LamX.CodeO c' (lamQ X)) b = some o := fun b o hb e => by
      rw [upd_ne (ne_of_none e nC), upd_ne hb]
      exact e
    refine h h1.objs.size c' _ ctv _ _ new stay ⟨_, (upd_ne (ne_of_none hP nC)).trans upd_same, ?_, fun p' cv hcv => ?_⟩ (Heap.get?_push_size _ rfl) ?_ (far le) upd_same
    · rw [Array.toList_append]
      exact PySem.TriplesOk_snoc _ _ _ _ ht
    · rw [Array.toList_append] at hcv
      rcases LamX.among_app _ ht hcv with z | z
      · obtain ⟨c0, e1, e3⟩ := ha p' cv z
        have ne : c0 ≠ P := fun q => by
          rw [q, hP] at e3
          exact LamX.codeO_ne ps (Option.some.inj e3).symm
        exact ⟨c0, e1, stay _ _ ne e3⟩
      · exact ⟨c', z, upd_same⟩
    · have n1 : h1.objs.size ≠ c' := Nat.ne_of_gt hlt
      have n2 : h1.objs.size ≠ P := Nat.ne_of_gt (Nat.lt_of_lt_of_le (Heap.lt_size atP) le)
      rw [upd_ne n1, upd_ne n2]
      exact I.hok.fresh le
  · -- the code object stands in the table
    obtain ⟨c', e, hco⟩ := ha pos cv hc
    subst e
    refine PySem.W.kla_makeFunctionHit (mg := X.mg) (c := c) (P := P) (ps := ps) clo I.ok.glob (I.mod.glob.keeps I.bk) hcode code atP ht hc bm fun ctv h1 tk ext le => ?_
    exact h h1.objs.size c' _ ctv H _ (I.kept (t' := tk) fun b o e => Heap.get?_push_of_some _ (ext b o e)) (fun _ _ _ e => e) ⟨ps, hP, ht, ha⟩ (Heap.get?_push_size _ rfl) (I.hok.fresh le) (far le) hco
end
/-- x(lambda: body) -/
def tLam1 (P : Addr) (q : Str) (TT : (XK → Hp → VK → Prop) → Hp → VK → Prop) (t : XK → TE) : TE := fun σ H Q => LamX.TabS H P q ∧ ∀ H1, (∀ b o, b ≠ P → H b = some o → H1 b = some o) → LamX.TabS H1 P q → TT (fun E H' Q' => t E σ H' Q') H1 Q
section
variable {X : Cx}
theorem pe_lam1 {TT : (XK → Hp → VK → Prop) → Hp → VK → Prop} {x a : Str} {g c P : Addr} {k : Nat} {st : Stmt} {fd : FuncData} {Ng : List Str}
    {params : Arguments} {body : Expr} {scope : Scope} {t : XK → TE} {p lpos pos : Pos} (hg : Gl X x) (hm : X.mg x = some (.ref g)) (Fn : Fun X.K x x st g fd) (hb : L2.Binds X.K fd [a] []) (Sg : FnScope Ng [a] (defScope st)) (hNg : Ng[0]? = some a) (hva : Vis (defScope st) a)
    (hG : ∀ cdv, LamX.GivesTo X Ng x (defScope st) g cdv (defBody st) a (lamQ X) TT)
    (B : LamX.TabB X.base X.mg c P) (hcode : X.env.code = .ref c) (hr : Room (k + 2) X.A) (L : LamX.LamS X.env.scope scope) (hdef : defaultsOf params X.env = ([], []))
    (hbind : ∀ (q : Str) (cl : List (Str × Addr)) (pm cv ctv : Value), bindArgs (PySem.W.kla_fn "<lambda>" q params body scope cl pm cv ctv) ⟨[], []⟩ = pure [])
    (hbody : ∀ (A : Around) (outer : List Env) (s : Shared) (H : Hp) (E : XK) (f c' : Addr), Room k (A.deeper (LamX.lamEnv X scope s.heap.objs.size f c')) → PE (LamX.lamCx X A outer s H E scope f c') body (t E))
    (hdb : (x == ("__debug__" : Str)) = false := by decide) (hd : (a == ("__debug__" : Str)) = false := by decide) (hcd : (a == ("__classdict__" : Str)) = false := by decide) :
    PE X (.Call (.Name x p) [.Lambda params body scope lpos] [] pos) (tLam1 P (lamQ X) TT t) := by
  obtain ⟨oc, od, kV, doc, pm, an, cdv, ct, osl, rfl, lk, hcg⟩ := Fn.ex
  refine ⟨fun pins s σ H Q I ⟨hT, h⟩ => wpAny_Call_Name_kw (ld_glob I hg hm ?_ hdb)⟩
  refine PySem.W.callWith_K (h₀ := X.base) I.ok.mod.kin Fn.kp ?_ (by rfl) (by rfl)
  show wpAny _ _ (spliced ((false, eval (.Lambda params body scope lpos) X.env) :: backTo pos (starEach [] X.env))) _ _ s
  refine Calls.spliced_cons (lam_mk I B hcode hT hdef (L.has I.ok) fun f c' pm' ctv H1 s' I1 eN T1 hf hfn hfr hco => Calls.spliced_nil ⟨I1.kIn, ?_⟩)
  refine wpAny_call (codeAny_mono (LamX.run_ofS (CX := C8.CX0) (E := C8.E0) (Q := Q) (N := Ng) (ps := [a]) (us := [.ref f]) (vs := [.ref f]) lk hcg Sg hr I1.env0 (hb s' [.ref f] I1.kIn rfl) (.cons rfl .nil) rfl fun hr' => ?_) fun r s2 hq => ?_)
  · obtain ⟨t', ht', hq'⟩ := hG cdv f c' s' H1 Q (fun E H' Q' => t E σ H' Q') (fun W pn xe E p1 p2 tk hW => LamX.pe_act (i := 0) I1 L hf hfn hfr (hbind _ _ _ _ _) tk hW hr' (fun A outer s H hr2 => hbody A outer s H E f c' hr2) hNg hva hd hcd) hco (h H1 eN T1)
    exact ⟨t', ht'.nox, hq'⟩
  · cases r with
    | error e => exact (show False from hq).elim
    | ok fl =>
      cases fl with
      | ret u => exact I1.after hq
      | next => exact False.elim hq
      | brk => exact False.elim hq
      | cont => exact False.elim hq
end
end DL
set_option maxHeartbeats 2000000
namespace DL
open PySem PySem.Spec PyProof.Rows L2 RZ

/-! ### _law_try(lambda: ..): ('value', ..), or the exception's tag and its fields -/
abbrev XRow := Addr × Str × List Str
def excR (XT : List XRow) (x : Exn) (M : Mem) (Q : KN) : Prop := ∃ (C : Addr) (tag : Str) (fs : List Str) (xs : List D), (C, tag, fs) ∈ XT ∧ x = .own C ((("tag" : Str)) :: fs.reverse) (.str tag :: xs.reverse) ∧ xs.length = fs.length ∧ Q (.tup [.str tag, .tup xs]) M
def spFd (XT : List XRow) : SpX := fun C ns ds M Q => ∃ (tag : Str) (fs : List Str) (xs : List D), (C, tag, fs) ∈ XT ∧ ns = (("tag" : Str)) :: fs.reverse ∧ ds = .str tag :: xs.reverse ∧ xs.length = fs.length ∧ Q (.tup xs) M
def wTry (P : Addr) (q : Str) (XT : List XRow) (wb : WE) : WE := fun ds M Q _ => M P = some (.tab q) ∧ wb ds M (fun d M1 => Q (.tup [.str "value", d]) M1) (fun x M1 => excR XT x M1 Q)
structure XCls (K : PySem.W.Frag) (cs : List Value) (C : Addr) : Prop where
  exm : PySem.W.exmAny K (.ref C) cs = some true
  xf : XfC K C
  tag : PySem.W.findIn K (.ref C) "tag" = some none
def wSuit (K : PySem.W.Frag) (a dd C : Addr) (spf : SpX) : WS := wRet (wTup (wCons (wXf K a dd C "tag" (wVar 1)) (wCons (wCallX a dd C spf (wVar 1)) wNil)))
def TTry (K : PySem.W.Frag) (cs : List Value) (spf : SpX) : (XK → Hp → VK → Prop) → Hp → VK → Prop := fun tl H Q =>
  tl (fun cls d H' => PySem.W.exmAny K cls cs = some true ∧ ∀ a, H' a = none → ∃ dd C, cls = .ref C ∧ d = some dd ∧ ∀ (σ : L2.St) (D : Ends), σ.length = 2 → D.rt = Q → liftS K WF [] [] (wSuit K a dd C spf) D (σ.set 1 (some (.ref a))) H') H
    fun v H' => [V.str "value", v].length ≤ sizeLine ∧ ∀ t, H' t = none → Q (.ref t) (upd H' t (.tup [.str "value", v]))
section
variable {X : Cx} {x a n fld x1 x2 x3 q : Str} {sg : Scope} {g gF : Addr} {cdg : Value} {c1 c2 c3 : Value} {kF j : Nat} {spf : SpX}
theorem try_gives {j1 k1 k2 k3 : Nat} {p1 p2 p3 p4 p5 q1 q2 q3 q4 r1 r2 r3 r4 r5 r6 r7 r8 r9 : Pos} (hr : ∀ L, Room j (X.A.deeper (envOfC x sg L g cdg))) (hkj : kF ≤ j) (F : FnXJ X.prog X.w X.K X.mg X.base kF gF spf) (hmF : X.mg fld = some (.ref gF))
    (nd : [a, n].Nodup) (ha : sg.names.lookup a = some .local) (hn : sg.names.lookup n = some .local) (g1 : sg.names.lookup x1 = some .globalImplicit) (g2 : sg.names.lookup x2 = some .globalImplicit) (g3 : sg.names.lookup x3 = some .globalImplicit) (gf : sg.names.lookup fld = some .globalImplicit)
    (m1 : X.mg x1 = some c1) (m2 : X.mg x2 = some c2) (m3 : X.mg x3 = some c3) (d1 : (x1 == ("__debug__" : Str)) = false) (d2 : (x2 == ("__debug__" : Str)) = false) (d3 : (x3 == ("__debug__" : Str)) = false) (df : (fld == ("__debug__" : Str)) = false) (dn : (n == ("__debug__" : Str)) = false) (dn2 : (n == ("__classdict__" : Str)) = false)
    (hb : ∀ L : Addr, attributeBase (.Name n r1) "tag" (envOfC x sg L g cdg) (eval (.Name n r1) (envOfC x sg L g cdg)) = eval (.Name n r1) (envOfC x sg L g cdg)) :
    LamX.GivesTo X [a, n] x sg g cdg [.Try [.Return (some (.Tuple [.Constant (.str "value") j1 p1, .Call (.Name a p2) [] [] p3] k1 p4)) p5] [.ExceptHandler (some (.Tuple [.Name x1 q1, .Name x2 q2, .Name x3 q3] k2 q4)) (some n)
      [.Return (some (.Tuple [.Attribute (.Name n r1) "tag" r2, .Call (.Name fld r3) [.Name n r4] [] r5] k3 r6)) r7] r8] [] [] r9] a q (TTry X.K [c1, c2, c3] spf) := by
  intro f c' s H Q tl act hc h
  refine ⟨_, pss_one (ps_try3 (X := (cxOf C8.CX0 X.prog X.w X.K X.mg X.base [a, n] x sg g cdg X.A X.stack s H C8.E0).nox) (i := 1) (c1 := c1) (c2 := c2) (c3 := c3)
      (tb := fun W D σ H => ∃ Ech : XK, (∀ cls d σ' H', Ech cls d H' → W cls d σ' H') ∧ σ[0]? = some (some (.ref f)) ∧ H c' = some (LamX.CodeO c' q) ∧ tl Ech H fun v H' => [V.str "value", v].length ≤ sizeLine ∧ ∀ t, H' t = none → D.rt (.ref t) (upd H' t (.tup [.str "value", v])))
      (ts := fun e cls d => fun D σ H => σ.length = 2 → ∃ dd C, cls = .ref C ∧ d = some dd ∧ liftS X.K WF [] [] (wSuit X.K e dd C spf) D σ H)
      rfl rfl nd rfl hn ⟨g1, d1, .inl m1⟩ ⟨g2, d2, .inl m2⟩ ⟨g3, d3, .inl m3⟩ (fun W pn xe tk _ => ?_) fun e oe cls d pn hz hd => ?_), ?_⟩
  · refine ⟨fun pins s' σ H' D I h' => ?_⟩
    obtain ⟨Ech, hW, h1, h2, h3⟩ := h'
    have hp := act W pn xe Ech p2 p3 tk hW
    refine (pss_one (ps_ret (pos := p5) (pe_tup (x1 := k1) (pos := p4) (pa_cons (pe_str (x := "value") (j := j1) (pos := p1)) (pa_cons hp pa_nil))))).run pins s' σ H' D I ⟨h1, h2, h3⟩
  · refine ⟨fun pins s' σ H' D I h' => ?_⟩
    obtain ⟨dd, C, rfl, rfl, hh⟩ := h' I.len
    have px : PinX (e, oe) e dd C := ⟨rfl, hz.1, hz.2, hd⟩
    have rh : L2H.RoomH j ((cxOf C8.CX0 X.prog X.w X.K X.mg X.base [a, n] x sg g cdg X.A X.stack s H C8.E0).nox.suite e ((e, oe) :: pn)).A := ⟨(hr s.heap.objs.size).dp, (hr s.heap.objs.size).un⟩
    have v1 : JE ((cxOf C8.CX0 X.prog X.w X.K X.mg X.base [a, n] x sg g cdg X.A X.stack s H C8.E0).nox.suite e ((e, oe) :: pn)) WF (.Name n r1) (wVar 1) := jv 1 rfl (.inl hn) dn dn2
    have v2 : JE ((cxOf C8.CX0 X.prog X.w X.K X.mg X.base [a, n] x sg g cdg X.A X.stack s H C8.E0).nox.suite e ((e, oe) :: pn)) WF (.Name n r4) (wVar 1) := jv 1 rfl (.inl hn) dn dn2
    exact (js_one (js_ret (pos := r7) (j_tup (k := k3) (pos := r6) (j_cons (j_xf (p := (e, oe)) (pos := r2) List.mem_cons_self px v1 (hb _)) (j_cons (j_callX (p := (e, oe)) (q := r3) (pos := r5) List.mem_cons_self px F rh hkj hmF v2 gf df) j_nil))))).run pins s' σ H' D I hh
  · refine ⟨_, fun cls d σ' H' hE => ⟨hE.1, fun e he hl => ?_⟩, rfl, hc, h⟩
    obtain ⟨dd, C, e1, e2, hh⟩ := hE.2 e he
    exact ⟨dd, C, e1, e2, hh σ' _ (by rw [List.length_set] at hl; exact hl) rfl⟩
end
/-- the parts of the law's own def _law_try -/
theorem tab_c {K : PySem.W.Frag} {H H1 : Hp} {M : Mem} {P : Addr} {q : Str} (R : RelM K H M) (hP : M P = some (.tab q)) (eN : ∀ b o, b ≠ P → H b = some o → H1 b = some o) (T : LamX.TabS H1 P q) : TabM H1 M P q := by
  obtain ⟨ps, g1, g2, g3⟩ := T
  refine ⟨ps, g1, g2, fun pos cv hc => ?_⟩
  obtain ⟨c, e1, e2⟩ := g3 pos cv hc
  refine ⟨c, e1, e2, ?_⟩
  have ne : c ≠ P := fun z => by
    rw [z, g1] at e2
    exact LamX.codeO_ne ps (Option.some.inj e2).symm
  cases e : M c with
  | none => rfl
  | some o =>
    exfalso
    have r := R c o e
    have no : ∀ u, H c = some u → (∀ p, u ≠ .ext p) → False := fun u hu n => by
      have z := eN c u ne hu
      rw [e2] at z
      exact n _ (Option.some.inj z).symm
    cases o with
    | lst ds => obtain ⟨xs, z, _⟩ := r; exact no _ z fun p q => by cases q
    | dct ks ds => obtain ⟨xs, z, _⟩ := r; exact no _ z fun p q => by cases q
    | ins C ns ds => obtain ⟨_, _, z, _⟩ := r; exact no _ z fun p q => by cases q
    | tab q' => obtain ⟨ps', z, _⟩ := r; exact no _ z fun p q => by cases q
theorem try_lift {K : PySem.W.Frag} {W : WX} {P : Addr} {q : Str} {cs : List Value} {XT : List XRow} {wb : WE} (hX : ∀ r ∈ XT, XCls K cs r.1) {σ : L2.St} {H : Hp} {Q : VK} (h : liftE K W (wTry P q XT wb) σ H Q) :
    tLam1 P q (TTry K cs (spFd XT)) (fun E => liftE K (WD E) wb) σ H Q := by
  obtain ⟨ds, M, F, Qd, Xd, hs, _, ⟨hP, hw⟩, l1, l2⟩ := h
  have big := sizeLine_big
  have hu := hs.1.at hP
  obtain ⟨ps, h1, h2, h3⟩ : TabM H (uni M F) P q := hs.1.rel P _ hu
  refine ⟨⟨ps, h1, h2, fun pos cv hc => let ⟨c, e1, e2, _⟩ := h3 pos cv hc; ⟨c, e1, e2⟩⟩, fun H1 eN T1 => ?_⟩
  have ex : Ext H (uni M F) H1 (uni M F) := fun a o ha hm hn => ⟨⟨o, eN a o (fun z => by subst z; rw [hu] at hm; cases hm) ha, rfl⟩, hm⟩
  have R1 : Rm K H1 M F := by
    refine ⟨fun a o ha => ?_, hs.1.dj⟩
    by_cases hz : a = P
    · subst hz
      rw [hu] at ha
      cases ha
      exact tab_c hs.1.rel hu eN T1
    · exact MOk.ext hs.1.rel ex (hs.1.rel a o ha) fun u e => eN a u hz e
  refine ⟨ds, M, F, fun d M1 => Qd (.tup [.str "value", d]) M1, fun x M1 => excR XT x M1 Qd, hs.ext ex R1, rfl, hw, fun v H' d M' e r dv q => ⟨?_, fun t ht => ?_⟩, fun cls dc H' x M' e r xv q => ?_⟩
  · show 2 ≤ sizeLine
    omega
  · have e2 := new_ext r.rel (o := HO.tup [.str "value", v]) ht
    exact l1 (.ref t) _ (.tup [.str "value", d]) M' ((ex.trans e).trans e2) (r.new ht) ⟨t, _, rfl, SqT.of upd_same, _, _, rfl, rfl, _, _, rfl, DV.ext r.rel e2 d v dv, rfl⟩ q
  · obtain ⟨C, tag, fs, xs, hin, rfl, hl, hQ⟩ := q
    obtain ⟨rfl, dd, ff, rfl, hdd, hM, hfst, hdv⟩ := xv
    have xc := hX _ hin
    refine ⟨xc.exm, fun a ha => ⟨dd, C, rfl, rfl, fun σ' D hlen hrt => ?_⟩⟩
    refine ⟨[none, some (.exc a dd C ((("tag" : Str)) :: fs.reverse) (.str tag :: xs.reverse))], M', F, { nx := fun _ _ => False, rt := Qd, ex := fun _ _ _ => False }, ⟨r, by rw [List.length_set, hlen]; rfl, fun i d hd => ?_⟩, rfl, ?_,
      ⟨fun _ _ _ _ _ _ z => z.elim, by rw [hrt]; exact l1.ext (ex.trans e), fun _ _ _ _ _ _ z => z.elim, fun _ _ _ _ _ _ z => z.elim, fun _ _ _ _ _ _ _ _ _ _ z => z.elim⟩⟩
    · match i, hd with
      | 1, hd =>
        cases hd
        exact ⟨.ref a, by rw [List.getElem?_set_self (by omega)], rfl, ff, hdd, hM, hfst, hdv⟩
    · refine ⟨((("tag" : Str)) :: fs.reverse), (.str tag :: xs.reverse), 0, .str tag, rfl, xc.xf, xc.tag, by rw [List.findIdx?_cons, if_pos (by decide)], rfl, _, _, rfl, tag, fs, xs, hin, rfl, rfl, hl, ?_, hQ⟩
      show 2 ≤ sizeLine
      omega
end DL
set_option maxHeartbeats 2000000
namespace DL
open PySem PySem.Spec PyProof.Rows L2 RZ

section
variable {X : Cx} {W : WX} {x a : Str} {g c P : Addr} {st : Stmt} {N : List Str} {cs : List Value} {XT : List XRow} {wb : WE} {params : Arguments} {body : Expr} {scope : Scope} {lpos pos p : Pos} {j k : Nat}
/-- the context of a lambda's body within the law's own try -/
theorem takes_lam {A : Around} {outer : List Env} {s : Shared} {H : Hp} {E : XK} {f c' : Addr} : Takes (LamX.lamCx X A outer s H E scope f c') (WD E) := takes_of (X := LamX.lamCx X A outer s H E scope f c') rfl rfl rfl rfl
theorem j_try (Fd : DefAt X.K x x st [a] g) (Sg : FnScope N [a] (defScope st)) (hNg : N[0]? = some a) (hva : Vis (defScope st) a) (hG : ∀ cdv, LamX.GivesTo X N x (defScope st) g cdv (defBody st) a (lamQ X) (TTry X.K cs (spFd XT))) (hX : ∀ r ∈ XT, XCls X.K cs r.1)
    (B : LamX.TabB X.base X.mg c P) (hcode : X.env.code = .ref c) (hr : Room j X.A) (hj : k + 2 ≤ j) (L : LamX.LamS X.env.scope scope) (hm : X.mg x = some (.ref g))
    (hbody : ∀ (A : Around) (outer : List Env) (s : Shared) (H : Hp) (E : XK) (f c' : Addr), Room k (A.deeper (LamX.lamEnv X scope s.heap.objs.size f c')) → Takes (LamX.lamCx X A outer s H E scope f c') (WD E) → JE (LamX.lamCx X A outer s H E scope f c') (WD E) body wb)
    (hbind : ∀ (q : Str) (cl : List (Str × Addr)) (pm cv ctv : Value), bindArgs (PySem.W.kla_fn "<lambda>" q params body scope cl pm cv ctv) ⟨[], []⟩ = pure [])
    (hg : Gl X x := by rfl) (hdef : defaultsOf params X.env = ([], []) := by rfl)
    (hdb : (x == ("__debug__" : Str)) = false := by decide) (hd : (a == ("__debug__" : Str)) = false := by decide) (hcd : (a == ("__classdict__" : Str)) = false := by decide) :
    JE X W (.Call (.Name x p) [.Lambda params body scope lpos] [] pos) (wTry P (lamQ X) XT wb) := by
  obtain ⟨fd, Fn, hb⟩ := Fd.ex
  exact pe_mono (pe_lam1 (t := fun E => liftE X.K (WD E) wb) hg hm Fn hb Sg hNg hva hG B hcode (hr.mono hj) L hdef hbind (fun A outer s H E f c' hr2 => hbody A outer s H E f c' hr2 takes_lam) hdb hd hcd) fun σ H Q h => try_lift hX h
end
end DL
set_option maxHeartbeats 2000000
namespace DL
open PySem PySem.Spec PyProof.Rows L2 RZ

/-! ### f'..{e}..' -/
def fmtK : D → (Str → Prop) → Prop
  | .str y, k => y.length ≤ sizeLine ∧ k y
  | .int i, k => i.natAbs.log2 < 1920 ∧ k (toString i)
  | _, _ => False
def strKD : D → (Str → Prop) → Prop
  | .str y, k => k y
  | _, _ => False
def wFmt (we : WE) : WE := fun ds M Q Xc => we ds M (fun d M1 => fmtK d fun s => Q (.str s) M1) Xc
def wJs : List WE → Str → WE
  | [], acc => fun _ M Q _ => Q (.str acc) M
  | w :: ws, acc => fun ds M Q Xc => w ds M (fun d M1 => strKD d fun y => (acc ++ y).length ≤ sizeLine ∧ wJs ws (acc ++ y) ds M1 Q Xc) Xc
section
variable {X : Cx} {W : WX} {e v1 v2 : Expr} {es rest : List Expr} {we : WE} {ws : List WE} {pos : Pos}
abbrev JJ (X : Cx) (W : WX) (es : List Expr) (ws : List WE) : Prop := PJ X es (ws.map (liftE X.K W))
theorem jj_nil : JJ X W [] [] := .nil
theorem jj_cons (h : JE X W e we) (r : JJ X W es ws) : JJ X W (e :: es) (we :: ws) := .cons h r
theorem j_fmt (h : JE X W e we) : JE X W (.FormattedValue e (-1) none pos) (wFmt we) := pe_mono (pe_fmt h) fun σ H Q h => bindE (wa := we) (f := fun d _ M Q _ => fmtK d fun s => Q (D.str s) M) h fun v d H1 h => by
  obtain ⟨ds, M, F, Qd, Xd, hs, hv, hw, l1, _⟩ := h
  obtain ⟨_, _, e1, g, _⟩ := hv
  cases e1
  cases d <;> first | exact hw.elim | skip
  · cases (show v = .int _ from g)
    exact .inr ⟨_, rfl, hw.1, l1 _ H1 (D.str _) M Ext.rfl' hs.1 rfl hw.2⟩
  · cases (show v = .str _ from g)
    exact .inl ⟨_, rfl, hw.1, l1 _ H1 (D.str _) M Ext.rfl' hs.1 rfl hw.2⟩
theorem js_run {K : PySem.W.Frag} : ∀ (ws : List WE) (acc : Str) {σ : L2.St} {H : Hp} {Q : VK}, liftE K W (wJs ws acc) σ H Q → tJs (ws.map (liftE K W)) acc σ H fun out H1 => Q (.str out) H1
  | [], acc, σ, H, Q, h => by
    obtain ⟨ds, M, F, Qd, Xd, hs, _, hw, l1, _⟩ := h
    exact l1 (.str acc) H (.str acc) M Ext.rfl' hs.1 rfl hw
  | w :: ws, acc, σ, H, Q, h => bindE (wa := w) (f := fun d ds M Q Xc => strKD d fun y => (acc ++ y).length ≤ sizeLine ∧ wJs ws (acc ++ y) ds M Q Xc) h fun v d H1 h => by
    obtain ⟨ds, M, F, Qd, Xd, hs, hv, hw, l1, l2⟩ := h
    obtain ⟨_, _, e1, g, _⟩ := hv
    cases e1
    cases d <;> first | exact hw.elim | skip
    cases (show v = .str _ from g)
    exact ⟨_, rfl, hw.1, js_run ws _ ⟨ds, M, F, Qd, Xd, hs, rfl, hw.2, l1, l2⟩⟩
theorem j_js (h : JJ X W (v1 :: v2 :: rest) ws) : JE X W (.JoinedStr (v1 :: v2 :: rest) pos) (wJs ws Str.empty) := pe_mono (pe_joined h) fun σ H Q h => js_run ws _ h
end
theorem pFmt {we : WE} {ds : SD} {M : Mem} {Q : KN} {X : KX} : (wFmt we ds M Q X) = (we ds M (fun d M1 => fmtK d fun s => Q (.str s) M1) X) := propext Iff.rfl
theorem pFmtS {y : Str} {k : Str → Prop} : (fmtK (.str y) k) = (y.length ≤ sizeLine ∧ k y) := propext Iff.rfl
theorem pFmtI {i : Int} {k : Str → Prop} : (fmtK (.int i) k) = (i.natAbs.log2 < 1920 ∧ k (toString i)) := propext Iff.rfl
theorem pJs0 {acc : Str} {ds : SD} {M : Mem} {Q : KN} {X : KX} : (wJs [] acc ds M Q X) = (Q (.str acc) M) := propext Iff.rfl
theorem pJs1 {w : WE} {ws : List WE} {acc : Str} {ds : SD} {M : Mem} {Q : KN} {X : KX} : (wJs (w :: ws) acc ds M Q X) = (w ds M (fun d M1 => strKD d fun y => (acc ++ y).length ≤ sizeLine ∧ wJs ws (acc ++ y) ds M1 Q X) X) := propext Iff.rfl
theorem pStrKD {y : Str} {k : Str → Prop} : (strKD (.str y) k) = k y := propext Iff.rfl
end DL
set_option maxHeartbeats 2000000
namespace DL
open PySem PySem.Spec PyProof.Rows L2 RZ

/-! ### text * number; is not of bools; a, b, c = x, y, z with plain local names -/
def repS (x : Str) (k : Nat) : Str := ⟨(List.replicate k x.cps).foldl (· ++ ·) #[]⟩
def rMulSD : RD2 := fun d e M Q => match d, e with
  | .str x, .int k => 2 ≤ k ∧ k ≤ 1000 ∧ 1 ≤ x.length ∧ x.length ≤ 1000 ∧ Q (.str (repS x k.toNat)) M
  | _, _ => False
theorem rMulS_p {x : Str} {k : Int} {M : Mem} {Q : KN} : (rMulSD (.str x) (.int k) M Q) = (2 ≤ k ∧ k ≤ 1000 ∧ 1 ≤ x.length ∧ x.length ≤ 1000 ∧ Q (.str (repS x k.toNat)) M) := propext Iff.rfl
theorem repS_cps (x : Str) (k : Nat) : (repS x k).cps.toList = (List.replicate k x.cps.toList).flatten := by
  unfold repS
  have key : ∀ (n : Nat) (acc : Array Nat), ((List.replicate n x.cps).foldl (· ++ ·) acc).toList = acc.toList ++ (List.replicate n x.cps.toList).flatten := by
    intro n
    induction n with
    | zero => intro acc; simp
    | succ n ih =>
      intro acc
      rw [List.replicate_succ, List.foldl_cons, ih, Array.toList_append, List.replicate_succ, List.flatten_cons, List.append_assoc]
  have h := key k #[]
  simpa using h
theorem repS_len (x : Str) (k : Nat) : (repS x k).length = k * x.length := by
  have h := congrArg List.length (repS_cps x k)
  rw [Array.length_toList, List.length_flatten, List.map_replicate, List.sum_replicate_nat, Array.length_toList] at h
  exact h
section
variable {X : Cx}
theorem od_mulS : OpR X (binaryOp .Mult) (liftV2 X.K rMulSD) := by
  intro pins s σ H x y v u Q I rx ry hh
  obtain ⟨d, e, M, F, Qd, R, h1, h2, h3, l⟩ := hh
  unfold rMulSD at h3
  split at h3
  · rename_i z k
    cases (show x = .str z from h1)
    cases (show y = .int k from h2)
    obtain ⟨k1, k2, k3, k4, q⟩ := h3
    obtain ⟨t, rfl⟩ := rx
    obtain ⟨t', rfl⟩ := ry
    have big := sizeLine_eq
    have n1 : ¬ k < 1 := by omega
    have n2 : (k == 1 || z.length == 0) = false := by
      rw [beq_eq_false_iff_ne.mpr (show k ≠ 1 by omega), beq_eq_false_iff_ne.mpr (show z.length ≠ 0 by omega)]
      rfl
    have hm : z.length * k.toNat ≤ 1000 * 1000 := Nat.mul_le_mul k4 (by omega)
    refine P.mul_str ?_ (fun _ _ => ?_) (fun _ _ => ?_) ?_
    · rw [decide_eq_false (by omega), decide_eq_false (by omega)]
      rfl
    · have : (2 ^ 63 - 1 : Int) / 1000 ≤ (2 ^ 63 - 1) / k := Int.le_ediv_of_mul_le (by omega) (by
        have a1 : (2 ^ 63 - 1 : Int) / 1000 * k ≤ (2 ^ 63 - 1) / 1000 * 1000 := Int.mul_le_mul_of_nonneg_left k2 (by decide)
        have a2 : (2 ^ 63 - 1 : Int) / 1000 * 1000 ≤ 2 ^ 63 - 1 := by decide
        omega)
      have a3 : (1000 : Int) < (2 ^ 63 - 1) / 1000 := by decide
      omega
    · unfold Builtin.Str.tooLong
      exact decide_eq_false (by omega)
    · rw [if_neg n1, n2, if_neg Bool.false_ne_true]
      refine ⟨?_, .str (repS z k.toNat), H, I.tok _, ⟨_, rfl⟩, l _ H (.str (repS z k.toNat)) M Ext.rfl' R rfl q⟩
      have := repS_len z k.toNat
      have e : k.toNat * z.length = z.length * k.toNat := Nat.mul_comm _ _
      show (repS z k.toNat).length ≤ _
      omega
  · exact h3.elim
theorem od_notB : OpR X (compareOp .IsNot) (liftV2 X.K (rIsBD true)) := by
  intro pins s σ H x y v u Q I rx ry hh
  obtain ⟨d, e, M, F, Qd, R, h1, h2, h3, l⟩ := hh
  unfold rIsBD at h3
  split at h3
  · rename_i a b
    cases (show x = .bl a from h1)
    cases (show y = .bl b from h2)
    exact op_notBl pins s σ H _ _ v u Q I rx ry ⟨a, b, rfl, rfl, l (.bl _) H (.bl _) M Ext.rfl' R rfl (by rw [Bool.true_xor] at h3; exact h3)⟩
  · exact h3.elim
end
def parK3 (i j k : Nat) (E : ED) (ds : SD) : List D → Mem → Prop := fun es M1 => match es with
  | [d, e, f] => E.nx (((ds.set i (some d)).set j (some e)).set k (some f)) M1
  | _ => False
def wPar3 (i j k : Nat) (wa : WA) : WS := fun E ds M => wa ds M (parK3 i j k E ds) (E.xc ds)
theorem pPar3 {i j k : Nat} {wa : WA} {E : ED} {ds : SD} {M : Mem} : (wPar3 i j k wa E ds M) = (wa ds M (parK3 i j k E ds) (E.xc ds)) := propext Iff.rfl
theorem pParK3 {i j k : Nat} {E : ED} {ds : SD} {d e f : D} {M : Mem} : (parK3 i j k E ds [d, e, f] M) = (E.nx (((ds.set i (some d)).set j (some e)).set k (some f)) M) := propext Iff.rfl
section
variable {X : Cx} {W : WX}
theorem js_par3 {i j k : Nat} {x y z : Str} {a b c : Expr} {wa : WA} {px py pz pt pos : Pos} {kt k2 pt2} (hc : X.calm = true) (hN : X.N.Nodup) (ha : JA X W [a, b, c] wa) (hij : i ≠ j := by decide) (hik : i ≠ k := by decide) (hjk : j ≠ k := by decide) (hi : X.N[i]? = some x := by rfl) (hj : X.N[j]? = some y := by rfl) (hk : X.N[k]? = some z := by rfl)
    (hx : X.env.scope.names.lookup x = some .local := by rfl) (hy : X.env.scope.names.lookup y = some .local := by rfl) (hz : X.env.scope.names.lookup z = some .local := by rfl)
    (hw : swappedStores [.Tuple [.Name x px, .Name y py, .Name z pz] kt pt] (.Tuple [a, b, c] k2 pt2) X.env = pure (some [x, y, z]) := by rfl)
    (hs : swapsWithSole [.Tuple [.Name x px, .Name y py, .Name z pz] kt pt] (.Tuple [a, b, c] k2 pt2) pos.line X.env = pure false := by rfl) :
    JS X W (.Assign [.Tuple [.Name x px, .Name y py, .Name z pz] kt pt] (.Tuple [a, b, c] k2 pt2) pos) (wPar3 i j k wa) :=
  ps_mono (ps_par3 hc hN hi hj hk hij hik hjk hx hy hz ha hw hs) fun D' σ H h => by
    obtain ⟨ds, M, F, E, hs, hv, hw, l⟩ := h
    refine ⟨ds, M, F, _, E.xc ds, hs, rfl, hw, fun vs H' es M' e r dv q => ?_, fun cls dc H' x M' e r dv q => l.ex cls dc σ H' x ds M' e (hs.ext e r) dv q⟩
    unfold parK3 at q
    split at q
    · obtain ⟨v1, r1, e1, g1, v2, r2, e2, g2, v3, r3, e3, g3, e4⟩ := dv
      subst e1 e2 e3 e4
      exact ⟨_, _, _, rfl, l.nx _ H' _ M' e ⟨r, Sl.set (Sl.set (Sl.set (hs.ext e r).2 g1) g2) g3⟩ q⟩
    · exact q.elim
end
end DL
set_option maxHeartbeats 2000000
/-! the end by one run of the top: what is looked at behind it, as Bools of the written part -/
namespace DL
open PySem PySem.Spec PyProof.Rows L2 RZ He

/-! ### constants -/
mutual
def dvB (K : PySem.W.Frag) : D → Value → Bool
  | .non, .none => true
  | .bl b, .bool c => b == c
  | .int i, .int j _ => decide (j = i)
  | .str x, .str y _ => decide (y = x)
  | .tup ds, .ref a => (match K.lookup a with
    | some ⟨.type c, _, .seq its _, _⟩ => decide (c = "tuple") && (decide (its.size ≤ sizeLine) && dvBs K ds its.toList)
    | _ => false)
  | _, _ => false
def dvBs (K : PySem.W.Frag) : List D → List Value → Bool
  | [], [] => true
  | d :: ds, u :: us => dvB K d u && dvBs K ds us
  | _, _ => false
end
mutual
theorem dvB_ok {K : PySem.W.Frag} : ∀ (d : D) (u : Value), dvB K d u = true → ∃ v, RelV v u ∧ ∀ H M, DV K H M d v
  | .non, u, h => by
    cases u <;> first | (simp [dvB] at h; done) | exact ⟨.non, rfl, fun _ _ => rfl⟩
  | .bl b, u, h => by
    cases u <;> first | (simp [dvB] at h; done) | skip
    rename_i c
    have e : b = c := by simpa [dvB] using h
    subst e
    exact ⟨.bl b, rfl, fun _ _ => rfl⟩
  | .int i, u, h => by
    cases u <;> first | (simp [dvB] at h; done) | skip
    rename_i j t
    have e : j = i := by simpa [dvB] using h
    subst e
    exact ⟨.int j, ⟨t, rfl⟩, fun _ _ => rfl⟩
  | .str x, u, h => by
    cases u <;> first | (simp [dvB] at h; done) | skip
    rename_i y t
    have e : y = x := by simpa [dvB] using h
    subst e
    exact ⟨.str y, ⟨t, rfl⟩, fun _ _ => rfl⟩
  | .tup ds, u, h => by
    cases u <;> first | (simp [dvB] at h; done) | skip
    rename_i a
    unfold dvB at h
    cases q : K.lookup a with
    | none => rw [q] at h; cases h
    | some o =>
      obtain ⟨oc, od, dt, osl⟩ := o
      rw [q] at h
      cases oc <;> first | (cases dt <;> cases h; done) | skip
      cases dt <;> first | (cases h; done) | skip
      rename_i c its n
      obtain ⟨h1, h⟩ := ba (show (decide (c = "tuple") && (decide (its.size ≤ sizeLine) && dvBs K ds its.toList)) = true from h)
      obtain ⟨h2, h3⟩ := ba h
      obtain ⟨vs, r, dv⟩ := dvBs_ok ds its.toList h3
      exact ⟨.ref a, rfl, fun H M => ⟨a, vs, rfl, .inr ⟨_, its, n, q, congrArg Value.type (of_decide_eq_true h1), rfl, of_decide_eq_true h2, r⟩, dv H M⟩⟩
  | .ty _, u, h => by simp [dvB] at h
  | .ref _, u, h => by simp [dvB] at h
  | .lst _, u, h => by simp [dvB] at h
  | .dct _ _, u, h => by simp [dvB] at h
  | .ins _ _ _, u, h => by simp [dvB] at h
  | .scr _, u, h => by simp [dvB] at h
  | .tpn _, u, h => by simp [dvB] at h
  | .exc _ _ _ _ _, u, h => by simp [dvB] at h
theorem dvBs_ok {K : PySem.W.Frag} : ∀ (ds : List D) (us : List Value), dvBs K ds us = true → ∃ vs, Vals vs us ∧ ∀ H M, DVs K H M ds vs
  | [], us, h => by
    cases us with
    | nil => exact ⟨[], .nil, fun _ _ => rfl⟩
    | cons u us => simp [dvBs] at h
  | d :: ds, us, h => by
    cases us with
    | nil => simp [dvBs] at h
    | cons u us =>
      unfold dvBs at h
      obtain ⟨h1, h2⟩ := ba h
      obtain ⟨v, r1, d1⟩ := dvB_ok d u h1
      obtain ⟨vs, r2, d2⟩ := dvBs_ok ds us h2
      exact ⟨v :: vs, .cons r1 r2, fun H M => ⟨v, vs, rfl, d1 H M, d2 H M⟩⟩
end

/-! ### facts -/
def bNone (K : PySem.W.Frag) (x : Str) : Bool := eqO (PySem.W.nsIn K mainGlobals x) (some none)
def bGlo (K : PySem.W.Frag) (x : Str) : Bool := eqO (PySem.W.nsIn K mainGlobals x) (some (some (.ref (ga K x))))
def bCon (K : PySem.W.Frag) (x : Str) (d : D) : Bool := match PySem.W.nsIn K mainGlobals x with
  | some (some u) => dvB K d u
  | _ => false
def bCls (K : PySem.W.Frag) (C : Addr) : Bool := PySem.W.plainGet K C Str.empty && (PySem.W.hasDictIn K C && (PySem.W.plainOver K C && eqO (PySem.W.findIn K (.ref C) "__setattr__") (some (some (.builtin "object.__setattr__")))))
def bNo (K : PySem.W.Frag) (C : Addr) (f : Str) : Bool := eqO (PySem.W.findIn K (.ref C) f) (some none)
def bMk (K : PySem.W.Frag) (C f : Addr) : Bool := PySem.W.makesIn K C && (eqO (PySem.W.findIn K (.ref C) "__init__") (some (some (.ref f))) && (PySem.W.isFn K (.ref f) && PySem.W.keepIn K (.ref C)))
def bMeth (K : PySem.W.Frag) (C : Addr) (m : Str) (f : Addr) : Bool := eqO (PySem.W.findIn K (.ref C) m) (some (some (.ref f))) && (PySem.W.isFn K (.ref f) && PySem.W.keepIn K (.ref f))
/-- a property's getter -/
def prG (K : PySem.W.Frag) (q : Addr) : Addr := match PySem.W.recIn K q "property" with
  | some (.ref f :: _) => f
  | _ => 0
def bProp (K : PySem.W.Frag) (C : Addr) (p : Str) (q g : Addr) : Bool := eqO (PySem.W.findIn K (.ref C) p) (some (some (.ref q))) && (eqO (PySem.W.specialIn K (.ref q) "__get__") (some (some (.builtin "property.__get__"))) && (decide (PySem.W.takesIn K (.ref q) = some true) && (match PySem.W.recIn K q "property" with
  | some (.ref f :: _) => decide (f = g)
  | _ => false)))
def bCv (K : PySem.W.Frag) (C : Addr) (f : Str) (d : D) : Bool := PySem.W.readsIn K C (.type "type") && (eqO (PySem.W.specialIn K (.ref C) "__getattribute__") (some (some (.builtin "type.__getattribute__"))) && (match PySem.W.findCls K (.ref C) (.type "type") f with
  | some (.val u) => dvB K d u
  | _ => false))
section
variable {K : PySem.W.Frag} {h : Heap} {mg : Str → Option Value}
theorem bNone_ok (X : K.In h) (G : h.Ns mainGlobals mg) {x : Str} (c : bNone K x = true) : mg x = none := PySem.W.mg_none_of X G (eqO_ok c)
theorem bGlo_ok (X : K.In h) (G : h.Ns mainGlobals mg) {x : Str} (c : bGlo K x = true) : mg x = some (.ref (ga K x)) := PySem.W.mg_of X G (eqO_ok c)
theorem bCon_ok (X : K.In h) (G : h.Ns mainGlobals mg) {x : Str} {d : D} (c : bCon K x d = true) : GK K mg x d := by
  unfold bCon at c
  split at c
  · rename_i u e
    obtain ⟨v, r, dv⟩ := dvB_ok d u c
    exact ⟨u, v, PySem.W.mg_of X G e, r, dv⟩
  · cases c
theorem bCls_ok {C : Addr} (c : bCls K C = true) : Cls K C := by
  obtain ⟨c1, c⟩ := ba c
  obtain ⟨c2, c⟩ := ba c
  obtain ⟨c3, c4⟩ := ba c
  exact ⟨c1, c2, c3, eqO_ok c4⟩
theorem bNo_ok {C : Addr} {f : Str} (c : bNo K C f = true) : NoAttr K C f := eqO_ok c
theorem bMk_ok {C f : Addr} (c : bMk K C f = true) : Mk K C f := by
  obtain ⟨c1, c⟩ := ba c
  obtain ⟨c2, c⟩ := ba c
  obtain ⟨c3, c4⟩ := ba c
  exact ⟨c1, eqO_ok c2, c3, c4⟩
theorem bMeth_ok {C f : Addr} {m : Str} (c : bMeth K C m f = true) : Meth K C m f := by
  obtain ⟨c1, c⟩ := ba c
  obtain ⟨c2, c3⟩ := ba c
  exact ⟨eqO_ok c1, c2, c3⟩
theorem bProp_ok {C q g : Addr} {p : Str} (c : bProp K C p q g = true) : PropOf K C p q g := by
  obtain ⟨c1, c⟩ := ba c
  obtain ⟨c2, c⟩ := ba c
  obtain ⟨c3, c4⟩ := ba c
  refine ⟨eqO_ok c1, eqO_ok c2, of_decide_eq_true c3, ?_⟩
  split at c4
  · rename_i f r e
    rw [← of_decide_eq_true c4]
    exact ⟨r, e⟩
  · cases c4
theorem bCv_ok {C : Addr} {f : Str} {d : D} (c : bCv K C f d = true) : CVk K C f d := by
  obtain ⟨c1, c⟩ := ba c
  obtain ⟨c2, c3⟩ := ba c
  split at c3
  · rename_i u e
    obtain ⟨v, r, dv⟩ := dvB_ok d u c3
    exact ⟨.type "type", v, u, ⟨c1, eqO_ok c2⟩, ⟨e, r⟩, dv⟩
  · cases c3
end

/-! ### defs -/
structure DfR where
  at_ : PySem.W.Frag → Addr
  name : Str
  qual : Str
  st : Stmt
  cl : List Str := []
abbrev FnZ : Type := Option (Str × Str × Arguments × FuncBody × Scope × Addr × List Str × Value × Addr)
def fnZ (K : PySem.W.Frag) (a : Addr) : FnZ := match K.lookup a with
  | some ⟨_, _, .func fd, _⟩ => some (fd.name, fd.qualname, fd.params, fd.body, fd.scope, fd.globals, fd.closure.map (·.1), fd.defaults, fd.builtins)
  | _ => none
def DfR.val (d : DfR) : FnZ := some (d.name, d.qual, defArgs d.st, .stmts (defBody d.st), defScope d.st, mainGlobals, d.cl, .none, builtinsNs)
def DfR.ok (K : PySem.W.Frag) (d : DfR) : Bool := PySem.W.keepIn K (.ref (d.at_ K)) && (match K.lookup (d.at_ K) with
  | some ⟨_, _, .func fd, _⟩ => PySem.W.codeIn K fd.code d.qual
  | _ => false)
theorem DfR.ex {K : PySem.W.Frag} {d : DfR} (e : fnZ K (d.at_ K) = d.val) (c : d.ok K = true) : PySem.W.keepIn K (.ref (d.at_ K)) = true ∧ ∃ (oc : Value) (od : Option Addr) (osl : Array (Option Value)) (kV doc pm : Value) (an : Option Addr) (cdv ct : Value) (cl : List (Str × Addr)),
    K.lookup (d.at_ K) = some ⟨oc, od, .func (PySem.W.fnX d.name d.qual (defArgs d.st) (defBody d.st) (defScope d.st) cl .none kV doc pm an cdv ct), osl⟩ ∧ cl.map (·.1) = d.cl ∧ PySem.W.codeIn K cdv d.qual = true := by
  obtain ⟨kp, c2⟩ := ba c
  refine ⟨kp, ?_⟩
  unfold fnZ at e
  cases q : K.lookup (d.at_ K) with
  | none =>
    rw [q] at c2
    cases c2
  | some o =>
    obtain ⟨oc, od, dt, osl⟩ := o
    rw [q] at c2 e
    cases dt with
    | func fd =>
      obtain ⟨n1, n2, n3, n4, n5, n6, n7, n8, n9, n10, n11, n12, n13, n14, n15⟩ := fd
      have e2 : (some (n1, n2, n3, n4, n5, n6, n7.map (·.1), n8, n15) : FnZ) = some (d.name, d.qual, defArgs d.st, .stmts (defBody d.st), defScope d.st, mainGlobals, d.cl, .none, builtinsNs) := e
      simp only [Option.some.injEq, Prod.mk.injEq] at e2
      obtain ⟨h1, h2, h3, h4, h5, h6, h7, h8, h9⟩ := e2
      subst h1 h2 h3 h4 h5 h6 h8 h9
      exact ⟨oc, od, osl, n9, n10, n11, n12, n13, n14, n7, rfl, h7, c2⟩
    | _ => cases c2
theorem DfR.defAt {K : PySem.W.Frag} {d : DfR} {ps : List Str} (e : fnZ K (d.at_ K) = d.val) (c : d.ok K = true) (hc : d.cl = [] := by rfl)
    (hb : ∀ (oc : Value) (od : Option Addr) (kV doc pm cdv ct : Value) (an : Option Addr) (us : List Value), us.length = ps.length → bindArgs (PySem.W.fnOf d.name d.qual (defArgs d.st) (defBody d.st) (defScope d.st) .none kV doc pm an cdv ct) ⟨us, []⟩ = pure (ps.zip us)) : DefAt K d.name d.qual d.st ps (d.at_ K) := by
  obtain ⟨kp, oc, od, osl, kV, doc, pm, an, cdv, ct, cl, lk, hcl, hcd⟩ := DfR.ex e c
  rw [hc] at hcl
  have e0 : cl = [] := List.map_eq_nil_iff.mp hcl
  subst e0
  have F : Fun K d.name d.qual d.st (d.at_ K) _ := fun_mk (st := d.st) lk hcd kp
  exact ⟨_, F, .all fun us hl => hb oc od kV doc pm cdv ct an us hl⟩

/-! ### own exception classes -/
def exMro (C : Addr) : List Value → Bool
  | .ref C' :: bm => decide (C' = C) && PySem.HandSPX.refsVE bm
  | _ => false
theorem exMro_ok {C : Addr} : ∀ {l : List Value}, exMro C l = true → ∃ bm, l = .ref C :: bm ∧ PySem.HandSPX.refsVE bm = true
  | .ref C' :: bm, h => by
    obtain ⟨h1, h2⟩ := ba (show (decide (C' = C) && PySem.HandSPX.refsVE bm) = true from h)
    exact ⟨bm, by rw [of_decide_eq_true h1], h2⟩
def exSl : List (Option Value) → Bool
  | [_, _, _, _, some (.builtin n), _] => decide (n = "ValueError.__new__")
  | _ => false
theorem exSl_ok {l : List (Option Value)} (h : exSl l = true) : ∃ k0 k1 k2 k3 k5, l = [k0, k1, k2, k3, some (.builtin "ValueError.__new__"), k5] := by
  unfold exSl at h
  split at h
  · rw [← of_decide_eq_true h]
    exact ⟨_, _, _, _, _, rfl⟩
  · cases h
def exB (K : PySem.W.Frag) (C : Addr) : Bool := match K.lookup C with
  | some ⟨.type t, _, .cls cd, sl⟩ => decide (t = "type") && (exMro C cd.mro && (cd.hasDict && (!cd.hasDel && exSl sl.toList)))
  | _ => false
theorem exB_ok {K : PySem.W.Frag} {C : Addr} (h : exB K C = true) : ∃ nm q N bs bm sn sub ab col dd k0 k1 k2 k3 k5, K.lookup C = some (excClassObj nm q C N bs bm true sn sub ab col dd k0 k1 k2 k3 k5 "ValueError.__new__") ∧ PySem.HandSPX.refsVE bm = true := by
  unfold exB at h
  cases q : K.lookup C with
  | none => rw [q] at h; cases h
  | some o =>
    obtain ⟨oc, od, dt, osl⟩ := o
    rw [q] at h
    cases oc <;> first | (cases dt <;> cases h; done) | skip
    cases dt <;> first | (cases h; done) | skip
    rename_i t cd
    obtain ⟨h1, h⟩ := ba h
    obtain ⟨h2, h⟩ := ba h
    obtain ⟨h3, h⟩ := ba h
    obtain ⟨h4, h5⟩ := ba h
    obtain ⟨nm, bs, mro, N, qn, hdct, sn, sub, ab, col, hdl⟩ := cd
    have e1 : t = "type" := of_decide_eq_true h1
    have e3 : hdct = true := h3
    have e4 : hdl = false := by
      cases z : hdl with
      | false => rfl
      | true => rw [z] at h4; cases h4
    obtain ⟨bm, e6, h7⟩ := exMro_ok (show exMro C mro = true from h2)
    obtain ⟨k0, k1, k2, k3, k5, e7⟩ := exSl_ok h5
    have e8 : osl = #[k0, k1, k2, k3, some (.builtin "ValueError.__new__"), k5] := Array.toList_inj.mp e7
    subst e1 e3 e4 e6 e8
    exact ⟨nm, qn, N, bs, bm, sn, sub, ab, col, od, k0, k1, k2, k3, k5, rfl, h7⟩
def bOex (K : PySem.W.Frag) (C : Addr) : Bool := exB K C && (eqO (PySem.W.findIn K (.ref C) "__setattr__") (some (some (.builtin "object.__setattr__"))) && (decide (PySem.W.subIn K (.ref C) (.type "BaseException") = some true) && (decide (PySem.W.typeIn K (.ref C) = some (.type "type")) && PySem.W.keepIn K (.ref C))))
theorem bOex_ok {K : PySem.W.Frag} {C : Addr} (h : bOex K C = true) : OexC K C := by
  obtain ⟨h1, h⟩ := ba h
  obtain ⟨h2, h⟩ := ba h
  obtain ⟨h3, h⟩ := ba h
  obtain ⟨h4, h5⟩ := ba h
  exact ⟨exB_ok h1, eqO_ok h2, of_decide_eq_true h3, of_decide_eq_true h4, h5⟩
/-- the file that the def's code object names; its closure's cell holds C -/
def bFnX (K : PySem.W.Frag) (f C : Addr) (file : Str) : Bool := match K.lookup f with
  | some ⟨_, _, .func fd, _⟩ => (match fd.code with
    | .ref c => (match K.lookup c with
      | some ⟨_, _, .fields vs, _⟩ => (match (vs.toList[2]? : Option Value) with
        | some (.str x _) => decide (x = file)
        | _ => false)
      | _ => false)
    | _ => false) && (match fd.closure with
    | [(_, cc)] => (match K.lookup cc with
      | some ⟨_, _, .cell (some (.ref C')), _⟩ => decide (C' = C)
      | _ => false)
    | _ => false)
  | _ => false
def bExC (K : PySem.W.Frag) (C fI : Addr) (file : Str) : Bool := bOex K C && (eqO (PySem.W.findIn K (.ref C) "__init__") (some (some (.ref fI))) && (decide (PySem.W.typeIn K (.ref fI) = some (.type "function")) && (eqO (PySem.W.ks_superIn K C C "__init__") (some (some (.builtin "ValueError.__init__"))) &&
  (decide (PySem.W.subIn K (.ref C) (.type "ValueError") = some true) && (decide (PySem.W.mroIn K C (.ref C) = some true) && (eqO (PySem.W.nsIn K PySem.cStatics "thirdparty.any") (some none) && (xfB K C && bFnX K fI C file)))))))
theorem bExC_ok {P : Program} {K : PySem.W.Frag} {d : DfR} {C : Addr} {qual : Str} {ist : Stmt} (e : fnZ K (d.at_ K) = d.val) (c : d.ok K = true) (h : bExC K C (d.at_ K) P.main.file = true) (ht : (P.main.scope.names.lookup ("super" : Str)).isSome = false) (hn : d.name = "__init__") (hq : d.qual = qual) (hs : d.st = ist) (hcl : d.cl = [("__class__" : Str)]) :
    ExC P K qual ist C (d.at_ K) := by
  obtain ⟨h1, h⟩ := ba h
  obtain ⟨h2, h⟩ := ba h
  obtain ⟨h3, h⟩ := ba h
  obtain ⟨h4, h⟩ := ba h
  obtain ⟨h5, h⟩ := ba h
  obtain ⟨h6, h⟩ := ba h
  obtain ⟨h7, h⟩ := ba h
  obtain ⟨h8, h9⟩ := ba h
  refine ⟨bOex_ok h1, eqO_ok h2, of_decide_eq_true h3, eqO_ok h4, of_decide_eq_true h5, of_decide_eq_true h6, eqO_ok h7, xfB_ok h8, ?_, ht⟩
  obtain ⟨kp, oc, od, osl, kV, doc, pm, an, cdv, ct, cl, lk, hcm, hcd⟩ := DfR.ex e c
  rw [hcl] at hcm
  obtain ⟨cc, rfl⟩ : ∃ cc, cl = [(("__class__" : Str), cc)] := by
    match cl, hcm with
    | [(x, cc)], hcm =>
      have : x = ("__class__" : Str) := (List.cons.inj hcm).1
      exact ⟨cc, by rw [this]⟩
  subst hq hs
  unfold bFnX at h9
  rw [lk] at h9
  obtain ⟨g1, g2⟩ := ba h9
  dsimp only [PySem.W.fnX] at g1 g2
  obtain ⟨cda, rfl⟩ := codeIn_ref hcd
  dsimp only at g1 g2
  split at g1
  · rename_i ccl cdd vs ccs lc
    split at g1
    · rename_i x t hv
      split at g2
      · rename_i cl0 cld C' csl lcc
        have eC : C' = C := of_decide_eq_true g2
        subst eC
        have ef : x = P.main.file := of_decide_eq_true g1
        refine ⟨cc, cda, oc, od, kV, doc, pm, ct, an, osl, ccl, cdd, vs, ccs, x, t, cl0, cld, csl, by rw [← hn]; exact lk, hcd, lc, by rw [← Array.getElem?_toList]; exact hv, by rw [ef]; exact beq_self_eq_true _, lcc⟩
      · cases g2
    · cases g1
  · cases g1
def bExm (K : PySem.W.Frag) (C : Addr) (cs : List Value) : Bool := decide (PySem.W.exmAny K (.ref C) cs = some true)
theorem bExm_ok {K : PySem.W.Frag} {C : Addr} {cs : List Value} (h : bExm K C cs = true) : PySem.W.exmAny K (.ref C) cs = some true := of_decide_eq_true h

/-! ### what is looked at -/
def refsZ (o : Obj) : List Addr := match o.data with
  | .cls cd => [cd.ns]
  | .dict es _ => es.toList.flatMap fun e => refV e.val
  | .func fd => refV fd.code ++ fd.closure.map (·.2)
  | .seq its _ => its.toList.flatMap refV
  | .fields vs => vs.toList.flatMap refV
  | _ => []
def stepZ (g : Addr → Option Obj) (as : List Addr) : List Addr := as.flatMap fun a => match g a with
  | some o => refsZ o
  | none => []
/-- what the names lead to -/
def asZ (g : Addr → Option Obj) (xs : List Str) : List Addr :=
  let K0 := frG g [mainGlobals]
  let r0 := xs.map (ga K0)
  let r1 := stepZ g r0
  let r2 := stepZ g r1
  let r3 := stepZ g r2
  let r4 := stepZ g r3
  [mainGlobals, PySem.cStatics] ++ (r0 ++ (r1 ++ (r2 ++ (r3 ++ r4))))
abbrev AlZ : Type := Bool × List FnZ
abbrev TbZ : Type := PySem.W.Frag → List (Addr × Addr)
def tabZ (g : Addr → Option Obj) (ts : List (Addr × Addr)) (K : PySem.W.Frag) : Bool := ts.all fun p => PySem.W.codeHdIn K p.1 p.2 && (match g p.2 with
  | some o => emptyTab o
  | none => false)
def obsK (fb : PySem.W.Frag → List Bool) (fn : List DfR) (tf : TbZ) (g : Addr → Option Obj) (K : PySem.W.Frag) : AlZ := ((fb K).all id && ((fn.all fun d => d.ok K) && tabZ g (tf K) K), fn.map fun d => fnZ K (d.at_ K))
def obsZ (xs : List Str) (fb : PySem.W.Frag → List Bool) (fn : List DfR) (tf : TbZ) (g : Addr → Option Obj) : AlZ := obsK fb fn tf g (frT g (asZ g xs))
def valZ (fn : List DfR) : AlZ := (true, fn.map DfR.val)
structure SaysZ (fb : PySem.W.Frag → List Bool) (fn : List DfR) (tf : TbZ) (h : Heap) (K : PySem.W.Frag) : Prop where
  facts : (fb K).all id = true
  defs : ∀ (i : Nat) (d : DfR), fn[i]? = some d → fnZ K (d.at_ K) = d.val ∧ d.ok K = true
  hd : ∀ p ∈ tf K, PySem.W.codeHdIn K p.1 p.2 = true
  out : ∀ p ∈ tf K, K.lookup p.2 = none
  empty : ∀ p ∈ tf K, h.get? p.2 = some { cls := .none, data := .fields #[] }
theorem saysZ_of {xs : List Str} {fb : PySem.W.Frag → List Bool} {fn : List DfR} {tf : TbZ} {h : Heap} (e : obsZ xs fb fn tf h.get? = valZ fn) : SaysZ fb fn tf h (frT h.get? (asZ h.get? xs)) := by
  unfold obsZ at e
  have hm : ∀ p o, h.get? p = some o → emptyTab o = true → (frT h.get? (asZ h.get? xs)).lookup p = none := fun p o q z => frT_none q z
  generalize frT h.get? (asZ h.get? xs) = K at e hm ⊢
  have e1 : ((fb K).all id && ((fn.all fun d => d.ok K) && tabZ h.get? (tf K) K)) = true := congrArg (fun z : AlZ => z.1) e
  have e2 : fn.map (fun d => fnZ K (d.at_ K)) = fn.map DfR.val := congrArg (fun z : AlZ => z.2) e
  obtain ⟨h1, h2⟩ := ba e1
  obtain ⟨h3, h4⟩ := ba h2
  have key : ∀ p ∈ tf K, PySem.W.codeHdIn K p.1 p.2 = true ∧ ∃ o, h.get? p.2 = some o ∧ emptyTab o = true := fun p hp => by
    obtain ⟨h5, h6⟩ := ba (List.all_eq_true.mp h4 p hp)
    refine ⟨h5, ?_⟩
    cases q : h.get? p.2 with
    | none => rw [q] at h6; cases h6
    | some o => rw [q] at h6; exact ⟨o, rfl, h6⟩
  refine ⟨h1, fun i d hi => ⟨?_, List.all_eq_true.mp h3 d (List.mem_of_getElem? hi)⟩, fun p hp => (key p hp).1, fun p hp => ?_, fun p hp => ?_⟩
  · have e3 : (fn.map fun d => fnZ K (d.at_ K))[i]? = (fn.map DfR.val)[i]? := by rw [e2]
    rw [List.getElem?_map, List.getElem?_map, hi] at e3
    exact Option.some.inj e3
  · obtain ⟨_, o, q, z⟩ := key p hp
    exact hm _ o q z
  · obtain ⟨_, o, q, z⟩ := key p hp
    rw [q, emptyTab_eq z]
def hookZ (xs : List Str) (fb : PySem.W.Frag → List Bool) (fn : List DfR) (tf : TbZ) : PySem.W.Hook where
  α := AlZ
  obs := fun s => obsZ xs fb fn tf s.heap.get?
  val := fun _ => valZ fn
  says := fun _ h => ∃ K : PySem.W.Frag, K.In h ∧ SaysZ fb fn tf h K
  of := fun _ _ e => ⟨_, frT_in, saysZ_of e⟩
  keeps := fun _ _ _ ⟨K, hK, c⟩ k => ⟨K, PySem.W.Frag.In.keeps hK k, ⟨c.facts, c.defs, c.hd, c.out, fun p hp => k _ _ (c.empty p hp)⟩⟩
theorem obsZ_eq {xs : List Str} {fb : PySem.W.Frag → List Bool} {fn : List DfR} {tf : TbZ} {g : Addr → Option Obj} {s : Shared} (h : ∀ a, g a = s.heap.get? a) : obsZ xs fb fn tf g = (hookZ xs fb fn tf).obs s := by
  have e : g = s.heap.get? := funext h
  rw [e] <;> rfl
theorem factZ {l : List Bool} (h : l.all id = true) (i : Nat) {b : Bool} (e : l[i]? = some b := by rfl) : b = true := List.all_eq_true.mp h b (List.mem_of_getElem? e)
/-- a def's code object, its table -/
def cdZ (K : PySem.W.Frag) (f : Addr) : Addr := match K.lookup f with
  | some ⟨_, _, .func fd, _⟩ => (match fd.code with
    | .ref c => c
    | _ => 0)
  | _ => 0
def tbZ (K : PySem.W.Frag) (f : Addr) : Addr × Addr := (cdZ K f, tabOf K (cdZ K f))
end DL
set_option maxHeartbeats 2000000
/-! the law's own promise at the end of the run -/
namespace DL
open PySem PySem.Spec PyProof.Rows L2 RZ He
/-- the script's value -/
def ScrD (ns : List Int) (d : D) : Prop := d = .scr ns ∨ d = .lst (ns.map D.int)
theorem cutL_map {α β : Type} (f : α → β) (ns : List α) (lo hi : Option Int) : cutL (ns.map f) lo hi = (cutL ns lo hi).map f := by
  unfold cutL
  rw [List.length_map, List.map_take, List.map_drop]
def spLaw (ts : List (Addr × Addr)) (q : Str) : SpD := fun ds M Q _ => ∃ ns d, ds = [d] ∧ ScrD ns d ∧ (∀ p ∈ ts, M p.2 = some (.tab q)) ∧ Q (.bl true) M
theorem dvs_ints {K : PySem.W.Frag} {H : Hp} {M : Mem} : ∀ ns : List Int, DVs K H M (ns.map D.int) (ns.map V.int)
  | [] => rfl
  | n :: ns => ⟨.int n, ns.map V.int, rfl, rfl, dvs_ints ns⟩
theorem hspZ {K : PySem.W.Frag} {H : Hp} {a : Addr} {ns : List Int} {ts : List (Addr × Addr)} {q : Str} (hT : ∀ p ∈ ts, H p.2 = some (.tbl #[])) (hS : SqL K H a (ns.map V.int)) :
    liftSp K (spLaw ts q) [.ref a] H (fun v _ => v = .bl true) (fun _ _ _ => False) := by
  have key : ∀ d : D, ScrD ns d → DV K H (uni (fun b => if b ∈ ts.map (·.2) then some (MO.tab q) else none) fun _ => none) d (.ref a) → liftSp K (spLaw ts q) [.ref a] H (fun v _ => v = .bl true) (fun _ _ _ => False) := fun d hd dv => by
    refine ⟨[d], fun b => if b ∈ ts.map (·.2) then some (MO.tab q) else none, fun _ => none, fun d _ => d = .bl true, fun _ _ => False, ⟨fun b o e => ?_, fun b o e => nomatch e⟩, ⟨.ref a, [], rfl, dv, rfl⟩, ⟨ns, d, rfl, hd, fun p hp => if_pos (List.mem_map.mpr ⟨p, hp, rfl⟩), rfl⟩, fun v H' d M' _ _ dv e => ?_, fun _ _ _ _ _ _ _ _ z => z⟩
    · have e' : (if b ∈ ts.map (·.2) then some (MO.tab q) else none) = some o := e
      by_cases hb : b ∈ ts.map (·.2)
      · rw [if_pos hb] at e'
        cases e'
        obtain ⟨p, hp, rfl⟩ := List.mem_map.mp hb
        refine ⟨#[], hT p hp, by simp [TriplesOk], fun pos cv hc => ?_⟩
        have hc' : codeAmong pos [] = some cv := hc
        simp [codeAmong] at hc'
      · rw [if_neg hb] at e'
        cases e'
    · subst e
      exact dv
  rcases hS with (h | h) | h
  · refine key (.lst (ns.map D.int)) (.inr rfl) ⟨a, ns.map V.int, rfl, h, ?_, dvs_ints ns⟩
    show (if a ∈ ts.map (·.2) then some (MO.tab q) else none) = none
    refine if_neg fun z => ?_
    obtain ⟨p, hp, e⟩ := List.mem_map.mp z
    have := hT p hp
    rw [e, h] at this
    cases this
  · exact key (.scr ns) (.inl rfl) ⟨a, rfl, .inl h⟩
  · exact key (.scr ns) (.inl rfl) ⟨a, rfl, .inr h⟩
theorem fnOk_mkC {P : Program} {w : World} {K : PySem.W.Frag} {mg : Str → Option Value} {base : Heap} {k : Nat} {x qual : Str} {st : Stmt} {f : Addr} {N ps : List Str} {sp : SpD} {wb : WS} {oc : Value} {od an : Option Addr} {osl : Array (Option Value)} {kV doc pm cdv ct : Value}
    (lk : K.lookup f = some ⟨oc, od, .func (PySem.W.fnOf x qual (defArgs st) (defBody st) (defScope st) .none kV doc pm an cdv ct), osl⟩) (hcd : PySem.W.codeIn K cdv qual = true) (S : FnScope N ps (defScope st))
    (body : ∀ (A : Around) (outer : List Env) (s : Shared) (H : Hp) (E : XK), Room k (A.deeper (envOfC qual (defScope st) s.heap.objs.size f cdv)) →
      Takes (cxOf (L2.CX P w) P w K mg base N qual (defScope st) f cdv A outer s H E) (WD E) →
      JSs (cxOf (L2.CX P w) P w K mg base N qual (defScope st) f cdv A outer s H E) (WD E) (defBody st) wb)
    (h : ∀ ds M Q Xc, sp ds M Q Xc → ds.length = ps.length ∧ wb { nx := fun _ M => Fin Q .non M, rt := Fin Q, ex := fun x _ M => Xc x M } (startD N ds) M) :
    FnOk P w K mg base (L2.CX P w) (k + 1) f (PySem.W.fnOf x qual (defArgs st) (defBody st) (defScope st) .none kV doc pm an cdv ct) ps (liftSp K sp) := by
  refine fn_of lk hcd S (fun vs H Q E hh => ?_) (fun A outer s H vs Q E hr hh => ?_)
  · obtain ⟨ds, M, Fr, Qd, Xd, q1, q2, q3, _⟩ := hh
    rw [q2.len]
    exact (h _ _ _ _ q3).1
  · obtain ⟨ds, M, Fr, Qd, Xd, q1, q2, q3, l1, l2⟩ := hh
    refine ⟨_, body A outer s H E hr (takes_of rfl rfl rfl rfl), ?_⟩
    have fin : ∀ (v : V) (H' : Hp) (d : D) (M' : Mem), Ext H (uni M Fr) H' (uni M' Fr) → Rm K H' M' Fr → DV K H' (uni M' Fr) d v → Fin Qd d M' → Q v H' := fun v H' d M' e r dv ⟨d2, M2, fz, q⟩ =>
      l1 v H' d2 M2 (e.down (sub_none fz.sub)) (r.sub fz.sub) (fz.dv K H' Fr v r dv) q
    exact ⟨startD N ds, M, Fr, _, ⟨q1, Sl.start q2⟩, rfl, (h _ _ _ _ q3).2, ⟨fun σ' H' ds' M' e r q => fin .non H' .non M' e r.1 rfl q, fin, fun _ _ _ _ _ _ z => z.elim, fun _ _ _ _ _ _ z => z.elim, fun cls dc σ' H' x ds' M' e r dv q => l2 cls dc H' x M' e r.1 dv q⟩⟩
theorem law_atZ {l : PySem.W.OpenLaw} {w : World} {mg : Str → Option Value} {h : Heap} {K : PySem.W.Frag} {fb : PySem.W.Frag → List Bool} {fn : List DfR} {tf : TbZ} {d : DfR} {N : List Str} {k : Nat} {wb : WS} {q : Str}
    (X : K.In h) (c : SaysZ fb fn tf h K) (e : fnZ K (d.at_ K) = d.val ∧ d.ok K = true) (hcl : d.cl = []) (S : FnScope N [("_law_script" : Str)] (defScope d.st))
    (hb : ∀ (kV doc pm cdv ct : Value) (an : Option Addr) (s : Shared) (u : Value), BindsTo s (PySem.W.fnOf d.name d.qual (defArgs d.st) (defBody d.st) (defScope d.st) .none kV doc pm an cdv ct) ⟨[u], []⟩ [(("_law_script" : Str), u)])
    (body : ∀ (base : Heap), (∀ p ∈ tf K, LamX.TabB base mg p.1 p.2) → ∀ (cdv : Value), cdv = .ref (cdZ K (d.at_ K)) → ∀ (A : Around) (outer : List Env) (s : Shared) (H : Hp) (E : XK), Room k (A.deeper (envOfC d.qual (defScope d.st) s.heap.objs.size (d.at_ K) cdv)) →
      Takes (cxOf (L2.CX l.prog w) l.prog w K mg base N d.qual (defScope d.st) (d.at_ K) cdv A outer s H E) (WD E) →
      JSs (cxOf (L2.CX l.prog w) l.prog w K mg base N d.qual (defScope d.st) (d.at_ K) cdv A outer s H E) (WD E) (defBody d.st) wb)
    (hrd : ∀ ds M Q Xc, spLaw (tf K) q ds M Q Xc → ds.length = [("_law_script" : Str)].length ∧ wb { nx := fun _ M => Fin Q .non M, rt := Fin Q, ex := fun x _ M => Xc x M } (startD N ds) M) :
    LamX.LawAtS l w K (L2.CX l.prog w) (k + 1) 63 "_law_script" mg (d.at_ K) h := by
  obtain ⟨kp, oc, od, osl, kV, doc, pm, an, cdv, ct, cl, lk, hcm, hcd⟩ := DfR.ex e.1 e.2
  rw [hcl] at hcm
  have e0 : cl = [] := List.map_eq_nil_iff.mp hcm
  subst e0
  have ec : cdv = .ref (cdZ K (d.at_ K)) := by
    obtain ⟨c0, rfl⟩ := codeIn_ref hcd
    unfold cdZ
    rw [lk]
  refine ⟨_, tf K, liftSp K (spLaw (tf K) q), c.empty, c.out, fun p hp => PySem.W.codeHd_of_K X (c.hd p hp), fun s u => hb kV doc pm cdv ct an s u, fun H a ns _ _ hT hS => hspZ hT hS, fun base KB GB TB => ?_⟩
  exact fnOk_mkC (st := d.st) lk hcd S (fun A outer s H E hr tk => body base TB cdv ec A outer s H E hr tk) hrd
end DL
set_option maxHeartbeats 2000000
/-! list == []; o.f op= e; defs whose exceptions leave objects behind -/
namespace DL
open PySem PySem.Spec PyProof.Rows L2 RZ
/-- xs == [], xs any list -/
def lsOf (M : Mem) : D → Option (List D)
  | .lst xs => some xs
  | .ref a => moSeq (M a)
  | _ => none
def rEqE : RD2 := fun d e M Q => e = .lst [] ∧ optK (lsOf M d) fun xs => Q (.bl (decide (xs = []))) M
theorem lsOf_ok {K : PySem.W.Frag} {H : Hp} {M F : Mem} {d : D} {xs : List D} {x : V} (R : Rm K H M F) (h : lsOf M d = some xs) (g : DV K H (uni M F) d x) : ∃ a ys, x = .ref a ∧ H a = some (.lst ys) ∧ ys.length = xs.length := by
  cases d <;> first | cases h | skip
  · rename_i a
    cases (show x = .ref a from g)
    obtain ⟨ys, q1, q2⟩ := R.get (moSeq_of (show moSeq (M a) = some xs from h))
    exact ⟨a, ys, rfl, q1, q2.len⟩
  · obtain ⟨a, ys, e, q1, _, q2⟩ := g
    exact ⟨a, ys, e, q1, q2.len⟩
section
variable {X : Cx}
theorem od_eqE (hu : X.A.units + 64 < cLine) : OpR X (compareOp .Eq) (liftV2 X.K rEqE) := by
  intro pins s σ H x y v u Q I rx ry hh
  obtain ⟨d, e, M, F, Qd, R, h1, h2, ⟨e1, h3⟩, l⟩ := hh
  subst e1
  obtain ⟨xs, h4, q⟩ := optK_of h3
  obtain ⟨a, ys, e2, g1, gl⟩ := lsOf_ok R h4 h1
  obtain ⟨b, zs, e3, g3, _, g4⟩ := h2
  subst e2 e3
  have ez : zs = [] := g4
  subst ez
  cases (show v = Value.ref a from rx)
  cases (show u = Value.ref b from ry)
  obtain ⟨us, r1, p1, _⟩ := I.list (SqL.of g1 : SqL X.K H a ys)
  obtain ⟨ws, r2, p2, _⟩ := I.list (SqL.of g3 : SqL X.K H b [])
  have hw : ws = [] := List.eq_nil_of_length_eq_zero (by rw [← r2.length]; rfl)
  subst hw
  have hl : us.length = xs.length := by rw [← r1.length]; exact gl
  have fin : ∀ c : Bool, c = decide (xs = []) → EP X pins σ Q (.bool c) s := fun c hc => by
    subst hc
    exact ⟨.bl _, H, I, rfl, l _ H (.bl (decide (xs = []))) M Ext.rfl' R rfl q⟩
  by_cases hx : xs = []
  · have hu0 : us = [] := List.eq_nil_of_length_eq_zero (by rw [hl, hx]; rfl)
    subst hu0
    refine SeqAt.eq_listAt (e := fun _ => true) p1.isList p2.isList rfl (by omega) (fun j h1 _ => absurd h1 (by simp)) (fin _ ?_)
    simp [hx]
  · refine SeqAt.eq_list_lengthsAt p1.isList p2.isList ?_ (by omega) (fin _ (by rw [decide_eq_false hx]))
    have : us.length ≠ 0 := fun z => hx (List.eq_nil_of_length_eq_zero (by omega))
    simpa using this
end
theorem pEqE_ref {a : Addr} {M : Mem} {xs : List D} {Q : KN} (h : M a = some (.lst xs)) (q : Q (.bl (decide (xs = []))) M) : rEqE (.ref a) (.lst []) M Q := ⟨rfl, by
  show optK (moSeq (M a)) _
  rw [h]
  exact q⟩
/-! ### o.f op= e, o an owned instance -/
def fauK (C : Addr) (ns : List Str) (i : Nat) (E : ED) (ds : SD) (d z : D) (M3 : Mem) : Prop := match d with
  | .ref a => optK (moIns (M3 a)) fun p => p.1 = C ∧ p.2.1 = ns ∧ E.nx ds (mput M3 a (.ins C ns (p.2.2.set i z)))
  | _ => False
def wFau (C : Addr) (ns : List Str) (i : Nat) (wo we : WE) (r : RD2) : WS := fun E ds M => wo ds M (fun d M1 => insK C ns M1 d fun xs => optK xs[i]? fun v => we ds M1 (fun e M2 => r v e M2 fun z M3 => fauK C ns i E ds d z M3) (E.xc ds)) (E.xc ds)
section
variable {X : Cx} {W : WX} {o e : Expr} {wo we : WE} {f : Str} {pos tpos : Pos} {C : Addr} {ns : List Str} {op : Operator} {r : RD2}
theorem js_fau {i : Nat} (c : Cls X.K C) (n : NoAttr X.K C f) (hi : ns.findIdx? (· == f) = some i) (hl : ns.length < 1000) (ho : JE X W o wo) (he : JE X W e we) (hop : OpR X (inplaceOp op) (liftV2 X.K r)) :
    JS X W (.AugAssign (.Attribute o f tpos) op e pos) (wFau C ns i wo we r) :=
  ps_mono (ps_fldaug (rd := liftV2 X.K r) ho he fun pins s σ H x y u v Q I r1 r2 h => hop pins s σ H x y u v Q I r1 r2 h) fun D' σ H h =>
    bindSE (wa := wo) (f := fun d E ds M => insK C ns M d fun xs => optK xs[i]? fun v => we ds M (fun e M2 => r v e M2 fun z M3 => fauK C ns i E ds d z M3) (E.xc ds)) h fun x d H1 h => by
    obtain ⟨ds, M, F, E, hs, hv, hw, l⟩ := h
    obtain ⟨_, _, e1, g1, _⟩ := hv
    cases e1
    obtain ⟨a, dx, fs, xs, e2, q1, q2, q3, q⟩ := insK_of hs.1 hw g1
    obtain ⟨v, e3, q⟩ := optK_of q
    obtain ⟨y, k1, k2⟩ := q3.get e3
    subst e2
    refine ⟨a, C, dx, fs, y, rfl, q1, c, n, by rw [look_at q2 hi]; exact k1, ?_⟩
    refine bindSE (es := [v, d]) (vs := [y, .ref a]) (wa := we) (f := fun e E ds M => r v e M fun z M3 => fauK C ns i E ds d z M3) ⟨ds, M, F, E, hs, ⟨y, _, rfl, k2, _, _, rfl, g1, rfl⟩, q, l⟩ fun w ed H2 h => ?_
    obtain ⟨ds, M, F, E, hs, hv, hw, l⟩ := h
    obtain ⟨_, _, e4, g4, _, _, e5, g5, _, _, e6, g6, _⟩ := hv
    cases e4
    cases e5
    cases e6
    refine ⟨v, ed, M, F, _, hs.1, g5, g4, hw, fun z H3 dz M3 ex R3 dvz hq => ?_⟩
    obtain ⟨a', rfl⟩ : ∃ a', d = .ref a' := by cases d <;> first | exact hq.elim | exact ⟨_, rfl⟩
    cases (show V.ref a = .ref a' from g6)
    obtain ⟨⟨C', ns', xs'⟩, e7, e8, e9, hq⟩ := optK_of hq
    dsimp only at e8 e9 hq
    subst e8
    subst e9
    unfold moIns at e7
    split at e7
    · rename_i e10
      cases e7
      obtain ⟨dx', fs', t1, t2, t3⟩ := R3.get e10
      refine ⟨dx', fs', t1, by rw [← List.length_map (f := (·.1)), t2]; exact hl, ?_⟩
      obtain ⟨k3, k4⟩ := putF_rel (f := f) dvz t2 t3 hi
      have x := R3.xset (o := HO.ins C' dx' (putF f z fs')) (u := .ins C' ns' (xs'.set i dz)) e10
      exact l.nx _ _ ds _ (ex.trans x) (hs.ext (ex.trans x) (R3.set e10 ⟨dx', _, upd_same, k3, DVs.ext R3.rel x _ _ k4⟩)) hq
    · cases e7
end
theorem insK_own {C : Addr} {ns : List Str} {M : Mem} {a : Addr} {xs : List D} {k : List D → Prop} (h : M a = some (.ins C ns xs)) : insK C ns M (.ref a) k = k xs := by
  have e : insOf M (.ref a) = some (C, ns, xs) := by
    show moIns (M a) = _
    rw [h]
    rfl
  unfold insK
  rw [e]
  exact propext ⟨fun z => z.2.2, fun z => ⟨rfl, rfl, z⟩⟩
theorem pFau {C : Addr} {ns : List Str} {i : Nat} {wo we : WE} {r : RD2} {E : ED} {ds : SD} {M : Mem} : wFau C ns i wo we r E ds M = (wo ds M (fun d M1 => insK C ns M1 d fun xs => optK xs[i]? fun v => we ds M1 (fun e M2 => r v e M2 fun z M3 => fauK C ns i E ds d z M3) (E.xc ds)) (E.xc ds)) := propext Iff.rfl
theorem fauK_own {C : Addr} {ns : List Str} {i : Nat} {E : ED} {ds : SD} {a : Addr} {z : D} {M : Mem} {xs : List D} (h : M a = some (.ins C ns xs)) : fauK C ns i E ds (.ref a) z M = E.nx ds (mput M a (.ins C ns (xs.set i z))) := by
  have e : moIns (M a) = some (C, ns, xs) := by
    rw [h]
    rfl
  unfold fauK
  dsimp only
  rw [e]
  exact propext ⟨fun z => z.2.2, fun z => ⟨rfl, rfl, z⟩⟩
def fstK (C : Addr) (ns : List Str) (f : Str) (o : Option Nat) (E : ED) (ds : SD) (v d : D) (M2 : Mem) : Prop := match d with
  | .ref a => optK (moIns (M2 a)) fun p => p.1 = C ∧ p.2.1 = ns ∧ E.nx ds (mput M2 a (.ins C (putD ns p.2.2 f v o).1 (putD ns p.2.2 f v o).2))
  | _ => False
theorem pFst {C : Addr} {ns : List Str} {f : Str} {o : Option Nat} {we wo : WE} {E : ED} {ds : SD} {M : Mem} : wFst C ns f o we wo E ds M = (we ds M (fun v M1 => wo ds M1 (fun d M2 => fstK C ns f o E ds v d M2) (E.xc ds)) (E.xc ds)) := propext Iff.rfl
theorem fstK_own {C : Addr} {ns : List Str} {f : Str} {o : Option Nat} {E : ED} {ds : SD} {v : D} {a : Addr} {M : Mem} {xs : List D} (h : M a = some (.ins C ns xs)) : fstK C ns f o E ds v (.ref a) M = E.nx ds (mput M a (.ins C (putD ns xs f v o).1 (putD ns xs f v o).2)) := by
  have e : moIns (M a) = some (C, ns, xs) := by
    rw [h]
    rfl
  unfold fstK
  dsimp only
  rw [e]
  exact propext ⟨fun z => z.2.2, fun z => ⟨rfl, rfl, z⟩⟩
theorem eqE_own {a : Addr} {M : Mem} {xs : List D} {Q : KN} (h : M a = some (.lst xs)) : rEqE (.ref a) (.lst []) M Q = Q (.bl (decide (xs = []))) M := by
  unfold rEqE lsOf moSeq
  simp [h, optK]
theorem pWhile {t : WT} {wb : WS} {E : ED} {ds : SD} {M : Mem} : wWhile t wb E ds M = (∃ I : Nat → SD → Mem → Prop, (∃ m, I m ds M) ∧ ∀ m ds M, I m ds M →
  t ds M (fun b M1 => if b = true then wb { E with nx := fun ds' M' => ∃ m', m' < m ∧ I m' ds' M', ct := fun ds' M' => ∃ m', m' < m ∧ I m' ds' M', bk := E.nx } ds M1 else E.nx ds M1) (E.xc ds)) := propext Iff.rfl
theorem pRaise {C : Addr} {fs : List Str} {tag : Str} {wa : WA} {E : ED} {ds : SD} {M : Mem} : wRaise C fs tag wa E ds M = wa ds M (fun xs M1 => xs.length = fs.length ∧ E.ex (.own C ((("tag" : Str)) :: fs.reverse) (.str tag :: xs.reverse)) ds M1) (E.xc ds) := propext Iff.rfl
/-- f(k=e, ..) -/
theorem j_callK0 {X : Cx} {W : WX} {x : Str} {p pos : Pos} {kws : List Keyword} {wk : WA} {k j n m : Nat} {ord : List Nat} {f : Addr} {sp : SpD} {ks : List Str}
    (F : FnJK X.prog X.w X.K X.mg X.base k f sp ks n m ord) (hr : Room j X.A) (hkj : k ≤ j) (hm : X.mg x = some (.ref f)) (tk : Takes X W) (hkw : JK X W kws wk) (hg : Gl X x := by rfl)
    (hall : (backToKw pos (keywordEach kws X.env)).all (·.1.isSome) = true := by rfl) (hks : (backToKw pos (keywordEach kws X.env)).filterMap (·.1) = ks := by rfl)
    (hdb : (x == ("__debug__" : Str)) = false := by decide)
    (hpl : ((backTo pos (starEach [] X.env)).any (·.1) || (backToKw pos (keywordEach kws X.env)).any (·.1.isNone)) = false := by rfl) :
    JE X W (.Call (.Name x p) [] kws pos) (wCallK sp n m ord wNil wk) := by
  obtain ⟨fd, ps, h1, h2⟩ := F.ex
  have main : ∀ σ, PE X (.Call (.Name x p) [] kws pos) (fun σ' H Q => σ' = σ ∧ liftA X.K W wk σ' H fun zs H2 => liftSp X.K sp (gOrd n m ord [] zs) H2 Q (L2.WE W σ)) := fun σ => ⟨fun pins s σ' H Q I h => by
    obtain ⟨e1, h⟩ := h
    subst e1
    refine wpAny_Call_Name_kw (ld_glob I hg hm ?_ hdb)
    refine PySem.W.callWith_KW0 (h₀ := X.base) I.ok.mod.kin F.kp hall (thn (hkw.run pos pins s _ H _ I h) fun ws s2 ⟨zs, H2, I2, rz, q2⟩ => ⟨I2.kIn, ?_⟩) hpl
    rw [hks]
    exact run_k h1 (hr.mono hkj) h2 (passAt tk _) I2 .nil rz q2⟩
  refine ⟨fun pins s σ H Q I h => (main σ).run pins s σ H Q I ⟨rfl, ?_⟩⟩
  refine bindA (wa := wk) (f := fun ys _ M Q Xc => sp (gOrd n m ord [] ys) M Q Xc) h fun zs ys H2 h => ?_
  obtain ⟨ds, M, F', Qd, Xd, hs, hv, hw, l1, l2⟩ := h
  rw [List.append_nil, List.append_nil] at hv
  exact ⟨gOrd n m ord [] ys, M, F', Qd, Xd, hs.1, gOrd_dvs (ds := []) (show DVs X.K H2 (uni M F') [] [] from rfl) hv, hw, l1, l2⟩
/-! ### an exception leaves: what it does not name may be forgotten -/
def FinX (Xc : KX) : KX := fun x M => ∃ M', (∀ a o, M' a = some o → M a = some o) ∧ Xc x M'
theorem finX_of {Xc : KX} {x : Exn} {M : Mem} (h : Xc x M) : FinX Xc x M := ⟨M, fun _ _ e => e, h⟩
theorem ExV.down {K : PySem.W.Frag} {H : Hp} {N N' : Mem} {cls : Value} {dc : Option Addr} (e : ∀ a, N a = none → N' a = none) : ∀ {x : Exn}, ExV K H N cls dc x → ExV K H N' cls dc x
  | .own C ns ds, h => by
    obtain ⟨h1, dd, fs, h2, h3, h4, h5, h6⟩ := h
    exact ⟨h1, dd, fs, h2, h3, e _ h4, h5, DVs.down e ds _ h6⟩
  | .bi n, h => h
theorem FnOk.mkDX {P : Program} {w : World} {K : PySem.W.Frag} {mg : Str → Option Value} {base : Heap} {k : Nat} {x qual : Str} {st : Stmt} {f : Addr} {fd : FuncData} {N ps : List Str} {sp : SpD} {wb : WS}
    (F : Fun K x qual st f fd) (S : FnScope N ps (defScope st))
    (body : ∀ (cdv : Value) (A : Around) (outer : List Env) (s : Shared) (H : Hp) (E : XK), Room k (A.deeper (envOfC qual (defScope st) s.heap.objs.size f cdv)) →
      Takes (cxOf (L2.CX P w) P w K mg base N qual (defScope st) f cdv A outer s H E) (WD E) →
      JSs (cxOf (L2.CX P w) P w K mg base N qual (defScope st) f cdv A outer s H E) (WD E) (defBody st) wb)
    (h : ∀ ds M Q Xc, sp ds M Q Xc → ds.length = ps.length ∧ wb { nx := fun _ M => Fin Q .non M, rt := Fin Q, ex := fun x _ M => FinX Xc x M } (startD N ds) M) : FnOk P w K mg base (L2.CX P w) (k + 1) f fd ps (liftSp K sp) := by
  refine F.okX S (fun vs H Q E hh => ?_) (fun cdv A outer s H vs Q E hr hh => ?_)
  · obtain ⟨ds, M, Fr, Qd, Xd, q1, q2, q3, _⟩ := hh
    rw [q2.len]
    exact (h _ _ _ _ q3).1
  · obtain ⟨ds, M, Fr, Qd, Xd, q1, q2, q3, l1, l2⟩ := hh
    refine ⟨_, body cdv A outer s H E hr (takes_of rfl rfl rfl rfl), ?_⟩
    have fin : ∀ (v : V) (H' : Hp) (d : D) (M' : Mem), Ext H (uni M Fr) H' (uni M' Fr) → Rm K H' M' Fr → DV K H' (uni M' Fr) d v → Fin Qd d M' → Q v H' := fun v H' d M' e r dv ⟨d2, M2, fz, q⟩ =>
      l1 v H' d2 M2 (e.down (sub_none fz.sub)) (r.sub fz.sub) (fz.dv K H' Fr v r dv) q
    exact ⟨startD N ds, M, Fr, _, ⟨q1, Sl.start q2⟩, rfl, (h _ _ _ _ q3).2, ⟨fun σ' H' ds' M' e r q => fin .non H' .non M' e r.1 rfl q, fin, fun _ _ _ _ _ _ z => z.elim, fun _ _ _ _ _ _ z => z.elim, fun cls dc σ' H' x ds' M' e r dv ⟨M2, sub, q⟩ => l2 cls dc H' x M2 (e.down (sub_none sub)) (r.1.sub sub) (ExV.down (sub_none sub) dv) q⟩⟩
theorem FnJ.mkX {P : Program} {w : World} {K : PySem.W.Frag} {mg : Str → Option Value} {base : Heap} {k : Nat} {x qual : Str} {st : Stmt} {f : Addr} {N ps : List Str} {sp : SpD} {wb : WS}
    (Fd : DefAt K x qual st ps f) (S : FnScope N ps (defScope st))
    (body : ∀ (cdv : Value) (A : Around) (outer : List Env) (s : Shared) (H : Hp) (E : XK), Room k (A.deeper (envOfC qual (defScope st) s.heap.objs.size f cdv)) →
      Takes (cxOf (L2.CX P w) P w K mg base N qual (defScope st) f cdv A outer s H E) (WD E) →
      JSs (cxOf (L2.CX P w) P w K mg base N qual (defScope st) f cdv A outer s H E) (WD E) (defBody st) wb)
    (h : ∀ ds M Q Xc, sp ds M Q Xc → ds.length = ps.length ∧ wb { nx := fun _ M => Fin Q .non M, rt := Fin Q, ex := fun x _ M => FinX Xc x M } (startD N ds) M) : FnJ P w K mg base (k + 1) f sp := by
  obtain ⟨fd, F, b⟩ := Fd.ex
  exact ⟨⟨fd, ps, FnOk.mkDX F S body h, b⟩, F.kp⟩
theorem FnJK.mkX {P : Program} {w : World} {K : PySem.W.Frag} {mg : Str → Option Value} {base : Heap} {k : Nat} {x qual : Str} {st : Stmt} {f : Addr} {N ps ks : List Str} {n m : Nat} {ord : List Nat} {sp : SpD} {wb : WS}
    (F : DefAt K x qual st ps f) (S : FnScope N ps (defScope st)) (hp : 0 < ps.length)
    (hb : ∀ (kV doc pm : Value) (an : Option Addr) (cdv ct : Value) (us ws : List Value), us.length = n → ws.length = m →
      bindArgs (PySem.W.fnOf x qual (defArgs st) (defBody st) (defScope st) .none kV doc pm an cdv ct) ⟨us, ks.zip ws⟩ = pure (ps.zip (gOrd n m ord us ws)))
    (body : ∀ (cdv : Value) (A : Around) (outer : List Env) (s : Shared) (H : Hp) (E : XK), Room k (A.deeper (envOfC qual (defScope st) s.heap.objs.size f cdv)) →
      Takes (cxOf (L2.CX P w) P w K mg base N qual (defScope st) f cdv A outer s H E) (WD E) →
      JSs (cxOf (L2.CX P w) P w K mg base N qual (defScope st) f cdv A outer s H E) (WD E) (defBody st) wb)
    (h : ∀ ds M Q Xc, sp ds M Q Xc → ds.length = ps.length ∧ wb { nx := fun _ M => Fin Q .non M, rt := Fin Q, ex := fun x _ M => FinX Xc x M } (startD N ds) M) : FnJK P w K mg base (k + 1) f sp ks n m ord := by
  obtain ⟨fd, h1, h2⟩ := F.ex
  refine ⟨⟨fd, ps, FnOk.mkDX h1 S body h, ?_⟩, h1.kp⟩
  obtain ⟨oc, od, kV, doc, pm, an, cdv, ct, osl, rfl, lk, hcd⟩ := h1.ex
  exact kb_mk hp fun us ws e1 e2 s => .of_eq (hb kV doc pm an cdv ct us ws e1 e2)
end DL
set_option maxHeartbeats 2000000
namespace DL
open PySem PySem.Spec PyProof.Rows L2 RZ

/-! ### a lambda with one parameter that has a whole number as its default, called without arguments -/
section
variable {X : Cx} {pins : List (Addr × Obj)} {σ : L2.St} {H : Hp} {s : Shared}
theorem lamd_mk {c P : Addr} {params : Arguments} {body : Expr} {scope : Scope} {pos dp : Pos} {n : Int} {dk : Nat} {E : Value → Shared → Prop} {Q : Value → Shared → Prop} (I : Inv X pins σ H s) (B : LamX.TabB X.base X.mg c P) (hcode : X.env.code = .ref c) (T : LamX.TabS H P (lamQ X))
    (hk0 : params.kw_defaults = []) (hdf : params.defaults = [.Constant (.int n) dk dp]) (hfree : ∀ y ∈ scope.names, y.2 = .free → ∃ c, X.env.cells.lookup y.1 = some c)
    (h : ∀ (f c' t0 : Addr) (u : Value) (doc pm ctv : Value) (H1 : Hp) (s' : Shared), Inv X pins σ H1 s' → (∀ b o, b ≠ P → H b = some o → H1 b = some o) → LamX.TabS H1 P (lamQ X) →
      s'.heap.get? f = some (PySem.W.kdv_obj "<lambda>" (lamQ X) params (.expr body) scope (cloFrom X.env.cells scope.names []) (.ref t0) doc pm c' ctv) → H1 f = none → f ∉ frs X.stack →
      s'.heap.get? t0 = some (PySem.W.kdv_tup [u]) → H1 t0 = none → t0 ∉ frs X.stack → H1 c' = some (LamX.CodeO c' (lamQ X)) → Q (.ref f) s') :
    wpAny (model X.prog X.w) X.A (eval (.Lambda params body scope pos) X.env) Q E s := by
  obtain ⟨ps, hP, ht, ha⟩ := T
  have far : ∀ (s2 : Shared) (H2 : Hp), Inv X pins σ H2 s2 → ∀ {f : Addr}, s2.heap.objs.size ≤ f → f ∉ frs X.stack := fun s2 H2 I' {f} hf z => (List.mem_cons.mp (I'.stkSub f z)).elim (fun e => Nat.lt_irrefl _ (Nat.lt_of_lt_of_le I'.lt (e ▸ hf))) (I'.nofs hf)
  refine PySem.W.kdv_lam (by rw [hdf]; rfl) hk0 ?_
  rw [hdf]
  refine PySem.W.kdv_all1 (thn ((pe_int (i := n) (j := dk) (pos := dp)).run pins s σ H (fun v H' => H' = H) I rfl) fun u s1 ⟨v, H', I1, r1, q1⟩ => ?_)
  rw [show H' = H from q1] at I1
  refine PySem.W.kdv_all0 ?_
  rw [makeFunction_eq]
  simp only [List.zip_nil_right, List.filterMap_nil, List.isEmpty_nil, if_true, pure_bind, List.isEmpty_cons, Bool.false_eq_true, if_false]
  refine wpAny_bind (wpAny_newTextTuple ?_)
  have atT : (s1.heap.push (PySem.W.kdv_tup [u])).get? s1.heap.objs.size = some (PySem.W.kdv_tup [u]) := Heap.get?_push_size _ rfl
  have nT : H s1.heap.objs.size = none := I1.hok.fresh (Nat.le_refl _)
  have fT : s1.heap.objs.size ∉ frs X.stack := far _ _ I1 (Nat.le_refl _)
  have I2 : Inv X pins σ H { s1 with heap := s1.heap.push (PySem.W.kdv_tup [u]), toks := s1.toks } := I1.kept fun b o e => Heap.get?_push_of_some _ e
  generalize s1.heap.objs.size = t0 at atT nT fT ⊢
  generalize s1.heap.push (PySem.W.kdv_tup [u]) = h2 at atT I2 ⊢
  have atP : h2.get? P = some ({ cls := .none, data := .fields ps } : Obj) := I2.hok P _ hP
  have code : PySem.W.CodeHd h2 c P := B.code.keeps I2.bk
  have bm : h2.BuiltinsAt X.mg P := B.bm.keeps I2.bk
  have clo := closure_ok (env := X.env) hfree
  have n0 : t0 ≠ P := fun z => by rw [z, hP] at nT; cases nT
  rcases hc : codeAmong pos ps.toList with _ | cv
  · -- a new code object
    refine PySem.W.kdv_makeTail (mg := X.mg) (c := c) (P := P) (ps := ps) clo I2.ok.glob (I2.mod.glob.keeps I2.bk) hcode code atP ht hc B.gP bm fun c' ctv doc h1 tk ext hge hlt ⟨c2, oc, vs, t, e2, hoc, hd, hv⟩ tab => ?_
    cases e2
    have nC : H c' = none := I2.hok.fresh hge
    have le : h2.objs.size ≤ h1.objs.size := Nat.le_trans hge (Nat.le_of_lt hlt)
    have t0c : t0 ≠ c' := fun z => Nat.lt_irrefl _ (Nat.lt_of_lt_of_le (Heap.lt_size atT) (z ▸ hge))
    have new := LamX.inv_table (t' := tk) (q := lamQ X) (more := #[rawInt pos.line, rawInt pos.col, .ref c']) (h' := h1.push (PySem.W.kdv_obj "<lambda>" (lamQ X) params (.expr body) scope (cloFrom X.env.cells scope.names []) (.ref t0) doc ((X.mg "__name__").getD .none) c' ctv)) I2 hP
      (fun b o hb e => Heap.get?_push_of_some _ (ext b o hb e)) (Heap.get?_push_of_some _ tab) hge ⟨oc, vs, t, Heap.get?_push_of_some _ hoc, hd, hv⟩
    have stay : ∀ b o, b ≠ P → H b = some o → upd (upd H P (.tbl (ps ++ #[rawInt pos.line, rawInt pos.col, .ref c']))) c' (LamX.CodeO c' (lamQ X)) b = some o := fun b o hb e => by
      rw [upd_ne (ne_of_none e nC), upd_ne hb]
      exact e
    refine h h1.objs.size c' t0 u doc _ ctv _ _ new stay ⟨_, (upd_ne (ne_of_none hP nC)).trans upd_same, ?_, fun p' cv hcv => ?_⟩ (Heap.get?_push_size _ rfl) ?_ (far _ _ I2 le) (Heap.get?_push_of_some _ (ext _ _ n0 atT)) ((upd_ne t0c).trans ((upd_ne n0).trans nT)) fT upd_same
    · rw [Array.toList_append]
      exact PySem.TriplesOk_snoc _ _ _ _ ht
    · rw [Array.toList_append] at hcv
      rcases LamX.among_app _ ht hcv with z | z
      · obtain ⟨c0, e1, e3⟩ := ha p' cv z
        have ne : c0 ≠ P := fun q => by
          rw [q, hP] at e3
          exact LamX.codeO_ne ps (Option.some.inj e3).symm
        exact ⟨c0, e1, stay _ _ ne e3⟩
      · exact ⟨c', z, upd_same⟩
    · have n1 : h1.objs.size ≠ c' := Nat.ne_of_gt hlt
      have n2 : h1.objs.size ≠ P := Nat.ne_of_gt (Nat.lt_of_lt_of_le (Heap.lt_size atP) le)
      rw [upd_ne n1, upd_ne n2]
      exact I2.hok.fresh le
  · -- the code object stands in the table
    obtain ⟨c', e, hco⟩ := ha pos cv hc
    subst e
    refine PySem.W.kdv_makeTailHit (mg := X.mg) (c := c) (P := P) (ps := ps) clo I2.ok.glob (I2.mod.glob.keeps I2.bk) hcode code atP ht hc bm fun ctv doc h1 tk ext le => ?_
    exact h h1.objs.size c' t0 u doc _ ctv H _ (I2.kept (t' := tk) fun b o e => Heap.get?_push_of_some _ (ext b o e)) (fun _ _ _ e => e) ⟨ps, hP, ht, ha⟩ (Heap.get?_push_size _ rfl) (I2.hok.fresh le) (far _ _ I2 le) (Heap.get?_push_of_some _ (ext _ _ atT)) nT fT hco
end
/-- the names: one parameter y, no slot of the maker's; captured ones and globals -/
structure LamD (sc scope : Scope) (N : List Str) (y : Str) : Prop where
  kind : scope.kind = .function
  co : scope.isCoroutine = false
  gen : scope.isGenerator = false
  own : ∀ z ∈ scope.names, z.2 = .local → z.1 = y
  nc : ∀ z ∈ scope.names, z.2 ≠ .cell
  ny : y ∉ N
  ly : scope.names.lookup y = some .local
  free : ∀ z ∈ scope.names, z.2 = .free → sc.names.lookup z.1 = some .cell ∨ sc.names.lookup z.1 = some .free
def lamDB (sc scope : Scope) (N : List Str) (y : Str) : Bool :=
  decide (scope.kind = .function) && !scope.isCoroutine && !scope.isGenerator && !decide (y ∈ N) && decide (scope.names.lookup y = some .local) &&
    scope.names.all fun z => (!decide (z.2 = .local) || decide (z.1 = y)) && !decide (z.2 = .cell) && (!decide (z.2 = .free) || decide (sc.names.lookup z.1 = some .cell) || decide (sc.names.lookup z.1 = some .free))
theorem lamD_by {sc scope : Scope} {N : List Str} {y : Str} (h : lamDB sc scope N y = true) : LamD sc scope N y := by
  unfold lamDB at h
  simp only [Bool.and_eq_true, Bool.or_eq_true, Bool.not_eq_true', decide_eq_true_eq, decide_eq_false_iff_not, List.all_eq_true] at h
  obtain ⟨⟨⟨⟨⟨h1, h2⟩, h3⟩, h5⟩, h6⟩, h4⟩ := h
  refine ⟨h1, h2, h3, fun z hz e => ?_, fun z hz => (h4 z hz).1.2, h5, h6, fun z hz e => ?_⟩
  · rcases (h4 z hz).1.1 with k | k
    · exact absurd e k
    · exact k
  · rcases (h4 z hz).2 with (k | k) | k
    · exact absurd e k
    · exact .inl k
    · exact .inr k
theorem LamD.has {X : Cx} {scope : Scope} {N : List Str} {y : Str} (L : LamD X.env.scope scope N y) (ok : X.Ok) : ∀ y ∈ scope.names, y.2 = .free → ∃ c, X.env.cells.lookup y.1 = some c := fun y hy e => by
  rcases L.free y hy e with k | k
  · exact ok.has _ (.inl k)
  · exact ok.has _ (.inr k)
section
open LamX
variable {X : Cx} {pins : List (Addr × Obj)} {σ : L2.St} {H HZ : Hp} {s s1 : Shared}
theorem lamd_start {A : Around} {outer : List Env} {E : XK} {scope : Scope} {f c' : Addr} {h₁ : Heap} {tk : Nat} {y0 : Str} {m0 : Str → Option Value} (I : Inv X pins σ H s) (L : LamD X.env.scope scope X.N y0) (e0 : Env0 X.prog X.w X.K X.mg X.base A outer s1 HZ) (hd : A.handled = none)
    (un : Un (frs X.stack) [] H HZ s.heap s1.heap) (hns : h₁.Ns s1.heap.objs.size m0) (kp : ∀ b o, s1.heap.get? b = some o → h₁.get? b = some o) :
    Inv (lamCx X A outer s1 HZ E scope f c') [] σ HZ { s1 with heap := h₁, toks := tk } := by
  have hfree := L.has I.ok
  have cm : ∀ {y c}, (cloFrom X.env.cells scope.names []).lookup y = some c → X.env.cells.lookup y = some c := fun {y c} e => by
    rcases cloFrom_mem (PySem.mem_of_lookup e) with hm | ⟨h1, h2⟩
    · cases hm
    · obtain ⟨c1, hc⟩ := hfree _ h1 rfl
      have hc : X.env.cells.lookup y = some c1 := hc
      have e2 : c = c1 := by
        rw [h2, hc] <;> rfl
      rw [e2]
      exact hc
  have look : ∀ {y}, scope.names.lookup y = some .free → ∃ c, (cloFrom X.env.cells scope.names []).lookup y = some c := fun {y} hl => by
    have hy : (y, NameKind.free) ∈ scope.names := PySem.mem_of_lookup hl
    exact mem_lookup (cloFrom_has (cells := X.env.cells) (acc := []) hy)
  have cellK : ∀ {c : Addr} {v : Option Value}, H c = none → s.heap.IsCell c v → h₁.IsCell c v := fun {c v} n ⟨o, ho, hd⟩ => by
    obtain ⟨sl, q⟩ := un.any ho n (by simp)
    exact ⟨_, kp _ _ q, hd⟩
  have noA : ∀ b : Addr, b ∉ (lamCx X A outer s1 HZ E scope f c').ex := fun b z => absurd (show b ∈ ([] : List Addr) from z) (by simp)
  refine ⟨⟨e0.mod, L.kind, rfl, rfl, Nat.le_refl _, fun y z c e1 e2 => I.ok.inj y z c (cm e1) (cm e2), fun y hy => ?_, fun y c z _ => ?_, fun _ => hd, Around.frames_deeper e0.frames, .inr ⟨rfl, rfl⟩, fun b z => absurd z (noA b), e0.bs, e0.bsz, fun b _ _ => noA b,
      fun b z => absurd z (noA b), e0.funs, e0.frf⟩,
    rfl, e0.bare, Un.kept kp, ⟨_, hns, fun i y v e1 e2 e3 => ?_⟩, fun y c e => ?_, e0.hok.fresh (Nat.le_refl _), fun y c e => ?_, fun q hq => absurd (show q ∈ ([] : List (Addr × Obj)) ++ [] from hq) (by simp), e0.hok.kept kp, I.len⟩
  · have hy : scope.names.lookup y = some .cell ∨ scope.names.lookup y = some .free := hy
    rcases hy with hy | hy
    · exact absurd rfl (L.nc _ (PySem.mem_of_lookup hy))
    · exact look hy
  · have z : false = true := z
    cases z
  · have e3 : Vis scope y := e3
    rcases e3 with k | k | k
    · have z := L.own _ (PySem.mem_of_lookup k) rfl
      have e1 : X.N[i]? = some y := e1
      have z : y = y0 := z
      rw [z] at e1
      exact absurd (List.mem_of_getElem? e1) L.ny
    · exact absurd rfl (L.nc _ (PySem.mem_of_lookup k))
    · obtain ⟨m, hn, hl⟩ := I.loc
      have hvis : Vis X.env.scope y := (L.free _ (PySem.mem_of_lookup k) rfl).elim (fun k => .inr (.inl k)) (fun k => .inr (.inr k))
      obtain ⟨w', r, q⟩ := hl i y v e1 e2 hvis
      obtain ⟨c2, h2⟩ := look k
      refine ⟨w', r, .inr ⟨.inr k, c2, h2, ?_⟩⟩
      have c1 := cm h2
      rcases q with ⟨k', _⟩ | ⟨_, c3, e', z⟩
      · have k' : X.env.scope.names.lookup y = some .local := k'
        rcases L.free _ (PySem.mem_of_lookup k) rfl with k2 | k2 <;> rw [show X.env.scope.names.lookup y = _ from k2] at k' <;> cases k'
      · rw [c1] at e'
        cases e'
        exact cellK (I.freeC y _ c1) z
  · obtain ⟨w', z⟩ := I.cell y c (cm e)
    exact ⟨w', cellK (I.freeC y c (cm e)) z⟩
  · obtain ⟨v, o, ho, hd⟩ := I.cell y c (cm e)
    exact un.free c o ho (I.freeC y c (cm e)) (by simp)
theorem ped_act {CXg : CXT} {Eg : XK} {Ng : List Str} {qg : Str} {sg : Scope} {g f c' t0 : Addr} {u doc cdg pm ctv : Value} {params : Arguments} {body : Expr} {scope : Scope} {k i : Nat} {a y0 : Str} {pn : List (Addr × Obj)} {xe : Value → Shared → Prop} {W : WX} {E : XK} {tb : TE} {p1 p2 : Pos}
    (I : Inv X pins σ H s) (L : LamD X.env.scope scope X.N y0) (hf : s.heap.get? f = some (PySem.W.kdv_obj "<lambda>" (X.env.qual ++ "<lambda>") params (.expr body) scope (cloFrom X.env.cells scope.names []) (.ref t0) doc pm c' ctv)) (hfn : H f = none) (hfr : f ∉ frs X.stack)
    (ht : s.heap.get? t0 = some (PySem.W.kdv_tup [u])) (htn : H t0 = none) (htr : t0 ∉ frs X.stack)
    (hbind : ∃ k : Option (Array Value) → Sem (List (Str × Value)), bindArgs (PySem.W.kdv_fn "<lambda>" (X.env.qual ++ "<lambda>") params (.expr body) scope (cloFrom X.env.cells scope.names []) (.ref t0) doc pm (.ref c') ctv) ⟨[], []⟩ = seqItems? (.ref t0) >>= k ∧ k (some #[u]) = pure [(y0, u)])
    (tk : Takes ((cxOf CXg X.prog X.w X.K X.mg X.base Ng qg sg g cdg X.A X.stack s H Eg).tr pn xe) W) (hW : ∀ cls d σ' H', E cls d H' → W cls d σ' H') (hr : Room (k + 1) (X.A.deeper (envOfC qg sg s.heap.objs.size g cdg)))
    (hbody : ∀ (A : Around) (outer : List Env) (s : Shared) (H : Hp), Room k (A.deeper (lamEnv X scope s.heap.objs.size f c')) → PE (lamCx X A outer s H E scope f c') body tb)
    (hN : Ng[i]? = some a) (hv : Vis sg a) (hd : (a == ("__debug__" : Str)) = false := by decide) (hcd : (a == ("__classdict__" : Str)) = false := by decide) :
    PE ((cxOf CXg X.prog X.w X.K X.mg X.base Ng qg sg g cdg X.A X.stack s H Eg).tr pn xe) (.Call (.Name a p1) [] [] p2)
      (fun σZ HZ Q => σZ[i]? = some (some (.ref f)) ∧ HZ c' = some (CodeO c' (X.env.qual ++ "<lambda>")) ∧ tb σ HZ Q) := by
  refine ⟨fun pinsZ sZ σZ HZ Q IZ h => ?_⟩
  obtain ⟨hs, hc, htb⟩ := h
  refine wpAny_Call_Name_kw (thn ((pe_var (pos := p1) (i := i) hN hv hd hcd).run pinsZ sZ σZ HZ (fun v H1 => v = .ref f ∧ H1 = HZ) IZ ⟨.ref f, hs, rfl, rfl⟩) fun u1 s1 ⟨v, H1, I1, r1, q1⟩ => ?_)
  obtain ⟨ev, eH⟩ := q1
  subst ev
  rw [eH] at I1
  obtain rfl : u1 = Value.ref f := r1
  have of1 := I1.base.keep f _ hf hfn hfr (fun z => nomatch (show f ∈ ([] : List Addr) from z))
  have ot1 := I1.base.keep t0 _ ht htn htr (fun z => nomatch (show t0 ∈ ([] : List Addr) from z))
  refine PySem.W.callWith_F0 ⟨_, _, _, _, of1⟩ ?_
  have un : Un (frs X.stack) [] H HZ s.heap s1.heap := I1.base
  obtain ⟨⟨oc, vs, t, hoc, hdc, hvc⟩, _, _⟩ := I1.hok c' _ hc
  obtain ⟨kb, hb1, hb2⟩ := hbind
  have bt : BindsTo s1 (PySem.W.kdv_fn "<lambda>" (X.env.qual ++ "<lambda>") params (.expr body) scope (cloFrom X.env.cells scope.names []) (.ref t0) doc pm (.ref c') ctv) ⟨[], []⟩ [(y0, u)] := BindsTo.of_defaults rfl ot1 rfl hb1 hb2
  have rc : codeAny (model X.prog X.w) (X.A.deeper (envOfC qg sg s.heap.objs.size g cdg)) (.call (.ref f) ⟨[], []⟩) (CR (L2.CX X.prog X.w) (envOfC qg sg s.heap.objs.size g cdg :: X.stack) X.prog X.w HZ s1 Q E) s1 := by
    refine PySem.W.kla_callFunE hr.depth of1 rfl L.co L.gen rfl ⟨c', oc, vs, t, rfl, hoc, hdc, hvc⟩ (bt _ _ _ _ ?_)
    refine wpAny_newFunctionEnv (fun y hy => L.nc y hy) (fun y hy => ?_) (fun h₁ hns hsb => ⟨I1.nolimit.fresh _ hsb, ?_⟩) L.kind
    · rcases List.mem_singleton.mp hy with rfl
      exact L.ly
    show codeAny _ _ (.expr body (lamEnv X scope s1.heap.objs.size f c')) _ _
    have kp : ∀ b o, s1.heap.get? b = some o → h₁.get? b = some o := fun b o e => hsb.extBut b o (Nat.ne_of_lt (Heap.lt_size e)) (Heap.get?_push_of_some _ e)
    have J : Inv (lamCx X (X.A.deeper (envOfC qg sg s.heap.objs.size g cdg)) (envOfC qg sg s.heap.objs.size g cdg :: X.stack) s1 HZ E scope f c') [] σ HZ { s1 with heap := h₁, toks := s1.toks + ([(y0, u)] : List (Str × Value)).length } :=
      lamd_start I L I1.env0 hr.hd un hns kp
    refine PySem.W.kla_codeExpr (wpAny_mono ((hbody _ _ s1 HZ (hr.deeper _)).run [] _ _ HZ Q J htb) (fun v s' hq => ?_) fun e s' hq => hq)
    obtain ⟨w', H', J', rv, q⟩ := hq
    exact ⟨w', H', J'.os, J'.bare, J'.base, J'.hok, rv, q⟩
  have hx : Passes (L2.CX X.prog X.w) ((cxOf CXg X.prog X.w X.K X.mg X.base Ng qg sg g cdg X.A X.stack s H Eg).tr pn xe) E := passes_call tk hW
  refine wpAny_call (codeAny_mono rc fun r s' hq => ?_)
  cases r with
  | error e => exact hx pinsZ σZ HZ s1 e s' I1 hq
  | ok fl =>
    cases fl with
    | ret u => exact I1.after hq
    | next => exact False.elim hq
    | brk => exact False.elim hq
    | cont => exact False.elim hq
end
section
variable {X : Cx}
theorem ped_lam1 {TT : (XK → Hp → VK → Prop) → Hp → VK → Prop} {x a y0 : Str} {g c P : Addr} {k : Nat} {st : Stmt} {fd : FuncData} {Ng : List Str} {n : Int} {dk : Nat} {dp : Pos}
    {params : Arguments} {body : Expr} {scope : Scope} {t : XK → TE} {p lpos pos : Pos} (hg : Gl X x) (hm : X.mg x = some (.ref g)) (Fn : Fun X.K x x st g fd) (hb : L2.Binds X.K fd [a] []) (Sg : FnScope Ng [a] (defScope st)) (hNg : Ng[0]? = some a) (hva : Vis (defScope st) a)
    (hG : ∀ cdv, LamX.GivesTo X Ng x (defScope st) g cdv (defBody st) a (lamQ X) TT)
    (B : LamX.TabB X.base X.mg c P) (hcode : X.env.code = .ref c) (hr : Room (k + 2) X.A) (L : LamD X.env.scope scope X.N y0) (hk0 : params.kw_defaults = []) (hdf : params.defaults = [.Constant (.int n) dk dp])
    (hbind : ∀ (q : Str) (cl : List (Str × Addr)) (t0 : Addr) (u doc pm cv ctv : Value), ∃ k : Option (Array Value) → Sem (List (Str × Value)), bindArgs (PySem.W.kdv_fn "<lambda>" q params (.expr body) scope cl (.ref t0) doc pm cv ctv) ⟨[], []⟩ = seqItems? (.ref t0) >>= k ∧ k (some #[u]) = pure [(y0, u)])
    (hbody : ∀ (A : Around) (outer : List Env) (s : Shared) (H : Hp) (E : XK) (f c' : Addr), Room k (A.deeper (LamX.lamEnv X scope s.heap.objs.size f c')) → PE (LamX.lamCx X A outer s H E scope f c') body (t E))
    (hdb : (x == ("__debug__" : Str)) = false := by decide) (hd : (a == ("__debug__" : Str)) = false := by decide) (hcd : (a == ("__classdict__" : Str)) = false := by decide) :
    PE X (.Call (.Name x p) [.Lambda params body scope lpos] [] pos) (tLam1 P (lamQ X) TT t) := by
  obtain ⟨oc, od, kV, doc, pm, an, cdv, ct, osl, rfl, lk, hcg⟩ := Fn.ex
  refine ⟨fun pins s σ H Q I ⟨hT, h⟩ => wpAny_Call_Name_kw (ld_glob I hg hm ?_ hdb)⟩
  refine PySem.W.callWith_K (h₀ := X.base) I.ok.mod.kin Fn.kp ?_ (by rfl) (by rfl)
  show wpAny _ _ (spliced ((false, eval (.Lambda params body scope lpos) X.env) :: backTo pos (starEach [] X.env))) _ _ s
  refine Calls.spliced_cons (lamd_mk I B hcode hT hk0 hdf (L.has I.ok) fun f c' t0 u doc' pm' ctv H1 s' I1 eN T1 hf hfn hfr ht htn htr hco => Calls.spliced_nil ⟨I1.kIn, ?_⟩)
  refine wpAny_call (codeAny_mono (LamX.run_ofS (CX := C8.CX0) (E := C8.E0) (Q := Q) (N := Ng) (ps := [a]) (us := [.ref f]) (vs := [.ref f]) lk hcg Sg hr I1.env0 (hb s' [.ref f] I1.kIn rfl) (.cons rfl .nil) rfl fun hr' => ?_) fun r s2 hq => ?_)
  · obtain ⟨t', ht', hq'⟩ := hG cdv f c' s' H1 Q (fun E H' Q' => t E σ H' Q') (fun W pn xe E p1 p2 tk hW => ped_act (i := 0) I1 L hf hfn hfr ht htn htr (hbind _ _ _ _ _ _ _ _) tk hW hr' (fun A outer s H hr2 => hbody A outer s H E f c' hr2) hNg hva hd hcd) hco (h H1 eN T1)
    exact ⟨t', ht'.nox, hq'⟩
  · cases r with
    | error e => exact (show False from hq).elim
    | ok fl =>
      cases fl with
      | ret u => exact I1.after hq
      | next => exact False.elim hq
      | brk => exact False.elim hq
      | cont => exact False.elim hq
variable {W : WX} {x a y0 : Str} {g c P : Addr} {st : Stmt} {N : List Str} {cs : List Value} {XT : List XRow} {wb : WE} {params : Arguments} {body : Expr} {scope : Scope} {lpos pos p dp : Pos} {j k : Nat} {n : Int} {dk : Nat}
theorem j_tryd (Fd : DefAt X.K x x st [a] g) (Sg : FnScope N [a] (defScope st)) (hNg : N[0]? = some a) (hva : Vis (defScope st) a) (hG : ∀ cdv, LamX.GivesTo X N x (defScope st) g cdv (defBody st) a (lamQ X) (TTry X.K cs (spFd XT))) (hX : ∀ r ∈ XT, XCls X.K cs r.1)
    (B : LamX.TabB X.base X.mg c P) (hcode : X.env.code = .ref c) (hr : Room j X.A) (hj : k + 2 ≤ j) (L : LamD X.env.scope scope X.N y0) (hm : X.mg x = some (.ref g))
    (hbody : ∀ (A : Around) (outer : List Env) (s : Shared) (H : Hp) (E : XK) (f c' : Addr), Room k (A.deeper (LamX.lamEnv X scope s.heap.objs.size f c')) → Takes (LamX.lamCx X A outer s H E scope f c') (WD E) → JE (LamX.lamCx X A outer s H E scope f c') (WD E) body wb)
    (hbind : ∀ (q : Str) (cl : List (Str × Addr)) (t0 : Addr) (u doc pm cv ctv : Value), ∃ k : Option (Array Value) → Sem (List (Str × Value)), bindArgs (PySem.W.kdv_fn "<lambda>" q params (.expr body) scope cl (.ref t0) doc pm cv ctv) ⟨[], []⟩ = seqItems? (.ref t0) >>= k ∧ k (some #[u]) = pure [(y0, u)])
    (hdf : params.defaults = [.Constant (.int n) dk dp] := by rfl) (hk0 : params.kw_defaults = [] := by rfl) (hg : Gl X x := by rfl)
    (hdb : (x == ("__debug__" : Str)) = false := by decide) (hd : (a == ("__debug__" : Str)) = false := by decide) (hcd : (a == ("__classdict__" : Str)) = false := by decide) :
    JE X W (.Call (.Name x p) [.Lambda params body scope lpos] [] pos) (wTry P (lamQ X) XT wb) := by
  obtain ⟨fd, Fn, hb⟩ := Fd.ex
  exact pe_mono (ped_lam1 (t := fun E => liftE X.K (WD E) wb) hg hm Fn hb Sg hNg hva hG B hcode (hr.mono hj) L hk0 hdf hbind (fun A outer s H E f c' hr2 => hbody A outer s H E f c' hr2 takes_lam) hdb hd hcd) fun σ H Q h => try_lift hX h
end
end DL
set_option maxHeartbeats 2000000
namespace DL
open PySem PySem.Spec PyProof.Rows L2 RZ He

/-! ### C.m(..), m a staticmethod whose def takes all its arguments by a star -/
structure SMet (K : PySem.W.Frag) (C : Addr) (m : Str) (p g : Addr) : Prop where
  rd : PySem.W.readsIn K C (.type "type") = true
  ga : PySem.W.specialIn K (.ref C) "__getattribute__" = some (some (.builtin "type.__getattribute__"))
  at_ : PySem.W.findCls K (.ref C) (.type "type") m = some (.get (.builtin "staticmethod.__get__") (.ref p) .none (.ref C))
  rc : ∃ rest, PySem.W.recIn K p "staticmethod" = some (.ref g :: rest)
  kp : PySem.W.keepIn K (.ref g) = true
/-- its arguments as one tuple -/
def spT (sp : SpD) : SpD := fun ds M Q Xc => ∃ es, ds = [.tup es] ∧ sp es M Q Xc
def StarB (fd : FuncData) (y : Str) : Prop := ∀ us : List Value, bindArgs fd ⟨us, []⟩ = (newTuple us >>= fun t => pure [(y, t)])
structure FnV (P : Program) (w : World) (K : PySem.W.Frag) (mg : Str → Option Value) (base : Heap) (k : Nat) (g : Addr) (sp : SpD) : Prop where
  ex : ∃ (x qual : Str) (st : Stmt) (fd : FuncData) (N : List Str) (y : Str), Fun K x qual st g fd ∧ FnScope N [y] (defScope st) ∧ StarB fd y ∧
    ∀ (cdv : Value) (A : Around) (outer : List Env) (s : Shared) (H : Hp) (vs : List V) (Q : VK) (E : XK), Room k (A.deeper (envOfC qual (defScope st) s.heap.objs.size g cdv)) → liftSp K (spT sp) vs H Q E →
      ∃ t, PSs (cxOf (L2.CX P w) P w K mg base N qual (defScope st) g cdv A outer s H E) (defBody st) t ∧ t { nx := fun _ H' => Q .non H', rt := Q } (L2.start N vs) H
/-- a def with a star -/
structure DefV (K : PySem.W.Frag) (x qual : Str) (st : Stmt) (y : Str) (g : Addr) : Prop where
  ex : ∃ fd, Fun K x qual st g fd ∧ StarB fd y
theorem FnV.mkAt {P : Program} {w : World} {K : PySem.W.Frag} {mg : Str → Option Value} {base : Heap} {k : Nat} {x qual : Str} {st : Stmt} {f : Addr} {N : List Str} {y : Str} {sp : SpD} {wb : WS}
    (F : DefV K x qual st y f) (S : FnScope N [y] (defScope st))
    (body : ∀ (cdv : Value) (A : Around) (outer : List Env) (s : Shared) (H : Hp) (E : XK), Room k (A.deeper (envOfC qual (defScope st) s.heap.objs.size f cdv)) →
      Takes (cxOf (L2.CX P w) P w K mg base N qual (defScope st) f cdv A outer s H E) (WD E) →
      JSs (cxOf (L2.CX P w) P w K mg base N qual (defScope st) f cdv A outer s H E) (WD E) (defBody st) wb)
    (h : ∀ ds M Q Xc, sp ds M Q Xc → wb { nx := fun _ M => Fin Q .non M, rt := Fin Q, ex := fun x _ M => FinX Xc x M } (startD N [.tup ds]) M) : FnV P w K mg base k f sp := by
  obtain ⟨fd, h1, h2⟩ := F.ex
  refine ⟨x, qual, st, fd, N, y, h1, S, h2, fun cdv A outer s H vs Q E hr hh => ?_⟩
  obtain ⟨ds, M, Fr, Qd, Xd, q1, q2, ⟨es, rfl, q3⟩, l1, l2⟩ := hh
  refine ⟨_, body cdv A outer s H E hr (takes_of rfl rfl rfl rfl), ?_⟩
  have fin : ∀ (v : V) (H' : Hp) (d : D) (M' : Mem), Ext H (uni M Fr) H' (uni M' Fr) → Rm K H' M' Fr → DV K H' (uni M' Fr) d v → Fin Qd d M' → Q v H' := fun v H' d M' e r dv ⟨d2, M2, fz, q⟩ =>
    l1 v H' d2 M2 (e.down (sub_none fz.sub)) (r.sub fz.sub) (fz.dv K H' Fr v r dv) q
  exact ⟨startD N [.tup es], M, Fr, _, ⟨q1, Sl.start q2⟩, rfl, h _ _ _ _ q3, ⟨fun σ' H' ds' M' e r q => fin .non H' .non M' e r.1 rfl q, fin, fun _ _ _ _ _ _ z => z.elim, fun _ _ _ _ _ _ z => z.elim, fun cls dc σ' H' x ds' M' e r dv ⟨M2, sub, q⟩ => l2 cls dc H' x M2 (e.down (sub_none sub)) (r.1.sub sub) (ExV.down (sub_none sub) dv) q⟩⟩
section
variable {X : Cx} {pins : List (Addr × Obj)} {σ : L2.St} {H : Hp} {s : Shared}
theorem getstat_ok {A : Around} {E : Value → Shared → Prop} {C p g : Addr} {m : Str} {b : Bool} {Q : Value → Shared → Prop} (I : Inv X pins σ H s) (k : SMet X.K C m p g) (h : ∀ s', Inv X pins σ H s' → Q (.ref g) s') : wpAny (model X.prog X.w) A (getAttr (.ref C) m b) Q E s := by
  obtain ⟨rest, hp⟩ := k.rc
  refine PySem.W.cls_bind I.kIn k.rd k.at_ ?_
  exact wpAny_call (PySem.W.sm_get (s := { s with toks := s.toks + 1 }) I.kIn hp (PySem.W.handed_on rfl (h _ (I.tok _))))
theorem run_stat {k : Nat} {g : Addr} {sp : SpD} {us : List Value} {vs : List V} {Q : VK} {E : XK} (F : FnV X.prog X.w X.K X.mg X.base k g sp) (hr : Room (k + 1) X.A) (hx : PassesAt (L2.CX X.prog X.w) X σ E) (I : Inv X pins σ H s) (r : Vals vs us) (hl : vs.length ≤ sizeLine)
    (h : ∀ t, H t = none → liftSp X.K (spT sp) [.ref t] (upd H t (.tup vs)) Q E) : wpAny (model X.prog X.w) X.A (call (.ref g) us) (EP X pins σ Q) X.xe s := by
  obtain ⟨x, qual, st, fd, N, y, Fn, S, hb, body⟩ := F.ex
  obtain ⟨oc, od, kV, doc, pm, an, cdv, ct, osl, rfl, lk, hcd⟩ := Fn.ex
  have hul : us.length ≤ sizeLine := by rw [← r.length]; exact hl
  refine wpAny_call (codeAny_call_function hr.depth (I.kIn _ _ lk) rfl S.co S.gen rfl (PySem.W.codeRec_of I.kIn hcd) ?_)
  rw [hb us]
  refine wpAny_bind (wpAny_newTuple (wpAny_pure ?_) hul)
  have nT : H s.heap.objs.size = none := I.hok.fresh (Nat.le_refl _)
  have I1 : Inv X pins σ (upd H s.heap.objs.size (.tup vs)) { s with heap := s.heap.push { cls := .type "tuple", data := .seq us.toArray }, toks := s.toks } :=
    I.laid (fun b u e => Heap.get?_push_of_some _ e) (Nat.le_refl _) ⟨hl, us, r, ⟨_, Heap.get?_push_size _ rfl, rfl, _, rfl⟩⟩
  have hh := h s.heap.objs.size nT
  generalize hs1 : ({ s with heap := s.heap.push { cls := .type "tuple", data := .seq us.toArray }, toks := s.toks } : Shared) = s1 at I1
  clear hs1
  generalize upd H s.heap.objs.size (.tup vs) = H1 at I1 hh
  generalize s.heap.objs.size = t at hh ⊢
  have lim : s1.heap.NoLimit := I1.nolimit
  have hkind : ∀ z ∈ [y].zip [Value.ref t], (defScope st).names.lookup z.1 = some .local ∨ ((defScope st).names.lookup z.1 = some .cell ∧ ((cellsFrom (s1.heap.objs.size + 1) (defScope st).names []).lookup z.1).isSome = true) := fun ⟨n, v⟩ hy => by
    rcases S.par n (List.of_mem_zip hy).1 with q | q
    · exact .inl q
    · exact .inr ⟨q, PySem.W.cellsFrom_some _ _ _ (.inl q)⟩
  refine wpAny_newFunctionEnv_cells S.kind hkind fun env he s2 xx => ?_
  subst he
  refine ⟨lim.keeps xx.toInCall.keep, ?_⟩
  refine codeAny_mono (R := CR (L2.CX X.prog X.w) X.stack X.prog X.w H1 s1 Q E) (codeAny_func ?_) (fun q s3 hq => ?_)
  · obtain ⟨tt, ht, hq⟩ := body cdv X.A X.stack s1 H1 [.ref t] Q E (hr.deeper _) hh
    have J : Inv (cxOf (L2.CX X.prog X.w) X.prog X.w X.K X.mg X.base N qual (defScope st) g cdv X.A X.stack s1 H1 E) [] (L2.start N [.ref t]) H1 s2 := inv_start (us := [.ref t]) S hr.hd I1.env0 rfl (.cons rfl .nil) xx
    refine wpAny_mono (ht.run [] s2 (L2.start N [.ref t]) H1 _ J hq) (fun fl s' hs => ?_) fun e s' hs => hs
    have fin : ∀ {σ' : L2.St} {H' : Hp} {v : V} {u : Value}, Inv (cxOf (L2.CX X.prog X.w) X.prog X.w X.K X.mg X.base N qual (defScope st) g cdv X.A X.stack s1 H1 E) [] σ' H' s' → L2.RelV v u → Q v H' → CE X.stack X.prog X.w H1 s1 Q u s' :=
      fun {σ' H' v u} J rv q => ⟨v, H', J.os, J.bare, J.base, J.hok, rv, q⟩
    cases fl with
    | ret u =>
      obtain ⟨v, σ', H', J, rv, q⟩ := hs
      exact fin J rv q
    | next =>
      obtain ⟨σ', H', J, q⟩ := hs
      exact fin (v := V.non) (u := Value.none) J rfl q
    | brk =>
      obtain ⟨_, _, _, q⟩ := hs
      exact False.elim q
    | cont =>
      obtain ⟨_, _, _, q⟩ := hs
      exact False.elim q
  · cases q with
    | error e => exact hx pins H1 s1 e s3 I1 hq
    | ok fl =>
      cases fl with
      | ret u => exact I1.after hq
      | next => exact False.elim hq
      | brk => exact False.elim hq
      | cont => exact False.elim hq
end
/-- C.m(..) -/
def wStat (sp : SpD) (wa : WA) : WE := fun ds M Q Xc => wa ds M (fun xs M1 => xs.length ≤ sizeLine ∧ sp xs M1 Q Xc) Xc
def tStat (K : PySem.W.Frag) (sp : SpD) (E : XK) (t : TA) : TE := fun σ H Q => t σ H fun vs H1 => vs.length ≤ sizeLine ∧ ∀ p, H1 p = none → liftSp K (spT sp) [.ref p] (upd H1 p (.tup vs)) Q E
theorem pStat {sp : SpD} {wa : WA} {ds : SD} {M : Mem} {Q : KN} {Xc : KX} : wStat sp wa ds M Q Xc = wa ds M (fun xs M1 => xs.length ≤ sizeLine ∧ sp xs M1 Q Xc) Xc := propext Iff.rfl
section
variable {X : Cx} {W : WX} {x m : Str} {C p g : Addr} {k j : Nat} {sp : SpD} {wa : WA} {e : Expr} {es : List Expr} {pos apos q : Pos} {pl : Sem Bool}
theorem stat_conv {σ : L2.St} {H : Hp} {Q : VK} (h : liftE X.K W (wStat sp wa) σ H Q) : tStat X.K sp (L2.WE W σ) (liftA X.K W wa) σ H Q :=
  bindA (wa := wa) (f := fun xs _ M Q Xc => xs.length ≤ sizeLine ∧ sp xs M Q Xc) h fun xs ds H1 h => by
    obtain ⟨_, M, F, Qd, Xd, hs, hv, hw, l1, l2⟩ := h
    rw [List.append_nil, List.append_nil] at hv
    refine ⟨by rw [hv.len]; exact hw.1, fun p hp => ?_⟩
    have e' := new_ext hs.1.rel (o := HO.tup xs) hp
    have r1 := hs.1.new (o := HO.tup xs) hp
    have d1 := DVs.ext hs.1.rel e' _ _ hv
    exact ⟨[.tup ds], M, F, Qd, Xd, r1, ⟨.ref p, [], rfl, ⟨p, xs, rfl, SqT.of upd_same, d1⟩, rfl⟩, ⟨ds, rfl, hw.2⟩, fun v H' d M' e r dv q => l1 v H' d M' (e'.trans e) r dv q, fun cls dc H' x M' e r dv q => l2 cls dc H' x M' (e'.trans e) r dv q⟩
theorem j_stat (hm : X.mg x = some (.ref C)) (c : SMet X.K C m p g) (F : FnV X.prog X.w X.K X.mg X.base k g sp) (hr : Room j X.A) (hkj : k + 1 ≤ j) (tk : Takes X W) (ha : JA X W (e :: es) wa) (hg : Gl X x := by rfl) (hdb : (x == ("__debug__" : Str)) = false := by decide)
    (hst : starEach (e :: es) X.env = (false, eval e X.env) :: starEach es X.env := by rfl) (hpl : (backTo pos (starEach es X.env)).any (·.1) = false := by rfl)
    (ht : eval (.Call (.Attribute (.Name x q) m apos) (e :: es) [] pos) X.env = (do
      let ov ← eval (.Name x q) X.env
      standAt apos.atName
      let (f, first) ← holding [ov] (getMethod ov m pl)
      callWith pos f first (backTo pos (starEach (e :: es) X.env)) (backToKw pos (keywordEach [] X.env))) := by rfl) :
    JE X W (.Call (.Attribute (.Name x q) m apos) (e :: es) [] pos) (wStat sp wa) := by
  refine pe_mono (t := fun σ => tStat X.K sp (L2.WE W σ) (liftA X.K W wa) σ) ⟨fun pins s σ H Q I h => ?_⟩ fun σ H Q h => stat_conv h
  refine PySem.W.methodCall_KW (pl := pl) (ld_glob I hg hm ?_ hdb) ht
  refine PySem.W.method_cls I.kIn c.ga (getstat_ok I c fun s1 I1 => ?_)
  refine PySem.W.callWith_K (h₀ := X.base) I1.ok.mod.kin c.kp ?_ hst hpl
  exact thn (ha.run pos pins s1 σ H _ I1 h) fun us s2 ⟨vs, H2, I2, rv, z, q2⟩ => ⟨I2.kIn, run_stat F (hr.mono hkj) (passAt tk σ) I2 rv z q2⟩
theorem j_stat0 (hm : X.mg x = some (.ref C)) (c : SMet X.K C m p g) (F : FnV X.prog X.w X.K X.mg X.base k g sp) (hr : Room j X.A) (hkj : k + 1 ≤ j) (tk : Takes X W) (hg : Gl X x := by rfl) (hdb : (x == ("__debug__" : Str)) = false := by decide)
    (ht : eval (.Call (.Attribute (.Name x q) m apos) [] [] pos) X.env = (do
      let ov ← eval (.Name x q) X.env
      standAt apos.atName
      let (f, first) ← holding [ov] (getMethod ov m pl)
      callWith pos f first (backTo pos (starEach [] X.env)) (backToKw pos (keywordEach [] X.env))) := by rfl) :
    JE X W (.Call (.Attribute (.Name x q) m apos) [] [] pos) (wStat sp wNil) := by
  refine pe_mono (t := fun σ H Q => ∀ p, H p = none → liftSp X.K (spT sp) [.ref p] (upd H p (.tup [])) Q (L2.WE W σ)) ⟨fun pins s σ H Q I h => ?_⟩ fun σ H Q h => ?_
  · refine PySem.W.methodCall_KW (pl := pl) (ld_glob I hg hm ?_ hdb) ht
    refine PySem.W.method_cls I.kIn c.ga (getstat_ok I c fun s1 I1 => ?_)
    exact PySem.W.callWith_K0 (first := []) I1.kIn c.kp (run_stat (us := []) (vs := []) F (hr.mono hkj) (passAt tk σ) I1 .nil (Nat.zero_le _) h)
  · obtain ⟨ds, M, F, Qd, Xd, hs, hv, hw, l1, l2⟩ := h
    obtain ⟨_, hsp⟩ := hw
    intro p hp
    have e' := new_ext hs.1.rel (o := HO.tup []) hp
    exact ⟨[.tup []], M, F, Qd, Xd, hs.1.new hp, ⟨.ref p, [], rfl, ⟨p, [], rfl, SqT.of upd_same, rfl⟩, rfl⟩, ⟨[], rfl, hsp⟩, fun v H' d M' e r dv q => l1 v H' d M' (e'.trans e) r dv q, fun cls dc H' x M' e r dv q => l2 cls dc H' x M' (e'.trans e) r dv q⟩
end
/-! facts -/
def stG (K : PySem.W.Frag) (q : Addr) : Addr := match PySem.W.recIn K q "staticmethod" with
  | some (.ref f :: _) => f
  | _ => 0
def smG (K : PySem.W.Frag) (C : Addr) (m : Str) : Addr := match PySem.W.findCls K (.ref C) (.type "type") m with
  | some (.get _ (.ref p) _ _) => p
  | _ => 0
def bStat (K : PySem.W.Frag) (C : Addr) (m : Str) (p g : Addr) : Bool := PySem.W.readsIn K C (.type "type") && (eqO (PySem.W.specialIn K (.ref C) "__getattribute__") (some (some (.builtin "type.__getattribute__"))) && (PySem.W.keepIn K (.ref g) && ((match PySem.W.recIn K p "staticmethod" with
  | some (.ref f :: _) => decide (f = g)
  | _ => false) && (match PySem.W.findCls K (.ref C) (.type "type") m with
  | some (.get (.builtin b) (.ref p') .none (.ref C')) => decide (b = "staticmethod.__get__") && (decide (p' = p) && decide (C' = C))
  | _ => false))))
theorem bStat_ok {K : PySem.W.Frag} {C p g : Addr} {m : Str} (c : bStat K C m p g = true) : SMet K C m p g := by
  obtain ⟨c1, c⟩ := ba c
  obtain ⟨c2, c⟩ := ba c
  obtain ⟨c3, c⟩ := ba c
  obtain ⟨c4, c5⟩ := ba c
  refine ⟨c1, eqO_ok c2, ?_, ?_, c3⟩
  · split at c5
    · rename_i b p' C' e
      obtain ⟨h1, h⟩ := ba c5
      obtain ⟨h2, h3⟩ := ba h
      have e1 : b = "staticmethod.__get__" := of_decide_eq_true h1
      have e2 : p' = p := of_decide_eq_true h2
      have e3 : C' = C := of_decide_eq_true h3
      subst e1 e2 e3
      exact e
    · cases c5
  · split at c4
    · rename_i f r e
      rw [← of_decide_eq_true c4]
      exact ⟨r, e⟩
    · cases c4
theorem DfR.defV {K : PySem.W.Frag} {d : DfR} {y : Str} (e : fnZ K (d.at_ K) = d.val) (c : d.ok K = true) (hc : d.cl = [] := by rfl)
    (hb : ∀ (kV doc pm cdv ct : Value) (an : Option Addr) (us : List Value), bindArgs (PySem.W.fnOf d.name d.qual (defArgs d.st) (defBody d.st) (defScope d.st) .none kV doc pm an cdv ct) ⟨us, []⟩ = (newTuple us >>= fun t => pure [(y, t)])) : DefV K d.name d.qual d.st y (d.at_ K) := by
  obtain ⟨kp, oc, od, osl, kV, doc, pm, an, cdv, ct, cl, lk, hcl, hcd⟩ := DfR.ex e c
  rw [hc] at hcl
  have e0 : cl = [] := List.map_eq_nil_iff.mp hcl
  subst e0
  have F : Fun K d.name d.qual d.st (d.at_ K) _ := fun_mk (st := d.st) lk hcd kp
  exact ⟨_, F, hb kV doc pm cdv ct an⟩
end DL
set_option maxHeartbeats 2000000
namespace DL
open PySem PySem.Spec PyProof.Rows L2 RZ

/-! ### _law_try(lambda: ..) where the body's end may freeze and forget owned objects -/
def wTryF (P : Addr) (q : Str) (XT : List XRow) (wb : WE) : WE := fun ds M Q _ => M P = some (.tab q) ∧ wb ds M (Fin fun d M1 => Q (.tup [.str "value", d]) M1) (FinX fun x M1 => excR XT x M1 Q)
theorem pTryF {P : Addr} {q : Str} {XT : List XRow} {wb : WE} {ds : SD} {M : Mem} {Q : KN} {X : KX} : wTryF P q XT wb ds M Q X = (M P = some (.tab q) ∧ wb ds M (Fin fun d M1 => Q (.tup [.str "value", d]) M1) (FinX fun x M1 => excR XT x M1 Q)) := propext Iff.rfl
theorem try_liftF {K : PySem.W.Frag} {W : WX} {P : Addr} {q : Str} {cs : List Value} {XT : List XRow} {wb : WE} (hX : ∀ r ∈ XT, XCls K cs r.1) {σ : L2.St} {H : Hp} {Q : VK} (h : liftE K W (wTryF P q XT wb) σ H Q) :
    tLam1 P q (TTry K cs (spFd XT)) (fun E => liftE K (WD E) wb) σ H Q := by
  obtain ⟨ds, M, F, Qd, Xd, hs, _, ⟨hP, hw⟩, l1, l2⟩ := h
  have big := sizeLine_big
  have hu := hs.1.at hP
  obtain ⟨ps, h1, h2, h3⟩ : TabM H (uni M F) P q := hs.1.rel P _ hu
  refine ⟨⟨ps, h1, h2, fun pos cv hc => let ⟨c, e1, e2, _⟩ := h3 pos cv hc; ⟨c, e1, e2⟩⟩, fun H1 eN T1 => ?_⟩
  have ex : Ext H (uni M F) H1 (uni M F) := fun a o ha hm hn => ⟨⟨o, eN a o (fun z => by subst z; rw [hu] at hm; cases hm) ha, rfl⟩, hm⟩
  have R1 : Rm K H1 M F := by
    refine ⟨fun a o ha => ?_, hs.1.dj⟩
    by_cases hz : a = P
    · subst hz
      rw [hu] at ha
      cases ha
      exact tab_c hs.1.rel hu eN T1
    · exact MOk.ext hs.1.rel ex (hs.1.rel a o ha) fun u e => eN a u hz e
  refine ⟨ds, M, F, Fin fun d M1 => Qd (.tup [.str "value", d]) M1, FinX fun x M1 => excR XT x M1 Qd, hs.ext ex R1, rfl, hw, fun v H' d M' e r dv q => ⟨?_, fun t ht => ?_⟩, fun cls dc H' x M' e r xv q => ?_⟩
  · show 2 ≤ sizeLine
    omega
  · obtain ⟨d2, M2, fz, q⟩ := q
    have r2 := r.sub fz.sub
    have e1 := e.down (sub_none fz.sub)
    have e2 := new_ext r2.rel (o := HO.tup [.str "value", v]) ht
    exact l1 (.ref t) _ (.tup [.str "value", d2]) M2 ((ex.trans e1).trans e2) (r2.new ht) ⟨t, _, rfl, SqT.of upd_same, _, _, rfl, rfl, _, _, rfl, DV.ext r2.rel e2 d2 v (fz.dv K H' F v r dv), rfl⟩ q
  · obtain ⟨M2, sub, C, tag, fs, xs, hin, rfl, hl, hQ⟩ := q
    have r2 := r.sub sub
    have e1 := e.down (sub_none sub)
    have xv2 := ExV.down (sub_none sub) xv
    obtain ⟨rfl, dd, ff, rfl, hdd, hM, hfst, hdv⟩ := xv2
    have xc := hX _ hin
    refine ⟨xc.exm, fun a ha => ⟨dd, C, rfl, rfl, fun σ' D hlen hrt => ?_⟩⟩
    refine ⟨[none, some (.exc a dd C ((("tag" : Str)) :: fs.reverse) (.str tag :: xs.reverse))], M2, F, { nx := fun _ _ => False, rt := Qd, ex := fun _ _ _ => False }, ⟨r2, by rw [List.length_set, hlen]; rfl, fun i d hd => ?_⟩, rfl, ?_,
      ⟨fun _ _ _ _ _ _ z => z.elim, by rw [hrt]; exact l1.ext (ex.trans e1), fun _ _ _ _ _ _ z => z.elim, fun _ _ _ _ _ _ z => z.elim, fun _ _ _ _ _ _ _ _ _ _ z => z.elim⟩⟩
    · match i, hd with
      | 1, hd =>
        cases hd
        exact ⟨.ref a, by rw [List.getElem?_set_self (by omega)], rfl, ff, hdd, hM, hfst, hdv⟩
    · refine ⟨((("tag" : Str)) :: fs.reverse), (.str tag :: xs.reverse), 0, .str tag, rfl, xc.xf, xc.tag, by rw [List.findIdx?_cons, if_pos (by decide)], rfl, _, _, rfl, tag, fs, xs, hin, rfl, rfl, hl, ?_, hQ⟩
      show 2 ≤ sizeLine
      omega
section
variable {X : Cx} {W : WX} {x a : Str} {g c P : Addr} {st : Stmt} {N : List Str} {cs : List Value} {XT : List XRow} {wb : WE} {params : Arguments} {body : Expr} {scope : Scope} {lpos pos p : Pos} {j k : Nat}
theorem j_tryF (Fd : DefAt X.K x x st [a] g) (Sg : FnScope N [a] (defScope st)) (hNg : N[0]? = some a) (hva : Vis (defScope st) a) (hG : ∀ cdv, LamX.GivesTo X N x (defScope st) g cdv (defBody st) a (lamQ X) (TTry X.K cs (spFd XT))) (hX : ∀ r ∈ XT, XCls X.K cs r.1)
    (B : LamX.TabB X.base X.mg c P) (hcode : X.env.code = .ref c) (hr : Room j X.A) (hj : k + 2 ≤ j) (L : LamX.LamS X.env.scope scope) (hm : X.mg x = some (.ref g))
    (hbody : ∀ (A : Around) (outer : List Env) (s : Shared) (H : Hp) (E : XK) (f c' : Addr), Room k (A.deeper (LamX.lamEnv X scope s.heap.objs.size f c')) → Takes (LamX.lamCx X A outer s H E scope f c') (WD E) → JE (LamX.lamCx X A outer s H E scope f c') (WD E) body wb)
    (hbind : ∀ (q : Str) (cl : List (Str × Addr)) (pm cv ctv : Value), bindArgs (PySem.W.kla_fn "<lambda>" q params body scope cl pm cv ctv) ⟨[], []⟩ = pure [])
    (hg : Gl X x := by rfl) (hdef : defaultsOf params X.env = ([], []) := by rfl)
    (hdb : (x == ("__debug__" : Str)) = false := by decide) (hd : (a == ("__debug__" : Str)) = false := by decide) (hcd : (a == ("__classdict__" : Str)) = false := by decide) :
    JE X W (.Call (.Name x p) [.Lambda params body scope lpos] [] pos) (wTryF P (lamQ X) XT wb) := by
  obtain ⟨fd, Fn, hb⟩ := Fd.ex
  exact pe_mono (pe_lam1 (t := fun E => liftE X.K (WD E) wb) hg hm Fn hb Sg hNg hva hG B hcode (hr.mono hj) L hdef hbind (fun A outer s H E f c' hr2 => hbody A outer s H E f c' hr2 takes_lam) hdb hd hcd) fun σ H Q h => try_liftF hX h
end
end DL
namespace DL.K03
open PySem PySem.Spec PyProof.Rows L2 RZ
def ns_Shape : List Str := ["own_fields", "own_sources"]
def k_LETTERS : D := .str "abcdefghijklmnopqrstuvwxyz"
def k_MAX_WORD : D := .int 8
def k_OWN_COLUMNS : D := .tup [.str "moment", .str "source"]
/-! ### the text by places -/
def top (i : Nat) : Stmt := PySem.Challenge.pw_mergesight_k03_shapes_refused.main.body.getD i (.Pass ⟨0, 0, 0, 0⟩)
abbrev s_is_listed : Stmt := (top 4)
abbrev N_is_listed : List Str := ["value"]
abbrev P_is_listed : List Str := ["value"]
theorem st_is_listed (a0 : D) : startD N_is_listed [a0] = [some a0] := rfl
theorem sc_is_listed : FnScope N_is_listed P_is_listed (defScope s_is_listed) := ⟨rfl, rfl, rfl, by decide +kernel, rfl, by decide +kernel, by decide +kernel⟩
abbrev s_is_made_of : Stmt := (top 5)
abbrev N_is_made_of : List Str := ["value", "signs", "most", "sign"]
abbrev P_is_made_of : List Str := ["value", "signs", "most"]
theorem st_is_made_of (a0 : D) (a1 : D) (a2 : D) : startD N_is_made_of [a0, a1, a2] = [some a0, some a1, some a2, none] := rfl
theorem sc_is_made_of : FnScope N_is_made_of P_is_made_of (defScope s_is_made_of) := ⟨rfl, rfl, rfl, by decide +kernel, rfl, by decide +kernel, by decide +kernel⟩
abbrev s_is_plain_name : Stmt := (top 6)
abbrev N_is_plain_name : List Str := ["value"]
abbrev P_is_plain_name : List Str := ["value"]
theorem st_is_plain_name (a0 : D) : startD N_is_plain_name [a0] = [some a0] := rfl
theorem sc_is_plain_name : FnScope N_is_plain_name P_is_plain_name (defScope s_is_plain_name) := ⟨rfl, rfl, rfl, by decide +kernel, rfl, by decide +kernel, by decide +kernel⟩
abbrev s_unlike : Stmt := (top 7)
abbrev N_unlike : List Str := ["values"]
abbrev P_unlike : List Str := ["values"]
theorem st_unlike (a0 : D) : startD N_unlike [a0] = [some a0] := rfl
theorem sc_unlike : FnScope N_unlike P_unlike (defScope s_unlike) := ⟨rfl, rfl, rfl, by decide +kernel, rfl, by decide +kernel, by decide +kernel⟩
abbrev s_are_names : Stmt := (top 15)
abbrev N_are_names : List Str := ["value", "most", "name"]
abbrev P_are_names : List Str := ["value", "most"]
theorem st_are_names (a0 : D) (a1 : D) : startD N_are_names [a0, a1] = [some a0, some a1, none] := rfl
theorem sc_are_names : FnScope N_are_names P_are_names (defScope s_are_names) := ⟨rfl, rfl, rfl, by decide +kernel, rfl, by decide +kernel, by decide +kernel⟩
abbrev s_Shape___init__ : Stmt := (inClass (top 16) 2)
abbrev N_Shape___init__ : List Str := ["self", "fields", "sources", "name"]
abbrev P_Shape___init__ : List Str := ["self", "fields", "sources"]
theorem st_Shape___init__ (a0 : D) (a1 : D) (a2 : D) : startD N_Shape___init__ [a0, a1, a2] = [some a0, some a1, some a2, none] := rfl
theorem sc_Shape___init__ : FnScope N_Shape___init__ P_Shape___init__ (defScope s_Shape___init__) := ⟨rfl, rfl, rfl, by decide +kernel, rfl, by decide +kernel, by decide +kernel⟩
abbrev s_Shape_plain : Stmt := (inClass (top 16) 3)
abbrev N_Shape_plain : List Str := ["fields"]
abbrev P_Shape_plain : List Str := ["fields"]
theorem st_Shape_plain (a0 : D) : startD N_Shape_plain [a0] = [some a0] := rfl
theorem sc_Shape_plain : FnScope N_Shape_plain P_Shape_plain (defScope s_Shape_plain) := ⟨rfl, rfl, rfl, by decide +kernel, rfl, by decide +kernel, by decide +kernel⟩
abbrev s__law_opened : Stmt := (top 18)
abbrev N__law_opened : List Str := ["_law_script"]
abbrev P__law_opened : List Str := ["_law_script"]
theorem st__law_opened (a0 : D) : startD N__law_opened [a0] = [some a0] := rfl
theorem sc__law_opened : FnScope N__law_opened P__law_opened (defScope s__law_opened) := ⟨rfl, rfl, rfl, by decide +kernel, rfl, by decide +kernel, by decide +kernel⟩
abbrev s__law_pull : Stmt := (top 19)
abbrev N__law_pull : List Str := ["_law_bag", "_law_many", "_law_cell", "_law_digit", "_law_seed"]
abbrev P__law_pull : List Str := ["_law_bag", "_law_many"]
theorem st__law_pull (a0 : D) (a1 : D) : startD N__law_pull [a0, a1] = [some a0, some a1, none, none, none] := rfl
theorem sc__law_pull : FnScope N__law_pull P__law_pull (defScope s__law_pull) := ⟨rfl, rfl, rfl, by decide +kernel, rfl, by decide +kernel, by decide +kernel⟩
abbrev s__law_any : Stmt := (top 20)
abbrev N__law_any : List Str := ["_law_bag", "_law_things"]
abbrev P__law_any : List Str := ["_law_bag", "_law_things"]
theorem st__law_any (a0 : D) (a1 : D) : startD N__law_any [a0, a1] = [some a0, some a1] := rfl
theorem sc__law_any : FnScope N__law_any P__law_any (defScope s__law_any) := ⟨rfl, rfl, rfl, by decide +kernel, rfl, by decide +kernel, by decide +kernel⟩
abbrev s__law_like : Stmt := (top 21)
abbrev N__law_like : List Str := ["_law_found", "_law_due", "_law_one", "_law_other", "_law_key"]
abbrev P__law_like : List Str := ["_law_found", "_law_due"]
theorem st__law_like (a0 : D) (a1 : D) : startD N__law_like [a0, a1] = [some a0, some a1, none, none, none] := rfl
theorem sc__law_like : FnScope N__law_like P__law_like (defScope s__law_like) := ⟨rfl, rfl, rfl, by decide +kernel, rfl, by decide +kernel, by decide +kernel⟩
abbrev s__law_field : Stmt := (top 22)
abbrev N__law_field : List Str := ["_law_e"]
abbrev P__law_field : List Str := ["_law_e"]
theorem st__law_field (a0 : D) : startD N__law_field [a0] = [some a0] := rfl
theorem sc__law_field : FnScope N__law_field P__law_field (defScope s__law_field) := ⟨rfl, rfl, rfl, by decide +kernel, rfl, by decide +kernel, by decide +kernel⟩
abbrev s__law_stems : Stmt := (top 24)
abbrev N__law_stems : List Str := ["_law_bag", "_law_many", "_law_most", "_law_letters", "_law_left", "_law_signs", "_law_stem", "_law_at", "_law_tail", "_law_even", "_law_found", "_law_sign", "_law_k", "_law_name"]
abbrev P__law_stems : List Str := ["_law_bag", "_law_many", "_law_most"]
theorem st__law_stems (a0 : D) (a1 : D) (a2 : D) : startD N__law_stems [a0, a1, a2] = [some a0, some a1, some a2, none, none, none, none, none, none, none, none, none, none, none] := rfl
theorem sc__law_stems : FnScope N__law_stems P__law_stems (defScope s__law_stems) := ⟨rfl, rfl, rfl, by decide +kernel, rfl, by decide +kernel, by decide +kernel⟩
abbrev s__law_words : Stmt := (top 25)
abbrev N__law_words : List Str := ["_law_bag", "_law_many", "_law_signs", "_law_left", "_law_some", "_law_stem", "_law_at", "_law_tail", "_law_even", "_law_sign", "_law_k"]
abbrev P__law_words : List Str := ["_law_bag", "_law_many"]
theorem st__law_words (a0 : D) (a1 : D) : startD N__law_words [a0, a1] = [some a0, some a1, none, none, none, none, none, none, none, none, none] := rfl
theorem sc__law_words : FnScope N__law_words P__law_words (defScope s__law_words) := ⟨rfl, rfl, rfl, by decide +kernel, rfl, by decide +kernel, by decide +kernel⟩
abbrev s__law_ground : Stmt := (top 26)
abbrev N__law_ground : List Str := ["_law_bag", "_law_fields", "_law_sources"]
abbrev P__law_ground : List Str := ["_law_bag", "_law_fields", "_law_sources"]
theorem st__law_ground (a0 : D) (a1 : D) (a2 : D) : startD N__law_ground [a0, a1, a2] = [some a0, some a1, some a2] := rfl
theorem sc__law_ground : FnScope N__law_ground P__law_ground (defScope s__law_ground) := ⟨rfl, rfl, rfl, by decide +kernel, rfl, by decide +kernel, by decide +kernel⟩
abbrev s__law_spoilt : Stmt := (top 27)
abbrev N__law_spoilt : List Str := ["_law_bag", "_law_names", "_law_own", "_law_at", "_law_odd", "_law_way"]
abbrev P__law_spoilt : List Str := ["_law_bag", "_law_names", "_law_own"]
theorem st__law_spoilt (a0 : D) (a1 : D) (a2 : D) : startD N__law_spoilt [a0, a1, a2] = [some a0, some a1, some a2, none, none, none] := rfl
theorem sc__law_spoilt : FnScope N__law_spoilt P__law_spoilt (defScope s__law_spoilt) := ⟨rfl, rfl, rfl, by decide +kernel, rfl, by decide +kernel, by decide +kernel⟩
abbrev s_law : Stmt := (top 28)
abbrev N_law : List Str := ["_law_script", "_law_bag", "_law_turn", "_law_ground_here", "_law_fields", "_law_sources", "_law_way", "_law_due", "_law_told"]
abbrev P_law : List Str := ["_law_script"]
theorem st_law (a0 : D) : startD N_law [a0] = [some a0, none, none, none, none, none, none, none, none] := rfl
theorem sc_law : FnScope N_law P_law (defScope s_law) := ⟨rfl, rfl, rfl, by decide +kernel, rfl, by decide +kernel, by decide +kernel⟩
abbrev s_InvalidShape___init__ : Stmt := (inClass (top 11) 0)
theorem ns_InvalidShape : NdefX.NScope ["self", "at", "__class__"] ["self", "at"] ["__class__"] (defScope s_InvalidShape___init__) := NdefX.nscope_by (by decide +kernel)
abbrev s__law_try : Stmt := (top 23)
abbrev N__law_try : List Str := ["_law_ask", "_law_e"]
abbrev P__law_try : List Str := ["_law_ask"]
theorem sc__law_try : FnScope N__law_try P__law_try (defScope s__law_try) := ⟨rfl, rfl, rfl, by decide +kernel, rfl, by decide +kernel, by decide +kernel⟩
/-! ### what the top has written -/
structure Ad where
  f_is_listed : Addr
  f_is_made_of : Addr
  f_is_plain_name : Addr
  f_unlike : Addr
  f_are_names : Addr
  f_Shape___init__ : Addr
  f_Shape_plain : Addr
  f__law_opened : Addr
  f__law_pull : Addr
  f__law_any : Addr
  f__law_like : Addr
  f__law_field : Addr
  f__law_stems : Addr
  f__law_words : Addr
  f__law_ground : Addr
  f__law_spoilt : Addr
  f_law : Addr
  c_Shape : Addr
  q_Shape_plain : Addr
  c_InvalidShape : Addr
  f_InvalidShape___init__ : Addr
  f__law_try : Addr
  c_SightError : Addr
  c_Missing : Addr
  c_NothingLeft : Addr
  lc : Addr
  lt : Addr
/-- the classes of the law's own except, the exceptions that it may meet -/
def xcs (A : Ad) : List Value := [.ref A.c_SightError, .ref A.c_Missing, .ref A.c_NothingLeft]
def xt (A : Ad) : List XRow := [(A.c_InvalidShape, "InvalidShape", ["at"])]
abbrev lamq : Str := (("law" : Str) ++ ".<locals>.") ++ "<lambda>"
structure Txt (P : Program) (K : PySem.W.Frag) (mg : Str → Option Value) (A : Ad) : Prop where
  n_all : mg "all" = none
  n_any : mg "any" = none
  n_bool : mg "bool" = none
  n_dict : mg "dict" = none
  n_int : mg "int" = none
  n_isinstance : mg "isinstance" = none
  n_len : mg "len" = none
  n_list : mg "list" = none
  n_range : mg "range" = none
  n_set : mg "set" = none
  n_str : mg "str" = none
  n_tuple : mg "tuple" = none
  n_zip : mg "zip" = none
  k_LETTERS : GK K mg "LETTERS" k_LETTERS
  k_MAX_WORD : GK K mg "MAX_WORD" k_MAX_WORD
  k_OWN_COLUMNS : GK K mg "OWN_COLUMNS" k_OWN_COLUMNS
  g_is_listed : mg "is_listed" = some (.ref A.f_is_listed)
  d_is_listed : DefAt K "is_listed" "is_listed" s_is_listed P_is_listed A.f_is_listed
  g_is_made_of : mg "is_made_of" = some (.ref A.f_is_made_of)
  d_is_made_of : DefAt K "is_made_of" "is_made_of" s_is_made_of P_is_made_of A.f_is_made_of
  g_is_plain_name : mg "is_plain_name" = some (.ref A.f_is_plain_name)
  d_is_plain_name : DefAt K "is_plain_name" "is_plain_name" s_is_plain_name P_is_plain_name A.f_is_plain_name
  g_unlike : mg "unlike" = some (.ref A.f_unlike)
  d_unlike : DefAt K "unlike" "unlike" s_unlike P_unlike A.f_unlike
  g_are_names : mg "are_names" = some (.ref A.f_are_names)
  d_are_names : DefAt K "are_names" "are_names" s_are_names P_are_names A.f_are_names
  d_Shape___init__ : DefAt K "__init__" "Shape.__init__" s_Shape___init__ P_Shape___init__ A.f_Shape___init__
  d_Shape_plain : DefV K "plain" "Shape.plain" s_Shape_plain "fields" A.f_Shape_plain
  g__law_opened : mg "_law_opened" = some (.ref A.f__law_opened)
  d__law_opened : DefAt K "_law_opened" "_law_opened" s__law_opened P__law_opened A.f__law_opened
  g__law_pull : mg "_law_pull" = some (.ref A.f__law_pull)
  d__law_pull : DefAt K "_law_pull" "_law_pull" s__law_pull P__law_pull A.f__law_pull
  g__law_any : mg "_law_any" = some (.ref A.f__law_any)
  d__law_any : DefAt K "_law_any" "_law_any" s__law_any P__law_any A.f__law_any
  g__law_like : mg "_law_like" = some (.ref A.f__law_like)
  d__law_like : DefAt K "_law_like" "_law_like" s__law_like P__law_like A.f__law_like
  g__law_field : mg "_law_field" = some (.ref A.f__law_field)
  d__law_field : DefAt K "_law_field" "_law_field" s__law_field P__law_field A.f__law_field
  g__law_stems : mg "_law_stems" = some (.ref A.f__law_stems)
  d__law_stems : DefAt K "_law_stems" "_law_stems" s__law_stems P__law_stems A.f__law_stems
  g__law_words : mg "_law_words" = some (.ref A.f__law_words)
  d__law_words : DefAt K "_law_words" "_law_words" s__law_words P__law_words A.f__law_words
  g__law_ground : mg "_law_ground" = some (.ref A.f__law_ground)
  d__law_ground : DefAt K "_law_ground" "_law_ground" s__law_ground P__law_ground A.f__law_ground
  g__law_spoilt : mg "_law_spoilt" = some (.ref A.f__law_spoilt)
  d__law_spoilt : DefAt K "_law_spoilt" "_law_spoilt" s__law_spoilt P__law_spoilt A.f__law_spoilt
  g_law : mg "law" = some (.ref A.f_law)
  d_law : DefAt K "law" "law" s_law P_law A.f_law
  g_Shape : mg "Shape" = some (.ref A.c_Shape)
  cl_Shape : Cls K A.c_Shape
  na_Shape_own_fields : NoAttr K A.c_Shape "own_fields"
  na_Shape_own_sources : NoAttr K A.c_Shape "own_sources"
  mk_Shape : Mk K A.c_Shape A.f_Shape___init__
  sm_Shape_plain : SMet K A.c_Shape "plain" A.q_Shape_plain A.f_Shape_plain
  cv_Shape_FIELDS : CVk K A.c_Shape "FIELDS" (.int 5)
  cv_Shape_SOURCES : CVk K A.c_Shape "SOURCES" (.int 5)
  n_super : mg "super" = none
  g_InvalidShape : mg "InvalidShape" = some (.ref A.c_InvalidShape)
  x_InvalidShape : ExC P K "InvalidShape.__init__" s_InvalidShape___init__ A.c_InvalidShape A.f_InvalidShape___init__
  nf_InvalidShape_at : PySem.W.findIn K (.ref A.c_InvalidShape) "at" = some none
  nf_InvalidShape_tag : PySem.W.findIn K (.ref A.c_InvalidShape) "tag" = some none
  g_SightError : mg "SightError" = some (.ref A.c_SightError)
  g_Missing : mg "Missing" = some (.ref A.c_Missing)
  g_NothingLeft : mg "NothingLeft" = some (.ref A.c_NothingLeft)
  xm_InvalidShape : PySem.W.exmAny K (.ref A.c_InvalidShape) (xcs A) = some true
  g__law_try : mg "_law_try" = some (.ref A.f__law_try)
  d__law_try : DefAt K "_law_try" "_law_try" s__law_try P__law_try A.f__law_try
theorem xj_InvalidShape {P : Program} {w : World} {K : PySem.W.Frag} {mg : Str → Option Value} {base : Heap} {A : Ad} (T : Txt P K mg A) : XJ P w K mg base A.c_InvalidShape A.f_InvalidShape___init__ ["at"] "InvalidShape" :=
  exc_1 T.x_InvalidShape T.nf_InvalidShape_at T.nf_InvalidShape_tag ns_InvalidShape T.n_super rfl rfl (fun _ _ _ => ⟨⟨_, rfl⟩, rfl, rfl⟩) rfl rfl (fun _ _ _ _ _ _ _ us h => match us, h with | [_, _], _ => rfl) (by decide) (by decide)
theorem xt_ok {P : Program} {K : PySem.W.Frag} {mg : Str → Option Value} {A : Ad} (T : Txt P K mg A) : ∀ r ∈ xt A, XCls K (xcs A) r.1 := by
  intro r h
  simp only [xt, List.mem_cons, List.not_mem_nil, or_false] at h
  rcases h with rfl
  · exact ⟨T.xm_InvalidShape, T.x_InvalidShape.xf, T.nf_InvalidShape_tag⟩
/-! ### is_number, is_listed -/
/-- a value that is no object of its own -/
def pl : D → Bool
  | .ref _ => false
  | .ins _ _ _ => false
  | .ty _ => false
  | .scr _ => false
  | .tpn _ => false
  | .exc _ _ _ _ _ => false
  | _ => true
theorem pl_ty {d : D} {M : Mem} (h : pl d = true) : ∃ n, tyN M d = some n := by
  cases d <;> first | exact ⟨_, rfl⟩ | cases h
def isNum : D → Bool
  | .int _ => true
  | _ => false
def isSeq : D → Bool
  | .tup _ => true
  | .lst _ => true
  | _ => false
def isStr : D → Bool
  | .str _ => true
  | _ => false
def sp_is_listed (A : Ad) : SpD := fun ds M Q _ => ∃ d, ds = [d] ∧ pl d = true ∧ Q (.bl (isSeq d)) M
def wb_is_listed (A : Ad) : WS :=
  (wRet (wIsT ["list", "tuple"] (wVar 0)))
theorem bd_is_listed {P : Program} {w : World} {K : PySem.W.Frag} {mg : Str → Option Value} {base : Heap} {A : Ad} (T : Txt P K mg A) (cdv : Value) (R : Around) (outer : List Env) (s : Shared) (H : Hp) (E : XK) (hr : Room 0 (R.deeper (envOfC "is_listed" (defScope s_is_listed) s.heap.objs.size A.f_is_listed cdv)))
    (tk : Takes (cxOf (L2.CX P w) P w K mg base N_is_listed "is_listed" (defScope s_is_listed) A.f_is_listed cdv R outer s H E) (WD E)) : JSs (cxOf (L2.CX P w) P w K mg base N_is_listed "is_listed" (defScope s_is_listed) A.f_is_listed cdv R outer s H E) (WD E) (defBody s_is_listed) (wb_is_listed A) :=
  (js_one (js_ret (j_isiT T.n_isinstance (jv 0) (pcs_cons (pe_bltn rfl T.n_list bo_list rfl) (pcs_cons (pe_bltn rfl T.n_tuple bo_tuple rfl) pcs_nil)))))
theorem rd_is_listed (A : Ad) : ∀ ds M Q Xc, sp_is_listed A ds M Q Xc → ds.length = P_is_listed.length ∧ wb_is_listed A { nx := fun _ M => Fin Q .non M, rt := Fin Q, ex := fun x _ M => Xc x M } (startD N_is_listed ds) M := by
  rintro _ M Q Xc ⟨d, rfl, hp, q⟩
  refine ⟨rfl, ?_⟩
  rw [st_is_listed]
  cases d <;> try exact absurd hp Bool.false_ne_true
  all_goals simp only [wb_is_listed, wipeD, wNx, wSeq_p, seqE_nx, seqE_rt, seqE_bk, seqE_ct, seqE_ex, wIf, wRet, wRetN, wDrop, wAsg, wBrk, wCnt, wVar, wGet, wC, wOp, wUn, wCB, wNil, wCons, wTest, wAndT, wOrT, wNotT, wAndV, wOrV, wNotV, wIfE, wChain, wTup, wLst, wLstO, wCall, wMeth, wFld, wFst, wCv, wProp, wMake, wSl, wNo, wSome, intK, isBl, gN, gT, gCons', gNil', wSub, wAug, wPar, wBM, wIsT, wFor, wLc, wLcO, wYes, wiSeq, wiStr, wiRng1, wiRng2, wiZip, wFz, frz_lst, frz_tup, at1_0, at2_0, at2_1, at3_0, at3_1, at3_2, at4_0, at4_1, at4_2, at4_3, at5_0, at5_1, at5_2, at5_3, at5_4, seqOf_put, ED.xc, rIxD, rLenD, rIsD, rIntCD, rStrCD, rListD, rListO, rTupD, rAddD, rIntD, rInt0D, rEqD, rIsND, rNegD, rSlD, seqOf_lst, seqOf_tup, optK_some, insK_same, tyN_non, tyN_bl, tyN_int, tyN_str, tyN_tup, tyN_lst, tyN_dct, List.getElem?_cons_zero, List.getElem?_cons_succ, List.set_cons_zero, List.set_cons_succ, List.length_cons, List.length_nil, isB_NoneType_bool, isB_NoneType_int, isB_NoneType_str, isB_NoneType_tuple, isB_NoneType_list, isB_NoneType_dict, isB_bool_bool, isB_bool_int, isB_bool_str, isB_bool_tuple, isB_bool_list, isB_bool_dict, isB_int_bool, isB_int_int, isB_int_str, isB_int_tuple, isB_int_list, isB_int_dict, isB_str_bool, isB_str_int, isB_str_str, isB_str_tuple, isB_str_list, isB_str_dict, isB_tuple_bool, isB_tuple_int, isB_tuple_str, isB_tuple_tuple, isB_tuple_list, isB_tuple_dict, isB_list_bool, isB_list_int, isB_list_str, isB_list_tuple, isB_list_list, isB_list_dict, isB_dict_bool, isB_dict_int, isB_dict_str, isB_dict_tuple, isB_dict_list, isB_dict_dict, isC_bool, isC_int, isC_str, isC_tuple, isC_list, isC_dict, isA_list_tuple, isQ_NoneType, isQ_bool, isQ_int, isQ_str, isQ_tuple, isQ_list, isQ_dict, true_and, and_true, ↓reduceIte, Bool.not_true, Bool.not_false, Bool.false_eq_true, Bool.true_xor, Bool.false_xor]
  all_goals exact fin_of q
theorem ok_is_listed {P : Program} {w : World} {K : PySem.W.Frag} {mg : Str → Option Value} {base : Heap} {A : Ad} (T : Txt P K mg A) : FnJ P w K mg base 1 A.f_is_listed (sp_is_listed A) :=
  FnJ.mkAt T.d_is_listed sc_is_listed (fun cdv R outer s H E hr tk => bd_is_listed T cdv R outer s H E hr tk) (rd_is_listed A)
def allIn (x sg : Str) : Bool := x.cps.toList.all fun c => decide (c ∈ sg.cps.toList)
def madeOf (sg : Str) (m : Int) : D → Bool
  | .str x => decide ((1 : Int) ≤ x.length) && (decide ((x.length : Int) ≤ m) && allIn x sg)
  | _ => false
def short : D → Prop
  | .str x => x.length < 90000
  | .lst xs => xs.length < 3000
  | .tup xs => xs.length < 3000
  | _ => True
def sp_is_made_of (A : Ad) : SpD := fun ds M Q _ => ∃ d sg m, ds = [d, .str sg, .int m] ∧ pl d = true ∧ short d ∧ Q (.bl (madeOf sg m d)) M
def wb_is_made_of (A : Ad) : WS :=
  (wRet (wAndV (wCB rIsD (wCons (wVar 0) (wCons (wC (.ty "str")) wNil))) (wAndV (wChain (rInt0D fun i j => .bl (decide (i ≤ j))) (rInt0D fun i j => .bl (decide (i ≤ j))) (wC (.int 1)) (wCB rLenD (wCons (wVar 0) wNil)) (wVar 2)) (wCB (rAllD false) (wCons (wLc (wiStr (wVar 0)) (gN 3) wYes (wOp (rInD false) (wVar 3) (wVar 1)) [3]) wNil)))))
theorem bd_is_made_of {P : Program} {w : World} {K : PySem.W.Frag} {mg : Str → Option Value} {base : Heap} {A : Ad} (T : Txt P K mg A) (cdv : Value) (R : Around) (outer : List Env) (s : Shared) (H : Hp) (E : XK) (hr : Room 0 (R.deeper (envOfC "is_made_of" (defScope s_is_made_of) s.heap.objs.size A.f_is_made_of cdv)))
    (tk : Takes (cxOf (L2.CX P w) P w K mg base N_is_made_of "is_made_of" (defScope s_is_made_of) A.f_is_made_of cdv R outer s H E) (WD E)) : JSs (cxOf (L2.CX P w) P w K mg base N_is_made_of "is_made_of" (defScope s_is_made_of) A.f_is_made_of cdv R outer s H E) (WD E) (defBody s_is_made_of) (wb_is_made_of A) :=
  (js_one (js_ret (j_and (j_callB cd_isi T.n_isinstance bo_isinstance (j_cons (jv 0) (j_cons (j_bltn T.n_str bo_str) j_nil))) (j_and (j_chain od_le od_le j_int (j_callB cd_len T.n_len bo_len (j_cons (jv 0) j_nil)) (jv 2)) (j_one (j_callB (cd_all rfl) T.n_all bo_all (j_cons (j_lc (own := [("sign", 3)]) rfl sc_is_made_of.nd (ji_str (jv 0)) (blkOk_by (own := [("sign", 3)]) (N := N_is_made_of) (sc := defScope s_is_made_of) (by decide +kernel)) (fun _ _ _ _ _ => (jg_name (i := 3) sc_is_made_of.nd)) (fun _ _ _ _ _ => jts_nil) (fun _ _ _ _ _ => (j_cmp od_in (jv 3) (jv 1)))) j_nil)))))))
theorem rd_is_made_of (A : Ad) : ∀ ds M Q Xc, sp_is_made_of A ds M Q Xc → ds.length = P_is_made_of.length ∧ wb_is_made_of A { nx := fun _ M => Fin Q .non M, rt := Fin Q, ex := fun x _ M => Xc x M } (startD N_is_made_of ds) M := by
  rintro _ M Q Xc ⟨d, sg, m, rfl, hp, hl, q⟩
  refine ⟨rfl, ?_⟩
  rw [st_is_made_of]
  cases d <;> try exact absurd hp Bool.false_ne_true
  case str x =>
    have hx : x.length < 90000 := hl
    have := sizeLine_big
    simp only [wb_is_made_of, wipeD, wNx, wSeq_p, seqE_nx, seqE_rt, seqE_bk, seqE_ct, seqE_ex, wIf, wRet, wRetN, wDrop, wAsg, wBrk, wCnt, wVar, wGet, wC, wOp, wUn, wCB, wNil, wCons, wTest, wAndT, wOrT, wNotT, wAndV, wOrV, wNotV, wIfE, wChain, wTup, wLst, wLstO, wCall, wMeth, wFld, wFst, wCv, wProp, wMake, wSl, wNo, wSome, intK, isBl, gN, gT, gCons', gNil', wSub, wAug, wPar, wBM, wIsT, wFor, wLc, wLcO, wYes, wiSeq, wiStr, wiRng1, wiRng2, wiZip, wFz, frz_lst, frz_tup, at1_0, at2_0, at2_1, at3_0, at3_1, at3_2, at4_0, at4_1, at4_2, at4_3, at5_0, at5_1, at5_2, at5_3, at5_4, seqOf_put, ED.xc, rIxD, rLenD, rIsD, rIntCD, rStrCD, rListD, rListO, rTupD, rAddD, rIntD, rInt0D, rEqD, rIsND, rNegD, rSlD, seqOf_lst, seqOf_tup, optK_some, insK_same, tyN_non, tyN_bl, tyN_int, tyN_str, tyN_tup, tyN_lst, tyN_dct, List.getElem?_cons_zero, List.getElem?_cons_succ, List.set_cons_zero, List.set_cons_succ, List.length_cons, List.length_nil, isB_NoneType_bool, isB_NoneType_int, isB_NoneType_str, isB_NoneType_tuple, isB_NoneType_list, isB_NoneType_dict, isB_bool_bool, isB_bool_int, isB_bool_str, isB_bool_tuple, isB_bool_list, isB_bool_dict, isB_int_bool, isB_int_int, isB_int_str, isB_int_tuple, isB_int_list, isB_int_dict, isB_str_bool, isB_str_int, isB_str_str, isB_str_tuple, isB_str_list, isB_str_dict, isB_tuple_bool, isB_tuple_int, isB_tuple_str, isB_tuple_tuple, isB_tuple_list, isB_tuple_dict, isB_list_bool, isB_list_int, isB_list_str, isB_list_tuple, isB_list_list, isB_list_dict, isB_dict_bool, isB_dict_int, isB_dict_str, isB_dict_tuple, isB_dict_list, isB_dict_dict, isC_bool, isC_int, isC_str, isC_tuple, isC_list, isC_dict, isA_list_tuple, isQ_NoneType, isQ_bool, isQ_int, isQ_str, isQ_tuple, isQ_list, isQ_dict, true_and, and_true, ↓reduceIte, Bool.not_true, Bool.not_false, Bool.false_eq_true, Bool.true_xor, Bool.false_xor]
    refine ⟨by omega, ?_⟩
    have e : madeOf sg m (.str x) = (decide ((1 : Int) ≤ x.length) && (decide ((x.length : Int) ≤ m) && allIn x sg)) := rfl
    rw [e] at q
    by_cases h1 : (1 : Int) ≤ x.length
    · by_cases h2 : (x.length : Int) ≤ m
      · simp only [h1, h2, decide_true, ↓reduceIte, Bool.true_and] at q ⊢
        have hz : x.cps.toList.length = x.length := Array.length_toList
        refine lcR_mapL (fun c => .str ⟨#[c]⟩) (fun c => .bl (decide (c ∈ sg.cps.toList))) (fun _ => True) (fun c acc R _ h => ?_) x.cps.toList [] (fun _ _ => trivial) (by rw [hz]; simp only [List.length_nil]; omega) ?_
        · simp only [wipeD, wNx, wSeq_p, seqE_nx, seqE_rt, seqE_bk, seqE_ct, seqE_ex, wIf, wRet, wRetN, wDrop, wAsg, wBrk, wCnt, wVar, wGet, wC, wOp, wUn, wCB, wNil, wCons, wTest, wAndT, wOrT, wNotT, wAndV, wOrV, wNotV, wIfE, wChain, wTup, wLst, wLstO, wCall, wMeth, wFld, wFst, wCv, wProp, wMake, wSl, wNo, wSome, intK, isBl, gN, gT, gCons', gNil', wSub, wAug, wPar, wBM, wIsT, wFor, wLc, wLcO, wYes, wiSeq, wiStr, wiRng1, wiRng2, wiZip, wFz, frz_lst, frz_tup, at1_0, at2_0, at2_1, at3_0, at3_1, at3_2, at4_0, at4_1, at4_2, at4_3, at5_0, at5_1, at5_2, at5_3, at5_4, seqOf_put, ED.xc, rIxD, rLenD, rIsD, rIntCD, rStrCD, rListD, rListO, rTupD, rAddD, rIntD, rInt0D, rEqD, rIsND, rNegD, rSlD, seqOf_lst, seqOf_tup, optK_some, insK_same, tyN_non, tyN_bl, tyN_int, tyN_str, tyN_tup, tyN_lst, tyN_dct, List.getElem?_cons_zero, List.getElem?_cons_succ, List.set_cons_zero, List.set_cons_succ, List.length_cons, List.length_nil, isB_NoneType_bool, isB_NoneType_int, isB_NoneType_str, isB_NoneType_tuple, isB_NoneType_list, isB_NoneType_dict, isB_bool_bool, isB_bool_int, isB_bool_str, isB_bool_tuple, isB_bool_list, isB_bool_dict, isB_int_bool, isB_int_int, isB_int_str, isB_int_tuple, isB_int_list, isB_int_dict, isB_str_bool, isB_str_int, isB_str_str, isB_str_tuple, isB_str_list, isB_str_dict, isB_tuple_bool, isB_tuple_int, isB_tuple_str, isB_tuple_tuple, isB_tuple_list, isB_tuple_dict, isB_list_bool, isB_list_int, isB_list_str, isB_list_tuple, isB_list_list, isB_list_dict, isB_dict_bool, isB_dict_int, isB_dict_str, isB_dict_tuple, isB_dict_list, isB_dict_dict, isC_bool, isC_int, isC_str, isC_tuple, isC_list, isC_dict, isA_list_tuple, isQ_NoneType, isQ_bool, isQ_int, isQ_str, isQ_tuple, isQ_list, isQ_dict, true_and, and_true, ↓reduceIte, Bool.not_true, Bool.not_false, Bool.false_eq_true, Bool.true_xor, Bool.false_xor, rInD, oneSign]
          exact h
        · rw [List.nil_append]
          simp only [rAllD, bools_map, optK, Bool.false_eq_true, ↓reduceIte]
          rw [List.all_map]
          exact fin_of q
      · simp only [h1, h2, decide_true, decide_false, ↓reduceIte, Bool.true_and, Bool.false_and, Bool.false_eq_true] at q ⊢
        exact fin_of q
    · simp only [h1, decide_false, ↓reduceIte, Bool.false_and, Bool.false_eq_true] at q ⊢
      exact fin_of q
  all_goals simp only [wb_is_made_of, wipeD, wNx, wSeq_p, seqE_nx, seqE_rt, seqE_bk, seqE_ct, seqE_ex, wIf, wRet, wRetN, wDrop, wAsg, wBrk, wCnt, wVar, wGet, wC, wOp, wUn, wCB, wNil, wCons, wTest, wAndT, wOrT, wNotT, wAndV, wOrV, wNotV, wIfE, wChain, wTup, wLst, wLstO, wCall, wMeth, wFld, wFst, wCv, wProp, wMake, wSl, wNo, wSome, intK, isBl, gN, gT, gCons', gNil', wSub, wAug, wPar, wBM, wIsT, wFor, wLc, wLcO, wYes, wiSeq, wiStr, wiRng1, wiRng2, wiZip, wFz, frz_lst, frz_tup, at1_0, at2_0, at2_1, at3_0, at3_1, at3_2, at4_0, at4_1, at4_2, at4_3, at5_0, at5_1, at5_2, at5_3, at5_4, seqOf_put, ED.xc, rIxD, rLenD, rIsD, rIntCD, rStrCD, rListD, rListO, rTupD, rAddD, rIntD, rInt0D, rEqD, rIsND, rNegD, rSlD, seqOf_lst, seqOf_tup, optK_some, insK_same, tyN_non, tyN_bl, tyN_int, tyN_str, tyN_tup, tyN_lst, tyN_dct, List.getElem?_cons_zero, List.getElem?_cons_succ, List.set_cons_zero, List.set_cons_succ, List.length_cons, List.length_nil, isB_NoneType_bool, isB_NoneType_int, isB_NoneType_str, isB_NoneType_tuple, isB_NoneType_list, isB_NoneType_dict, isB_bool_bool, isB_bool_int, isB_bool_str, isB_bool_tuple, isB_bool_list, isB_bool_dict, isB_int_bool, isB_int_int, isB_int_str, isB_int_tuple, isB_int_list, isB_int_dict, isB_str_bool, isB_str_int, isB_str_str, isB_str_tuple, isB_str_list, isB_str_dict, isB_tuple_bool, isB_tuple_int, isB_tuple_str, isB_tuple_tuple, isB_tuple_list, isB_tuple_dict, isB_list_bool, isB_list_int, isB_list_str, isB_list_tuple, isB_list_list, isB_list_dict, isB_dict_bool, isB_dict_int, isB_dict_str, isB_dict_tuple, isB_dict_list, isB_dict_dict, isC_bool, isC_int, isC_str, isC_tuple, isC_list, isC_dict, isA_list_tuple, isQ_NoneType, isQ_bool, isQ_int, isQ_str, isQ_tuple, isQ_list, isQ_dict, true_and, and_true, ↓reduceIte, Bool.not_true, Bool.not_false, Bool.false_eq_true, Bool.true_xor, Bool.false_xor]
  all_goals exact fin_of q
theorem ok_is_made_of {P : Program} {w : World} {K : PySem.W.Frag} {mg : Str → Option Value} {base : Heap} {A : Ad} (T : Txt P K mg A) : FnJ P w K mg base 1 A.f_is_made_of (sp_is_made_of A) :=
  FnJ.mkAt T.d_is_made_of sc_is_made_of (fun cdv R outer s H E hr tk => bd_is_made_of T cdv R outer s H E hr tk) (rd_is_made_of A)
def LET : Str := "abcdefghijklmnopqrstuvwxyz"
def L36 : Str := ("abcdefghijklmnopqrstuvwxyz" : Str) ++ ("0123456789" : Str)
def sp_is_plain_name (A : Ad) : SpD := fun ds M Q _ => ∃ d, ds = [d] ∧ pl d = true ∧ short d ∧ Q (.bl (madeOf LET 8 d)) M
def wb_is_plain_name (A : Ad) : WS :=
  (wRet (wCall (sp_is_made_of A) (wCons (wVar 0) (wCons (wC k_LETTERS) (wCons (wC k_MAX_WORD) wNil)))))
theorem bd_is_plain_name {P : Program} {w : World} {K : PySem.W.Frag} {mg : Str → Option Value} {base : Heap} {A : Ad} (T : Txt P K mg A) (cdv : Value) (R : Around) (outer : List Env) (s : Shared) (H : Hp) (E : XK) (hr : Room 1 (R.deeper (envOfC "is_plain_name" (defScope s_is_plain_name) s.heap.objs.size A.f_is_plain_name cdv)))
    (tk : Takes (cxOf (L2.CX P w) P w K mg base N_is_plain_name "is_plain_name" (defScope s_is_plain_name) A.f_is_plain_name cdv R outer s H E) (WD E)) : JSs (cxOf (L2.CX P w) P w K mg base N_is_plain_name "is_plain_name" (defScope s_is_plain_name) A.f_is_plain_name cdv R outer s H E) (WD E) (defBody s_is_plain_name) (wb_is_plain_name A) :=
  (js_one (js_ret (j_call (ok_is_made_of T) hr (by decide) T.g_is_made_of tk (j_cons (jv 0) (j_cons (j_k T.k_LETTERS) (j_cons (j_k T.k_MAX_WORD) j_nil))))))
theorem rd_is_plain_name (A : Ad) : ∀ ds M Q Xc, sp_is_plain_name A ds M Q Xc → ds.length = P_is_plain_name.length ∧ wb_is_plain_name A { nx := fun _ M => Fin Q .non M, rt := Fin Q, ex := fun x _ M => Xc x M } (startD N_is_plain_name ds) M := by
  rintro _ M Q Xc ⟨d, rfl, hp, hl, q⟩
  refine ⟨rfl, ?_⟩
  rw [st_is_plain_name]
  simp only [wb_is_plain_name, wipeD, wNx, wSeq_p, seqE_nx, seqE_rt, seqE_bk, seqE_ct, seqE_ex, wIf, wRet, wRetN, wDrop, wAsg, wBrk, wCnt, wVar, wGet, wC, wOp, wUn, wCB, wNil, wCons, wTest, wAndT, wOrT, wNotT, wAndV, wOrV, wNotV, wIfE, wChain, wTup, wLst, wLstO, wCall, wMeth, wFld, wFst, wCv, wProp, wMake, wSl, wNo, wSome, intK, isBl, gN, gT, gCons', gNil', wSub, wAug, wPar, wBM, wIsT, wFor, wLc, wLcO, wYes, wiSeq, wiStr, wiRng1, wiRng2, wiZip, wFz, frz_lst, frz_tup, at1_0, at2_0, at2_1, at3_0, at3_1, at3_2, at4_0, at4_1, at4_2, at4_3, at5_0, at5_1, at5_2, at5_3, at5_4, seqOf_put, ED.xc, rIxD, rLenD, rIsD, rIntCD, rStrCD, rListD, rListO, rTupD, rAddD, rIntD, rInt0D, rEqD, rIsND, rNegD, rSlD, seqOf_lst, seqOf_tup, optK_some, insK_same, tyN_non, tyN_bl, tyN_int, tyN_str, tyN_tup, tyN_lst, tyN_dct, List.getElem?_cons_zero, List.getElem?_cons_succ, List.set_cons_zero, List.set_cons_succ, List.length_cons, List.length_nil, isB_NoneType_bool, isB_NoneType_int, isB_NoneType_str, isB_NoneType_tuple, isB_NoneType_list, isB_NoneType_dict, isB_bool_bool, isB_bool_int, isB_bool_str, isB_bool_tuple, isB_bool_list, isB_bool_dict, isB_int_bool, isB_int_int, isB_int_str, isB_int_tuple, isB_int_list, isB_int_dict, isB_str_bool, isB_str_int, isB_str_str, isB_str_tuple, isB_str_list, isB_str_dict, isB_tuple_bool, isB_tuple_int, isB_tuple_str, isB_tuple_tuple, isB_tuple_list, isB_tuple_dict, isB_list_bool, isB_list_int, isB_list_str, isB_list_tuple, isB_list_list, isB_list_dict, isB_dict_bool, isB_dict_int, isB_dict_str, isB_dict_tuple, isB_dict_list, isB_dict_dict, isC_bool, isC_int, isC_str, isC_tuple, isC_list, isC_dict, isA_list_tuple, isQ_NoneType, isQ_bool, isQ_int, isQ_str, isQ_tuple, isQ_list, isQ_dict, true_and, and_true, ↓reduceIte, Bool.not_true, Bool.not_false, Bool.false_eq_true, Bool.true_xor, Bool.false_xor]
  exact ⟨d, LET, 8, rfl, hp, hl, fin_of q⟩
theorem ok_is_plain_name {P : Program} {w : World} {K : PySem.W.Frag} {mg : Str → Option Value} {base : Heap} {A : Ad} (T : Txt P K mg A) : FnJ P w K mg base 2 A.f_is_plain_name (sp_is_plain_name A) :=
  FnJ.mkAt T.d_is_plain_name sc_is_plain_name (fun cdv R outer s H E hr tk => bd_is_plain_name T cdv R outer s H E hr tk) (rd_is_plain_name A)
def dist (ks : List Key) : Bool := decide ((metK ks ks.length).length = ks.length)
theorem dist_iff {ks : List Key} : dist ks = true ↔ ks.Nodup := by
  unfold dist
  rw [decide_eq_true_iff]
  have h := metK_nodup ks ks.length (Nat.le_refl _)
  rw [List.take_length] at h
  exact h
theorem keysD_len : ∀ {ds : List D} {ks : List Key}, keysD ds = some ks → ks.length = ds.length
  | [], ks, h => by cases h; rfl
  | d :: ds, ks, h => by
    unfold keysD at h
    split at h
    · cases q : keysD ds with
      | none => rw [q] at h; cases h
      | some js => rw [q] at h; cases h; rw [List.length_cons, List.length_cons, keysD_len q]
    · cases h
def sp_unlike (A : Ad) : SpD := fun ds M Q _ => ∃ xs ks, (ds = [.lst xs] ∨ ds = [.tup xs]) ∧ keysD xs = some ks ∧ ks.length < 4000 ∧ Q (.bl (dist ks)) M
def wb_unlike (A : Ad) : WS :=
  (wRet (wOp (rEqD false) (wLenSet (wVar 0)) (wCB rLenD (wCons (wVar 0) wNil))))
theorem bd_unlike {P : Program} {w : World} {K : PySem.W.Frag} {mg : Str → Option Value} {base : Heap} {A : Ad} (T : Txt P K mg A) (cdv : Value) (R : Around) (outer : List Env) (s : Shared) (H : Hp) (E : XK) (hr : Room 0 (R.deeper (envOfC "unlike" (defScope s_unlike) s.heap.objs.size A.f_unlike cdv)))
    (tk : Takes (cxOf (L2.CX P w) P w K mg base N_unlike "unlike" (defScope s_unlike) A.f_unlike cdv R outer s H E) (WD E)) : JSs (cxOf (L2.CX P w) P w K mg base N_unlike "unlike" (defScope s_unlike) A.f_unlike cdv R outer s H E) (WD E) (defBody s_unlike) (wb_unlike A) :=
  (js_one (js_ret (j_cmp (od_eq hr.units) (j_lenSet rfl T.n_len T.n_set (jv 0)) (j_callB cd_len T.n_len bo_len (j_cons (jv 0) j_nil)))))
theorem rd_unlike (A : Ad) : ∀ ds M Q Xc, sp_unlike A ds M Q Xc → ds.length = P_unlike.length ∧ wb_unlike A { nx := fun _ M => Fin Q .non M, rt := Fin Q, ex := fun x _ M => Xc x M } (startD N_unlike ds) M := by
  rintro ds M Q Xc ⟨xs, ks, hd, hk, hl, q⟩
  have e : decide (((metK ks ks.length).length : Int) = (ks.length : Int)) = dist ks := by
    unfold dist
    simp only [Int.ofNat_inj]
  rcases hd with rfl | rfl
  all_goals
    refine ⟨rfl, ?_⟩
    rw [st_unlike]
    simp only [wb_unlike, ↓pFau, ↓pFst, ↓pRaise, ↓pPar3, ↓pParK3, ↓rMulS_p, ↓pFmt, ↓pFmtS, ↓pFmtI, ↓pJs0, ↓pJs1, ↓pStrKD, ↓pVar, ↓pGet, ↓pC, ↓pOp, ↓pUn, ↓pCB, ↓pNil, ↓pCons, ↓pTest, ↓pBl, ↓pAndT, ↓pOrT, ↓pNotT, ↓pAndV, ↓pOrV, ↓pNotV, ↓pIfE, ↓pTup, ↓pLst, ↓pLstO, ↓pCall, ↓pMeth, ↓pFld, ↓pProp, ↓pMake, ↓pCv, ↓pSl, ↓pNo, ↓pSome, ↓pIntK, ↓pN, ↓pT, ↓pGC, ↓pGN, ↓pIf, ↓pRet, ↓pRetN, ↓pDrop, ↓pAsg, ↓pNx, ↓pBrk, ↓pCnt, ↓pNever, ↓pSub, ↓pAug, ↓pPar, ↓pParK, ↓pBM, ↓pFor, ↓pLc, ↓pLcO, ↓pYes, ↓piSeq, ↓piStr, ↓pStrK, ↓piRng1, ↓pRng1K, ↓piRng2, ↓pRng2K, ↓piEnum, ↓pEnumK, ↓piZip, ↓pZipL, ↓pZipT, ↓pFz, ↓pLenSet, ↓pIsT, ↓rIx_lst, ↓rIx_tup, ↓rIx_ref, ↓rIx_str, ↓rLen_str, ↓rLen_lst, ↓rLen_tup, ↓rLen_ref, ↓rIs_p, ↓rInt_int, ↓rInt_bl, ↓rStr_int, ↓rList_p, ↓rListO_p, ↓rTup_p, ↓rAdd_int, ↓rAdd_str, ↓rAdd_tup, ↓rAdd_lst, ↓rIntD_p, ↓rInt0_p, ↓rEq_int, ↓rEq_str, ↓rEq_bl, ↓rEq_lst, ↓rEq_tup, ↓rIsN_non, ↓rIsN_bl, ↓rIsN_int, ↓rIsN_str, ↓rIsN_tup, ↓rIsN_lst, ↓rNeg_p, ↓rSl_str, ↓rSl_tup, ↓rSl_lst, ↓rSl_scr, ↓rRep_p, ↓pOptK, ↓pChain, ↓piEnumA, ↓pEnumA_tup, ↓pEnumA_lst, ↓rInV_tup, ↓rInV_lst, ↓rSlN_p, ↓pSlN, ↓pTn, ↓pTnK, ↓pTM, ↓rTidx_p, ↓rLidx_p, ↓rGtL_p, ↓pStar, ↓pIfT, ↓pCallK, ↓pDzip, ↓pDzipK, ↓pDzipO, ↓pDzipKO, ↓rIsB_bl, ↓rDix_str, ↓rDix_int, ↓rIn_tup, ↓rIn_lst, ↓rEq_ns, ↓rEq_sn, ↓rRepT_p, ↓rAll_f, ↓rAll_t, ↓wSeq_p, ↓seqE_nx, ↓reduceIte, at_0, at_1, at_2, at_3, cut_1, cut_2, dl_0_0, dl_0_1, dl_0_2, dl_0_3, dl_0_4, dl_0_5, dl_1_0, dl_1_1, dl_1_2, dl_1_3, dl_1_4, dl_1_5, dl_2_0, dl_2_1, dl_2_2, dl_2_3, dl_2_4, dl_2_5, dl_3_0, dl_3_1, dl_3_2, dl_3_3, dl_3_4, dl_3_5, dl_4_0, dl_4_1, dl_4_2, dl_4_3, dl_4_4, dl_4_5, dn_1_0, dn_2_0, dn_2_1, dn_3_0, dn_3_1, dn_3_2, dn_4_0, dn_4_1, dn_4_2, dn_4_3, seqE_rt, seqE_bk, seqE_ct, seqE_ex, wipeD, frz_lst, frz_tup, at1_0, at2_0, at2_1, at3_0, at3_1, at3_2, at4_0, at4_1, at4_2, at4_3, at5_0, at5_1, at5_2, at5_3, at5_4, seqOf_put, seqOf_lst, seqOf_tup, insK_same, tyN_non, tyN_bl, tyN_int, tyN_str, tyN_tup, tyN_lst, tyN_dct, List.getElem?_cons_zero, List.getElem?_cons_succ, List.set_cons_zero, List.set_cons_succ, List.length_cons, List.length_nil, isB_NoneType_bool, isB_NoneType_int, isB_NoneType_str, isB_NoneType_tuple, isB_NoneType_list, isB_NoneType_dict, isB_bool_bool, isB_bool_int, isB_bool_str, isB_bool_tuple, isB_bool_list, isB_bool_dict, isB_int_bool, isB_int_int, isB_int_str, isB_int_tuple, isB_int_list, isB_int_dict, isB_str_bool, isB_str_int, isB_str_str, isB_str_tuple, isB_str_list, isB_str_dict, isB_tuple_bool, isB_tuple_int, isB_tuple_str, isB_tuple_tuple, isB_tuple_list, isB_tuple_dict, isB_list_bool, isB_list_int, isB_list_str, isB_list_tuple, isB_list_list, isB_list_dict, isB_dict_bool, isB_dict_int, isB_dict_str, isB_dict_tuple, isB_dict_list, isB_dict_dict, isC_bool, isC_int, isC_str, isC_tuple, isC_list, isC_dict, isA_list_tuple, isQ_NoneType, isQ_bool, isQ_int, isQ_str, isQ_tuple, isQ_list, isQ_dict, true_and, and_true, Bool.not_true, Bool.not_false, Bool.false_eq_true, Bool.true_xor, Bool.false_xor, hk]
    refine ⟨hl, ?_⟩
    rw [← keysD_len hk, e]
    exact fin_of q
theorem ok_unlike {P : Program} {w : World} {K : PySem.W.Frag} {mg : Str → Option Value} {base : Heap} {A : Ad} (T : Txt P K mg A) : FnJ P w K mg base 1 A.f_unlike (sp_unlike A) :=
  FnJ.mkAt T.d_unlike sc_unlike (fun cdv R outer s H E hr tk => bd_unlike T cdv R outer s H E hr tk) (rd_unlike A)
structure NamesOk (xs : List Str) : Prop where
  lo : 1 ≤ xs.length
  hi : xs.length ≤ 5
  nd : xs.Nodup
  ok : ∀ x ∈ xs, madeOf LET 8 (.str x) = true
theorem made_len {sg x : Str} {m : Int} (h : madeOf sg m (.str x) = true) : (1 : Int) ≤ x.length ∧ (x.length : Int) ≤ m ∧ allIn x sg = true := by
  have e : madeOf sg m (.str x) = (decide ((1 : Int) ≤ x.length) && (decide ((x.length : Int) ≤ m) && allIn x sg)) := rfl
  rw [e, Bool.and_eq_true, Bool.and_eq_true] at h
  exact ⟨of_decide_eq_true h.1, of_decide_eq_true h.2.1, h.2.2⟩
theorem keysD_strs : ∀ xs : List Str, keysD (xs.map D.str) = some (xs.map Sum.inr)
  | [] => rfl
  | x :: xs => by
    show (keysD (xs.map D.str)).map (Sum.inr x :: ·) = _
    rw [keysD_strs xs]
    rfl
theorem dist_strs {xs : List Str} (h : xs.Nodup) : dist (xs.map Sum.inr) = true := dist_iff.mpr (List.Pairwise.map _ (fun a b hn e => hn (Sum.inr.inj e)) h)
/-! ### data that comes: its size -/
mutual
/-- plain data at most n deep, nowhere long -/
def Nc : D → Nat → Prop
  | .non, _ => True
  | .bl _, _ => True
  | .int _, _ => True
  | .str x, _ => x.length < 90000 ∧ PyData.strOk x = true
  | .tup xs, n => (0 < n ∧ xs.length < 3000) ∧ Ncs xs (n - 1)
  | .lst xs, n => (0 < n ∧ xs.length < 3000) ∧ Ncs xs (n - 1)
  | _, _ => False
def Ncs : List D → Nat → Prop
  | [], _ => True
  | d :: ds, n => Nc d n ∧ Ncs ds n
end
mutual
theorem Nc.dat : ∀ (d : D) (n : Nat), Nc d n → Dat d n
  | .non, n, _ => trivial
  | .bl _, n, _ => trivial
  | .int _, n, _ => trivial
  | .str x, n, h => h.2
  | .tup xs, n, h => ⟨h.1.1, Ncs.dat xs (n - 1) h.2⟩
  | .lst xs, n, h => ⟨h.1.1, Ncs.dat xs (n - 1) h.2⟩
  | .ty _, n, h => h.elim
  | .ref _, n, h => h.elim
  | .dct _ _, n, h => h.elim
  | .ins _ _ _, n, h => h.elim
  | .scr _, n, h => h.elim
  | .tpn _, n, h => h.elim
  | .exc _ _ _ _ _, n, h => h.elim
theorem Ncs.dat : ∀ (ds : List D) (n : Nat), Ncs ds n → Dats ds n
  | [], n, _ => trivial
  | d :: ds, n, h => ⟨Nc.dat d n h.1, Ncs.dat ds n h.2⟩
end
mutual
theorem Nc.mono : ∀ (d : D) (n m : Nat), n ≤ m → Nc d n → Nc d m
  | .non, n, m, _, _ => trivial
  | .bl _, n, m, _, _ => trivial
  | .int _, n, m, _, _ => trivial
  | .str x, n, m, _, h => h
  | .tup xs, n, m, k, h => ⟨⟨by have := h.1.1; omega, h.1.2⟩, Ncs.mono xs (n - 1) (m - 1) (by omega) h.2⟩
  | .lst xs, n, m, k, h => ⟨⟨by have := h.1.1; omega, h.1.2⟩, Ncs.mono xs (n - 1) (m - 1) (by omega) h.2⟩
  | .ty _, n, m, _, h => h.elim
  | .ref _, n, m, _, h => h.elim
  | .dct _ _, n, m, _, h => h.elim
  | .ins _ _ _, n, m, _, h => h.elim
  | .scr _, n, m, _, h => h.elim
  | .tpn _, n, m, _, h => h.elim
  | .exc _ _ _ _ _, n, m, _, h => h.elim
theorem Ncs.mono : ∀ (ds : List D) (n m : Nat), n ≤ m → Ncs ds n → Ncs ds m
  | [], n, m, _, _ => trivial
  | d :: ds, n, m, k, h => ⟨Nc.mono d n m k h.1, Ncs.mono ds n m k h.2⟩
end
theorem Ncs_iff {n : Nat} : ∀ {ds : List D}, Ncs ds n ↔ ∀ d ∈ ds, Nc d n
  | [] => by simp [Ncs]
  | d :: ds => by
    show (Nc d n ∧ Ncs ds n) ↔ _
    rw [Ncs_iff, List.forall_mem_cons]
theorem Nc.pl {d : D} {n : Nat} (h : Nc d n) : pl d = true := by cases d <;> first | rfl | exact h.elim
theorem Nc.short {d : D} {n : Nat} (h : Nc d n) : short d := by
  cases d <;> first | exact h.1 | exact h.1.2 | trivial
/-! ### leaves -/
def leavesD : D → List D
  | .tup [a, b] => leavesD a ++ leavesD b
  | d => [d]
def nsz : D → Nat
  | .tup [a, b] => nsz a + nsz b + 1
  | _ => 1
def nszs (ds : List D) : Nat := (ds.map nsz).sum
def isPair : D → Bool
  | .tup [_, _] => true
  | _ => false
theorem leaves_one {d : D} (h : isPair d = false) : leavesD d = [d] := by
  unfold leavesD
  split
  · cases h
  · rfl
theorem leaves_pos : ∀ d : D, 1 ≤ (leavesD d).length
  | .tup [a, b] => by
    have := leaves_pos a
    simp only [leavesD, List.length_append]
    omega
  | .tup [] => by simp [leavesD]
  | .tup [a] => by simp [leavesD]
  | .tup (a :: b :: c :: ds) => by simp [leavesD]
  | .non => by simp [leavesD]
  | .bl _ => by simp [leavesD]
  | .int _ => by simp [leavesD]
  | .str _ => by simp [leavesD]
  | .ty _ => by simp [leavesD]
  | .ref _ => by simp [leavesD]
  | .lst _ => by simp [leavesD]
  | .dct _ _ => by simp [leavesD]
  | .ins _ _ _ => by simp [leavesD]
  | .scr _ => by simp [leavesD]
  | .tpn _ => by simp [leavesD]
  | .exc _ _ _ _ _ => by simp [leavesD]
theorem nsz_pos : ∀ d : D, 1 ≤ nsz d := fun d => by
  unfold nsz
  split <;> omega
def flv (ws : List D) : List D := ws.reverse.flatMap leavesD
theorem flv_snoc (ws : List D) (d : D) : flv (ws ++ [d]) = leavesD d ++ flv ws := by
  unfold flv
  rw [List.reverse_append, List.reverse_singleton, List.singleton_append, List.flatMap_cons]
theorem flv_len : ∀ ws : List D, ws.length ≤ (flv ws).length
  | [] => Nat.zero_le _
  | d :: ws => by
    have h := flv_len ws
    have := leaves_pos d
    have e : flv (d :: ws) = flv ws ++ leavesD d := by
      unfold flv
      rw [List.reverse_cons, List.flatMap_append, List.flatMap_singleton]
    rw [e, List.length_append, List.length_cons]
    omega
abbrev RD (wb : WS) (Q : KN) (Xc : KX) (ds : SD) (M : Mem) : Prop := wb { nx := fun _ M => Fin Q .non M, rt := Fin Q, ex := fun x _ M => Xc x M } ds M
theorem deq_str {x y : Str} : deq (.str x) (.str y) = decide (x = y) := by
  show (x == y) = _
  by_cases h : x = y
  · subst h; simp
  · simp [h]
theorem inD_strs {x : Str} : ∀ ss : List Str, inD (.str x) (ss.map D.str) = ss.any fun y => decide (y = x)
  | [] => rfl
  | y :: ss => by
    show (deq (.str y) (.str x) || inD (.str x) (ss.map D.str)) = _
    rw [inD_strs ss, deq_str, List.any_cons]
theorem flat_map (ss : List Str) : (ss.map D.str).all flatD = true := by
  rw [List.all_map]
  exact List.all_eq_true.mpr fun _ _ => rfl

/-! ### names judged, whatever they are -/
def lnames (xs : List D) : Bool := decide (1 ≤ xs.length) && (decide (xs.length ≤ 5) && (xs.all (madeOf LET 8) && dist ((keysD xs).getD [])))
def areN : D → Bool
  | .lst xs => lnames xs
  | .tup xs => lnames xs
  | _ => false
theorem names_of {L : Str} {m : Nat} {xs : List D} (h : ∀ x ∈ xs, madeOf L m x = true) : ∃ zs : List Str, xs = zs.map D.str := by
  induction xs with
  | nil => exact ⟨[], rfl⟩
  | cons x xs ih =>
    obtain ⟨zs, rfl⟩ := ih fun y hy => h y (List.mem_cons_of_mem _ hy)
    have hx := h x List.mem_cons_self
    cases x <;> try exact absurd hx Bool.false_ne_true
    rename_i z
    exact ⟨z :: zs, rfl⟩
/-- any value; of a list or a tuple: items without objects, no long text -/
inductive OkV : D → Prop
  | non : OkV .non
  | bl {b : Bool} : OkV (.bl b)
  | int {i : Int} : OkV (.int i)
  | str {x : Str} : OkV (.str x)
  | lst {xs : List D} : (∀ x ∈ xs, pl x = true ∧ short x) → OkV (.lst xs)
  | tup {xs : List D} : (∀ x ∈ xs, pl x = true ∧ short x) → OkV (.tup xs)
def spx_are_names (A : Ad) : SpD := fun ds M Q _ => ∃ v, ds = [v, .int 5] ∧ OkV v ∧ Q (.bl (areN v)) M
abbrev sp_are_names := spx_are_names
def wb_are_names (A : Ad) : WS :=
  (wSeq (wIf (wOrT (wNotT (wTest (wCall (sp_is_listed A) (wCons (wVar 0) wNil)))) (wNotT (wTest (wChain (rInt0D fun i j => .bl (decide (i ≤ j))) (rInt0D fun i j => .bl (decide (i ≤ j))) (wC (.int 1)) (wCB rLenD (wCons (wVar 0) wNil)) (wVar 1)))))
  (wRet (wC (.bl false)))
  wNx)
  (wRet (wAndV (wCB (rAllD false) (wCons (wLc (wiSeq (wVar 0)) (gN 2) wYes (wCall (sp_is_plain_name A) (wCons (wVar 2) wNil)) [2]) wNil)) (wCall (sp_unlike A) (wCons (wVar 0) wNil)))))
theorem bd_are_names {P : Program} {w : World} {K : PySem.W.Frag} {mg : Str → Option Value} {base : Heap} {A : Ad} (T : Txt P K mg A) (cdv : Value) (R : Around) (outer : List Env) (s : Shared) (H : Hp) (E : XK) (hr : Room 2 (R.deeper (envOfC "are_names" (defScope s_are_names) s.heap.objs.size A.f_are_names cdv)))
    (tk : Takes (cxOf (L2.CX P w) P w K mg base N_are_names "are_names" (defScope s_are_names) A.f_are_names cdv R outer s H E) (WD E)) : JSs (cxOf (L2.CX P w) P w K mg base N_are_names "are_names" (defScope s_are_names) A.f_are_names cdv R outer s H E) (WD E) (defBody s_are_names) (wb_are_names A) :=
  (js_cons (js_if (jt_bool (jt_or (jt_not (jt_val (j_call (ok_is_listed T) hr (by decide) T.g_is_listed tk (j_cons (jv 0) j_nil)))) (jt_or1 (jt_not (jt_chain od_le od_le j_int (j_callB cd_len T.n_len bo_len (j_cons (jv 0) j_nil)) (jv 1))))))
  (js_one (js_ret j_bl))
  js_nil)
  (js_one (js_ret (j_and (j_callB (cd_all rfl) T.n_all bo_all (j_cons (j_lc (own := [("name", 2)]) rfl sc_are_names.nd (ji_seq (jv 0)) (blkOk_by (own := [("name", 2)]) (N := N_are_names) (sc := defScope s_are_names) (by decide +kernel)) (fun _ _ _ _ _ => (jg_name (i := 2) sc_are_names.nd)) (fun _ _ _ _ _ => jts_nil) (fun _ _ _ _ _ => (j_call (ok_is_plain_name T) hr (by decide) T.g_is_plain_name tkF (j_cons (jv 2) j_nil)))) j_nil)) (j_one (j_call (ok_unlike T) hr (by decide) T.g_unlike tk (j_cons (jv 0) j_nil)))))))
theorem are_names_l (A : Ad) {v : D} {xs : List D} {M : Mem} {Q : KN} {Xc : KX} (hv : v = .lst xs ∨ v = .tup xs) (h : ∀ x ∈ xs, pl x = true ∧ short x) (q : Q (.bl (lnames xs)) M) :
    RD (wb_are_names A) Q Xc [some v, some (.int 5), none] M := by
  have big := sizeLine_big
  unfold lnames at q
  rcases hv with rfl | rfl
  all_goals
    simp only [RD, wb_are_names, ↓pFau, ↓pFst, ↓pRaise, ↓pPar3, ↓pParK3, ↓rMulS_p, ↓pFmt, ↓pFmtS, ↓pFmtI, ↓pJs0, ↓pJs1, ↓pStrKD, ↓pVar, ↓pGet, ↓pC, ↓pOp, ↓pUn, ↓pCB, ↓pNil, ↓pCons, ↓pTest, ↓pBl, ↓pAndT, ↓pOrT, ↓pNotT, ↓pAndV, ↓pOrV, ↓pNotV, ↓pIfE, ↓pTup, ↓pLst, ↓pLstO, ↓pCall, ↓pMeth, ↓pFld, ↓pProp, ↓pMake, ↓pCv, ↓pSl, ↓pNo, ↓pSome, ↓pIntK, ↓pN, ↓pT, ↓pGC, ↓pGN, ↓pIf, ↓pRet, ↓pRetN, ↓pDrop, ↓pAsg, ↓pNx, ↓pBrk, ↓pCnt, ↓pNever, ↓pSub, ↓pAug, ↓pPar, ↓pParK, ↓pBM, ↓pFor, ↓pLc, ↓pLcO, ↓pYes, ↓piSeq, ↓piStr, ↓pStrK, ↓piRng1, ↓pRng1K, ↓piRng2, ↓pRng2K, ↓piEnum, ↓pEnumK, ↓piZip, ↓pZipL, ↓pZipT, ↓pFz, ↓pLenSet, ↓pIsT, ↓rIx_lst, ↓rIx_tup, ↓rIx_ref, ↓rIx_str, ↓rLen_str, ↓rLen_lst, ↓rLen_tup, ↓rLen_ref, ↓rIs_p, ↓rInt_int, ↓rInt_bl, ↓rStr_int, ↓rList_p, ↓rListO_p, ↓rTup_p, ↓rAdd_int, ↓rAdd_str, ↓rAdd_tup, ↓rAdd_lst, ↓rIntD_p, ↓rInt0_p, ↓rEq_int, ↓rEq_str, ↓rEq_bl, ↓rEq_lst, ↓rEq_tup, ↓rIsN_non, ↓rIsN_bl, ↓rIsN_int, ↓rIsN_str, ↓rIsN_tup, ↓rIsN_lst, ↓rNeg_p, ↓rSl_str, ↓rSl_tup, ↓rSl_lst, ↓rSl_scr, ↓rRep_p, ↓pOptK, ↓pChain, ↓piEnumA, ↓pEnumA_tup, ↓pEnumA_lst, ↓rInV_tup, ↓rInV_lst, ↓rSlN_p, ↓pSlN, ↓pTn, ↓pTnK, ↓pTM, ↓rTidx_p, ↓rLidx_p, ↓rGtL_p, ↓pStar, ↓pIfT, ↓pCallK, ↓pDzip, ↓pDzipK, ↓pDzipO, ↓pDzipKO, ↓rIsB_bl, ↓rDix_str, ↓rDix_int, ↓rIn_tup, ↓rIn_lst, ↓rEq_ns, ↓rEq_sn, ↓rRepT_p, ↓rAll_f, ↓rAll_t, ↓wSeq_p, ↓seqE_nx, ↓reduceIte, at_0, at_1, at_2, at_3, cut_1, cut_2, dl_0_0, dl_0_1, dl_0_2, dl_0_3, dl_0_4, dl_0_5, dl_1_0, dl_1_1, dl_1_2, dl_1_3, dl_1_4, dl_1_5, dl_2_0, dl_2_1, dl_2_2, dl_2_3, dl_2_4, dl_2_5, dl_3_0, dl_3_1, dl_3_2, dl_3_3, dl_3_4, dl_3_5, dl_4_0, dl_4_1, dl_4_2, dl_4_3, dl_4_4, dl_4_5, dn_1_0, dn_2_0, dn_2_1, dn_3_0, dn_3_1, dn_3_2, dn_4_0, dn_4_1, dn_4_2, dn_4_3, seqE_rt, seqE_bk, seqE_ct, seqE_ex, wipeD, frz_lst, frz_tup, at1_0, at2_0, at2_1, at3_0, at3_1, at3_2, at4_0, at4_1, at4_2, at4_3, at5_0, at5_1, at5_2, at5_3, at5_4, seqOf_put, seqOf_lst, seqOf_tup, insK_same, tyN_non, tyN_bl, tyN_int, tyN_str, tyN_tup, tyN_lst, tyN_dct, List.getElem?_cons_zero, List.getElem?_cons_succ, List.set_cons_zero, List.set_cons_succ, List.length_cons, List.length_nil, isB_NoneType_bool, isB_NoneType_int, isB_NoneType_str, isB_NoneType_tuple, isB_NoneType_list, isB_NoneType_dict, isB_bool_bool, isB_bool_int, isB_bool_str, isB_bool_tuple, isB_bool_list, isB_bool_dict, isB_int_bool, isB_int_int, isB_int_str, isB_int_tuple, isB_int_list, isB_int_dict, isB_str_bool, isB_str_int, isB_str_str, isB_str_tuple, isB_str_list, isB_str_dict, isB_tuple_bool, isB_tuple_int, isB_tuple_str, isB_tuple_tuple, isB_tuple_list, isB_tuple_dict, isB_list_bool, isB_list_int, isB_list_str, isB_list_tuple, isB_list_list, isB_list_dict, isB_dict_bool, isB_dict_int, isB_dict_str, isB_dict_tuple, isB_dict_list, isB_dict_dict, isC_bool, isC_int, isC_str, isC_tuple, isC_list, isC_dict, isA_list_tuple, isQ_NoneType, isQ_bool, isQ_int, isQ_str, isQ_tuple, isQ_list, isQ_dict, true_and, and_true, Bool.not_true, Bool.not_false, Bool.false_eq_true, Bool.true_xor, Bool.false_xor]
    refine ⟨_, rfl, rfl, ?_⟩
    simp only [isSeq, ↓pFau, ↓pFst, ↓pRaise, ↓pPar3, ↓pParK3, ↓rMulS_p, ↓pFmt, ↓pFmtS, ↓pFmtI, ↓pJs0, ↓pJs1, ↓pStrKD, ↓pVar, ↓pGet, ↓pC, ↓pOp, ↓pUn, ↓pCB, ↓pNil, ↓pCons, ↓pTest, ↓pBl, ↓pAndT, ↓pOrT, ↓pNotT, ↓pAndV, ↓pOrV, ↓pNotV, ↓pIfE, ↓pTup, ↓pLst, ↓pLstO, ↓pCall, ↓pMeth, ↓pFld, ↓pProp, ↓pMake, ↓pCv, ↓pSl, ↓pNo, ↓pSome, ↓pIntK, ↓pN, ↓pT, ↓pGC, ↓pGN, ↓pIf, ↓pRet, ↓pRetN, ↓pDrop, ↓pAsg, ↓pNx, ↓pBrk, ↓pCnt, ↓pNever, ↓pSub, ↓pAug, ↓pPar, ↓pParK, ↓pBM, ↓pFor, ↓pLc, ↓pLcO, ↓pYes, ↓piSeq, ↓piStr, ↓pStrK, ↓piRng1, ↓pRng1K, ↓piRng2, ↓pRng2K, ↓piEnum, ↓pEnumK, ↓piZip, ↓pZipL, ↓pZipT, ↓pFz, ↓pLenSet, ↓pIsT, ↓rIx_lst, ↓rIx_tup, ↓rIx_ref, ↓rIx_str, ↓rLen_str, ↓rLen_lst, ↓rLen_tup, ↓rLen_ref, ↓rIs_p, ↓rInt_int, ↓rInt_bl, ↓rStr_int, ↓rList_p, ↓rListO_p, ↓rTup_p, ↓rAdd_int, ↓rAdd_str, ↓rAdd_tup, ↓rAdd_lst, ↓rIntD_p, ↓rInt0_p, ↓rEq_int, ↓rEq_str, ↓rEq_bl, ↓rEq_lst, ↓rEq_tup, ↓rIsN_non, ↓rIsN_bl, ↓rIsN_int, ↓rIsN_str, ↓rIsN_tup, ↓rIsN_lst, ↓rNeg_p, ↓rSl_str, ↓rSl_tup, ↓rSl_lst, ↓rSl_scr, ↓rRep_p, ↓pOptK, ↓pChain, ↓piEnumA, ↓pEnumA_tup, ↓pEnumA_lst, ↓rInV_tup, ↓rInV_lst, ↓rSlN_p, ↓pSlN, ↓pTn, ↓pTnK, ↓pTM, ↓rTidx_p, ↓rLidx_p, ↓rGtL_p, ↓pStar, ↓pIfT, ↓pCallK, ↓pDzip, ↓pDzipK, ↓pDzipO, ↓pDzipKO, ↓rIsB_bl, ↓rDix_str, ↓rDix_int, ↓rIn_tup, ↓rIn_lst, ↓rEq_ns, ↓rEq_sn, ↓rRepT_p, ↓rAll_f, ↓rAll_t, ↓wSeq_p, ↓seqE_nx, ↓reduceIte, at_0, at_1, at_2, at_3, cut_1, cut_2, dl_0_0, dl_0_1, dl_0_2, dl_0_3, dl_0_4, dl_0_5, dl_1_0, dl_1_1, dl_1_2, dl_1_3, dl_1_4, dl_1_5, dl_2_0, dl_2_1, dl_2_2, dl_2_3, dl_2_4, dl_2_5, dl_3_0, dl_3_1, dl_3_2, dl_3_3, dl_3_4, dl_3_5, dl_4_0, dl_4_1, dl_4_2, dl_4_3, dl_4_4, dl_4_5, dn_1_0, dn_2_0, dn_2_1, dn_3_0, dn_3_1, dn_3_2, dn_4_0, dn_4_1, dn_4_2, dn_4_3, seqE_rt, seqE_bk, seqE_ct, seqE_ex, wipeD, frz_lst, frz_tup, at1_0, at2_0, at2_1, at3_0, at3_1, at3_2, at4_0, at4_1, at4_2, at4_3, at5_0, at5_1, at5_2, at5_3, at5_4, seqOf_put, seqOf_lst, seqOf_tup, insK_same, tyN_non, tyN_bl, tyN_int, tyN_str, tyN_tup, tyN_lst, tyN_dct, List.getElem?_cons_zero, List.getElem?_cons_succ, List.set_cons_zero, List.set_cons_succ, List.length_cons, List.length_nil, isB_NoneType_bool, isB_NoneType_int, isB_NoneType_str, isB_NoneType_tuple, isB_NoneType_list, isB_NoneType_dict, isB_bool_bool, isB_bool_int, isB_bool_str, isB_bool_tuple, isB_bool_list, isB_bool_dict, isB_int_bool, isB_int_int, isB_int_str, isB_int_tuple, isB_int_list, isB_int_dict, isB_str_bool, isB_str_int, isB_str_str, isB_str_tuple, isB_str_list, isB_str_dict, isB_tuple_bool, isB_tuple_int, isB_tuple_str, isB_tuple_tuple, isB_tuple_list, isB_tuple_dict, isB_list_bool, isB_list_int, isB_list_str, isB_list_tuple, isB_list_list, isB_list_dict, isB_dict_bool, isB_dict_int, isB_dict_str, isB_dict_tuple, isB_dict_list, isB_dict_dict, isC_bool, isC_int, isC_str, isC_tuple, isC_list, isC_dict, isA_list_tuple, isQ_NoneType, isQ_bool, isQ_int, isQ_str, isQ_tuple, isQ_list, isQ_dict, true_and, and_true, Bool.not_true, Bool.not_false, Bool.false_eq_true, Bool.true_xor, Bool.false_xor]
    by_cases h1 : 1 ≤ xs.length
    · have d1 : decide ((1 : Int) ≤ (xs.length : Nat)) = true := decide_eq_true (by omega)
      by_cases h2 : xs.length ≤ 5
      · have d2 : decide (((xs.length : Nat) : Int) ≤ 5) = true := decide_eq_true (by omega)
        rw [decide_eq_true h1, decide_eq_true h2, Bool.true_and, Bool.true_and] at q
        simp only [d1, d2, ↓pFau, ↓pFst, ↓pRaise, ↓pPar3, ↓pParK3, ↓rMulS_p, ↓pFmt, ↓pFmtS, ↓pFmtI, ↓pJs0, ↓pJs1, ↓pStrKD, ↓pVar, ↓pGet, ↓pC, ↓pOp, ↓pUn, ↓pCB, ↓pNil, ↓pCons, ↓pTest, ↓pBl, ↓pAndT, ↓pOrT, ↓pNotT, ↓pAndV, ↓pOrV, ↓pNotV, ↓pIfE, ↓pTup, ↓pLst, ↓pLstO, ↓pCall, ↓pMeth, ↓pFld, ↓pProp, ↓pMake, ↓pCv, ↓pSl, ↓pNo, ↓pSome, ↓pIntK, ↓pN, ↓pT, ↓pGC, ↓pGN, ↓pIf, ↓pRet, ↓pRetN, ↓pDrop, ↓pAsg, ↓pNx, ↓pBrk, ↓pCnt, ↓pNever, ↓pSub, ↓pAug, ↓pPar, ↓pParK, ↓pBM, ↓pFor, ↓pLc, ↓pLcO, ↓pYes, ↓piSeq, ↓piStr, ↓pStrK, ↓piRng1, ↓pRng1K, ↓piRng2, ↓pRng2K, ↓piEnum, ↓pEnumK, ↓piZip, ↓pZipL, ↓pZipT, ↓pFz, ↓pLenSet, ↓pIsT, ↓rIx_lst, ↓rIx_tup, ↓rIx_ref, ↓rIx_str, ↓rLen_str, ↓rLen_lst, ↓rLen_tup, ↓rLen_ref, ↓rIs_p, ↓rInt_int, ↓rInt_bl, ↓rStr_int, ↓rList_p, ↓rListO_p, ↓rTup_p, ↓rAdd_int, ↓rAdd_str, ↓rAdd_tup, ↓rAdd_lst, ↓rIntD_p, ↓rInt0_p, ↓rEq_int, ↓rEq_str, ↓rEq_bl, ↓rEq_lst, ↓rEq_tup, ↓rIsN_non, ↓rIsN_bl, ↓rIsN_int, ↓rIsN_str, ↓rIsN_tup, ↓rIsN_lst, ↓rNeg_p, ↓rSl_str, ↓rSl_tup, ↓rSl_lst, ↓rSl_scr, ↓rRep_p, ↓pOptK, ↓pChain, ↓piEnumA, ↓pEnumA_tup, ↓pEnumA_lst, ↓rInV_tup, ↓rInV_lst, ↓rSlN_p, ↓pSlN, ↓pTn, ↓pTnK, ↓pTM, ↓rTidx_p, ↓rLidx_p, ↓rGtL_p, ↓pStar, ↓pIfT, ↓pCallK, ↓pDzip, ↓pDzipK, ↓pDzipO, ↓pDzipKO, ↓rIsB_bl, ↓rDix_str, ↓rDix_int, ↓rIn_tup, ↓rIn_lst, ↓rEq_ns, ↓rEq_sn, ↓rRepT_p, ↓rAll_f, ↓rAll_t, ↓wSeq_p, ↓seqE_nx, ↓reduceIte, at_0, at_1, at_2, at_3, cut_1, cut_2, dl_0_0, dl_0_1, dl_0_2, dl_0_3, dl_0_4, dl_0_5, dl_1_0, dl_1_1, dl_1_2, dl_1_3, dl_1_4, dl_1_5, dl_2_0, dl_2_1, dl_2_2, dl_2_3, dl_2_4, dl_2_5, dl_3_0, dl_3_1, dl_3_2, dl_3_3, dl_3_4, dl_3_5, dl_4_0, dl_4_1, dl_4_2, dl_4_3, dl_4_4, dl_4_5, dn_1_0, dn_2_0, dn_2_1, dn_3_0, dn_3_1, dn_3_2, dn_4_0, dn_4_1, dn_4_2, dn_4_3, seqE_rt, seqE_bk, seqE_ct, seqE_ex, wipeD, frz_lst, frz_tup, at1_0, at2_0, at2_1, at3_0, at3_1, at3_2, at4_0, at4_1, at4_2, at4_3, at5_0, at5_1, at5_2, at5_3, at5_4, seqOf_put, seqOf_lst, seqOf_tup, insK_same, tyN_non, tyN_bl, tyN_int, tyN_str, tyN_tup, tyN_lst, tyN_dct, List.getElem?_cons_zero, List.getElem?_cons_succ, List.set_cons_zero, List.set_cons_succ, List.length_cons, List.length_nil, isB_NoneType_bool, isB_NoneType_int, isB_NoneType_str, isB_NoneType_tuple, isB_NoneType_list, isB_NoneType_dict, isB_bool_bool, isB_bool_int, isB_bool_str, isB_bool_tuple, isB_bool_list, isB_bool_dict, isB_int_bool, isB_int_int, isB_int_str, isB_int_tuple, isB_int_list, isB_int_dict, isB_str_bool, isB_str_int, isB_str_str, isB_str_tuple, isB_str_list, isB_str_dict, isB_tuple_bool, isB_tuple_int, isB_tuple_str, isB_tuple_tuple, isB_tuple_list, isB_tuple_dict, isB_list_bool, isB_list_int, isB_list_str, isB_list_tuple, isB_list_list, isB_list_dict, isB_dict_bool, isB_dict_int, isB_dict_str, isB_dict_tuple, isB_dict_list, isB_dict_dict, isC_bool, isC_int, isC_str, isC_tuple, isC_list, isC_dict, isA_list_tuple, isQ_NoneType, isQ_bool, isQ_int, isQ_str, isQ_tuple, isQ_list, isQ_dict, true_and, and_true, Bool.not_true, Bool.not_false, Bool.false_eq_true, Bool.true_xor, Bool.false_xor]
        refine (?_ : lcR _ _ _ _ xs _ _ _)
        rw [← List.map_id xs]
        refine lcR_mapL id (fun x => .bl (madeOf LET 8 x)) (fun x => pl x = true ∧ short x) (fun x acc R hx hq => ?_) xs [] h (by simp only [List.length_nil]; omega) ?_
        · simp only [↓pFau, ↓pFst, ↓pRaise, ↓pPar3, ↓pParK3, ↓rMulS_p, ↓pFmt, ↓pFmtS, ↓pFmtI, ↓pJs0, ↓pJs1, ↓pStrKD, ↓pVar, ↓pGet, ↓pC, ↓pOp, ↓pUn, ↓pCB, ↓pNil, ↓pCons, ↓pTest, ↓pBl, ↓pAndT, ↓pOrT, ↓pNotT, ↓pAndV, ↓pOrV, ↓pNotV, ↓pIfE, ↓pTup, ↓pLst, ↓pLstO, ↓pCall, ↓pMeth, ↓pFld, ↓pProp, ↓pMake, ↓pCv, ↓pSl, ↓pNo, ↓pSome, ↓pIntK, ↓pN, ↓pT, ↓pGC, ↓pGN, ↓pIf, ↓pRet, ↓pRetN, ↓pDrop, ↓pAsg, ↓pNx, ↓pBrk, ↓pCnt, ↓pNever, ↓pSub, ↓pAug, ↓pPar, ↓pParK, ↓pBM, ↓pFor, ↓pLc, ↓pLcO, ↓pYes, ↓piSeq, ↓piStr, ↓pStrK, ↓piRng1, ↓pRng1K, ↓piRng2, ↓pRng2K, ↓piEnum, ↓pEnumK, ↓piZip, ↓pZipL, ↓pZipT, ↓pFz, ↓pLenSet, ↓pIsT, ↓rIx_lst, ↓rIx_tup, ↓rIx_ref, ↓rIx_str, ↓rLen_str, ↓rLen_lst, ↓rLen_tup, ↓rLen_ref, ↓rIs_p, ↓rInt_int, ↓rInt_bl, ↓rStr_int, ↓rList_p, ↓rListO_p, ↓rTup_p, ↓rAdd_int, ↓rAdd_str, ↓rAdd_tup, ↓rAdd_lst, ↓rIntD_p, ↓rInt0_p, ↓rEq_int, ↓rEq_str, ↓rEq_bl, ↓rEq_lst, ↓rEq_tup, ↓rIsN_non, ↓rIsN_bl, ↓rIsN_int, ↓rIsN_str, ↓rIsN_tup, ↓rIsN_lst, ↓rNeg_p, ↓rSl_str, ↓rSl_tup, ↓rSl_lst, ↓rSl_scr, ↓rRep_p, ↓pOptK, ↓pChain, ↓piEnumA, ↓pEnumA_tup, ↓pEnumA_lst, ↓rInV_tup, ↓rInV_lst, ↓rSlN_p, ↓pSlN, ↓pTn, ↓pTnK, ↓pTM, ↓rTidx_p, ↓rLidx_p, ↓rGtL_p, ↓pStar, ↓pIfT, ↓pCallK, ↓pDzip, ↓pDzipK, ↓pDzipO, ↓pDzipKO, ↓rIsB_bl, ↓rDix_str, ↓rDix_int, ↓rIn_tup, ↓rIn_lst, ↓rEq_ns, ↓rEq_sn, ↓rRepT_p, ↓rAll_f, ↓rAll_t, ↓wSeq_p, ↓seqE_nx, ↓reduceIte, at_0, at_1, at_2, at_3, cut_1, cut_2, dl_0_0, dl_0_1, dl_0_2, dl_0_3, dl_0_4, dl_0_5, dl_1_0, dl_1_1, dl_1_2, dl_1_3, dl_1_4, dl_1_5, dl_2_0, dl_2_1, dl_2_2, dl_2_3, dl_2_4, dl_2_5, dl_3_0, dl_3_1, dl_3_2, dl_3_3, dl_3_4, dl_3_5, dl_4_0, dl_4_1, dl_4_2, dl_4_3, dl_4_4, dl_4_5, dn_1_0, dn_2_0, dn_2_1, dn_3_0, dn_3_1, dn_3_2, dn_4_0, dn_4_1, dn_4_2, dn_4_3, seqE_rt, seqE_bk, seqE_ct, seqE_ex, wipeD, frz_lst, frz_tup, at1_0, at2_0, at2_1, at3_0, at3_1, at3_2, at4_0, at4_1, at4_2, at4_3, at5_0, at5_1, at5_2, at5_3, at5_4, seqOf_put, seqOf_lst, seqOf_tup, insK_same, tyN_non, tyN_bl, tyN_int, tyN_str, tyN_tup, tyN_lst, tyN_dct, List.getElem?_cons_zero, List.getElem?_cons_succ, List.set_cons_zero, List.set_cons_succ, List.length_cons, List.length_nil, isB_NoneType_bool, isB_NoneType_int, isB_NoneType_str, isB_NoneType_tuple, isB_NoneType_list, isB_NoneType_dict, isB_bool_bool, isB_bool_int, isB_bool_str, isB_bool_tuple, isB_bool_list, isB_bool_dict, isB_int_bool, isB_int_int, isB_int_str, isB_int_tuple, isB_int_list, isB_int_dict, isB_str_bool, isB_str_int, isB_str_str, isB_str_tuple, isB_str_list, isB_str_dict, isB_tuple_bool, isB_tuple_int, isB_tuple_str, isB_tuple_tuple, isB_tuple_list, isB_tuple_dict, isB_list_bool, isB_list_int, isB_list_str, isB_list_tuple, isB_list_list, isB_list_dict, isB_dict_bool, isB_dict_int, isB_dict_str, isB_dict_tuple, isB_dict_list, isB_dict_dict, isC_bool, isC_int, isC_str, isC_tuple, isC_list, isC_dict, isA_list_tuple, isQ_NoneType, isQ_bool, isQ_int, isQ_str, isQ_tuple, isQ_list, isQ_dict, true_and, and_true, Bool.not_true, Bool.not_false, Bool.false_eq_true, Bool.true_xor, Bool.false_xor, id]
          exact ⟨_, rfl, hx.1, hx.2, hq⟩
        · rw [List.nil_append]
          simp only [bools_map, ↓pFau, ↓pFst, ↓pRaise, ↓pPar3, ↓pParK3, ↓rMulS_p, ↓pFmt, ↓pFmtS, ↓pFmtI, ↓pJs0, ↓pJs1, ↓pStrKD, ↓pVar, ↓pGet, ↓pC, ↓pOp, ↓pUn, ↓pCB, ↓pNil, ↓pCons, ↓pTest, ↓pBl, ↓pAndT, ↓pOrT, ↓pNotT, ↓pAndV, ↓pOrV, ↓pNotV, ↓pIfE, ↓pTup, ↓pLst, ↓pLstO, ↓pCall, ↓pMeth, ↓pFld, ↓pProp, ↓pMake, ↓pCv, ↓pSl, ↓pNo, ↓pSome, ↓pIntK, ↓pN, ↓pT, ↓pGC, ↓pGN, ↓pIf, ↓pRet, ↓pRetN, ↓pDrop, ↓pAsg, ↓pNx, ↓pBrk, ↓pCnt, ↓pNever, ↓pSub, ↓pAug, ↓pPar, ↓pParK, ↓pBM, ↓pFor, ↓pLc, ↓pLcO, ↓pYes, ↓piSeq, ↓piStr, ↓pStrK, ↓piRng1, ↓pRng1K, ↓piRng2, ↓pRng2K, ↓piEnum, ↓pEnumK, ↓piZip, ↓pZipL, ↓pZipT, ↓pFz, ↓pLenSet, ↓pIsT, ↓rIx_lst, ↓rIx_tup, ↓rIx_ref, ↓rIx_str, ↓rLen_str, ↓rLen_lst, ↓rLen_tup, ↓rLen_ref, ↓rIs_p, ↓rInt_int, ↓rInt_bl, ↓rStr_int, ↓rList_p, ↓rListO_p, ↓rTup_p, ↓rAdd_int, ↓rAdd_str, ↓rAdd_tup, ↓rAdd_lst, ↓rIntD_p, ↓rInt0_p, ↓rEq_int, ↓rEq_str, ↓rEq_bl, ↓rEq_lst, ↓rEq_tup, ↓rIsN_non, ↓rIsN_bl, ↓rIsN_int, ↓rIsN_str, ↓rIsN_tup, ↓rIsN_lst, ↓rNeg_p, ↓rSl_str, ↓rSl_tup, ↓rSl_lst, ↓rSl_scr, ↓rRep_p, ↓pOptK, ↓pChain, ↓piEnumA, ↓pEnumA_tup, ↓pEnumA_lst, ↓rInV_tup, ↓rInV_lst, ↓rSlN_p, ↓pSlN, ↓pTn, ↓pTnK, ↓pTM, ↓rTidx_p, ↓rLidx_p, ↓rGtL_p, ↓pStar, ↓pIfT, ↓pCallK, ↓pDzip, ↓pDzipK, ↓pDzipO, ↓pDzipKO, ↓rIsB_bl, ↓rDix_str, ↓rDix_int, ↓rIn_tup, ↓rIn_lst, ↓rEq_ns, ↓rEq_sn, ↓rRepT_p, ↓rAll_f, ↓rAll_t, ↓wSeq_p, ↓seqE_nx, ↓reduceIte, at_0, at_1, at_2, at_3, cut_1, cut_2, dl_0_0, dl_0_1, dl_0_2, dl_0_3, dl_0_4, dl_0_5, dl_1_0, dl_1_1, dl_1_2, dl_1_3, dl_1_4, dl_1_5, dl_2_0, dl_2_1, dl_2_2, dl_2_3, dl_2_4, dl_2_5, dl_3_0, dl_3_1, dl_3_2, dl_3_3, dl_3_4, dl_3_5, dl_4_0, dl_4_1, dl_4_2, dl_4_3, dl_4_4, dl_4_5, dn_1_0, dn_2_0, dn_2_1, dn_3_0, dn_3_1, dn_3_2, dn_4_0, dn_4_1, dn_4_2, dn_4_3, seqE_rt, seqE_bk, seqE_ct, seqE_ex, wipeD, frz_lst, frz_tup, at1_0, at2_0, at2_1, at3_0, at3_1, at3_2, at4_0, at4_1, at4_2, at4_3, at5_0, at5_1, at5_2, at5_3, at5_4, seqOf_put, seqOf_lst, seqOf_tup, insK_same, tyN_non, tyN_bl, tyN_int, tyN_str, tyN_tup, tyN_lst, tyN_dct, List.getElem?_cons_zero, List.getElem?_cons_succ, List.set_cons_zero, List.set_cons_succ, List.length_cons, List.length_nil, isB_NoneType_bool, isB_NoneType_int, isB_NoneType_str, isB_NoneType_tuple, isB_NoneType_list, isB_NoneType_dict, isB_bool_bool, isB_bool_int, isB_bool_str, isB_bool_tuple, isB_bool_list, isB_bool_dict, isB_int_bool, isB_int_int, isB_int_str, isB_int_tuple, isB_int_list, isB_int_dict, isB_str_bool, isB_str_int, isB_str_str, isB_str_tuple, isB_str_list, isB_str_dict, isB_tuple_bool, isB_tuple_int, isB_tuple_str, isB_tuple_tuple, isB_tuple_list, isB_tuple_dict, isB_list_bool, isB_list_int, isB_list_str, isB_list_tuple, isB_list_list, isB_list_dict, isB_dict_bool, isB_dict_int, isB_dict_str, isB_dict_tuple, isB_dict_list, isB_dict_dict, isC_bool, isC_int, isC_str, isC_tuple, isC_list, isC_dict, isA_list_tuple, isQ_NoneType, isQ_bool, isQ_int, isQ_str, isQ_tuple, isQ_list, isQ_dict, true_and, and_true, Bool.not_true, Bool.not_false, Bool.false_eq_true, Bool.true_xor, Bool.false_xor, List.all_map, List.map_id]
          cases ha : xs.all (id ∘ madeOf LET 8) with
          | false =>
            have ha' : xs.all (madeOf LET 8) = false := ha
            rw [ha', Bool.false_and] at q
            simp only [↓pFau, ↓pFst, ↓pRaise, ↓pPar3, ↓pParK3, ↓rMulS_p, ↓pFmt, ↓pFmtS, ↓pFmtI, ↓pJs0, ↓pJs1, ↓pStrKD, ↓pVar, ↓pGet, ↓pC, ↓pOp, ↓pUn, ↓pCB, ↓pNil, ↓pCons, ↓pTest, ↓pBl, ↓pAndT, ↓pOrT, ↓pNotT, ↓pAndV, ↓pOrV, ↓pNotV, ↓pIfE, ↓pTup, ↓pLst, ↓pLstO, ↓pCall, ↓pMeth, ↓pFld, ↓pProp, ↓pMake, ↓pCv, ↓pSl, ↓pNo, ↓pSome, ↓pIntK, ↓pN, ↓pT, ↓pGC, ↓pGN, ↓pIf, ↓pRet, ↓pRetN, ↓pDrop, ↓pAsg, ↓pNx, ↓pBrk, ↓pCnt, ↓pNever, ↓pSub, ↓pAug, ↓pPar, ↓pParK, ↓pBM, ↓pFor, ↓pLc, ↓pLcO, ↓pYes, ↓piSeq, ↓piStr, ↓pStrK, ↓piRng1, ↓pRng1K, ↓piRng2, ↓pRng2K, ↓piEnum, ↓pEnumK, ↓piZip, ↓pZipL, ↓pZipT, ↓pFz, ↓pLenSet, ↓pIsT, ↓rIx_lst, ↓rIx_tup, ↓rIx_ref, ↓rIx_str, ↓rLen_str, ↓rLen_lst, ↓rLen_tup, ↓rLen_ref, ↓rIs_p, ↓rInt_int, ↓rInt_bl, ↓rStr_int, ↓rList_p, ↓rListO_p, ↓rTup_p, ↓rAdd_int, ↓rAdd_str, ↓rAdd_tup, ↓rAdd_lst, ↓rIntD_p, ↓rInt0_p, ↓rEq_int, ↓rEq_str, ↓rEq_bl, ↓rEq_lst, ↓rEq_tup, ↓rIsN_non, ↓rIsN_bl, ↓rIsN_int, ↓rIsN_str, ↓rIsN_tup, ↓rIsN_lst, ↓rNeg_p, ↓rSl_str, ↓rSl_tup, ↓rSl_lst, ↓rSl_scr, ↓rRep_p, ↓pOptK, ↓pChain, ↓piEnumA, ↓pEnumA_tup, ↓pEnumA_lst, ↓rInV_tup, ↓rInV_lst, ↓rSlN_p, ↓pSlN, ↓pTn, ↓pTnK, ↓pTM, ↓rTidx_p, ↓rLidx_p, ↓rGtL_p, ↓pStar, ↓pIfT, ↓pCallK, ↓pDzip, ↓pDzipK, ↓pDzipO, ↓pDzipKO, ↓rIsB_bl, ↓rDix_str, ↓rDix_int, ↓rIn_tup, ↓rIn_lst, ↓rEq_ns, ↓rEq_sn, ↓rRepT_p, ↓rAll_f, ↓rAll_t, ↓wSeq_p, ↓seqE_nx, ↓reduceIte, at_0, at_1, at_2, at_3, cut_1, cut_2, dl_0_0, dl_0_1, dl_0_2, dl_0_3, dl_0_4, dl_0_5, dl_1_0, dl_1_1, dl_1_2, dl_1_3, dl_1_4, dl_1_5, dl_2_0, dl_2_1, dl_2_2, dl_2_3, dl_2_4, dl_2_5, dl_3_0, dl_3_1, dl_3_2, dl_3_3, dl_3_4, dl_3_5, dl_4_0, dl_4_1, dl_4_2, dl_4_3, dl_4_4, dl_4_5, dn_1_0, dn_2_0, dn_2_1, dn_3_0, dn_3_1, dn_3_2, dn_4_0, dn_4_1, dn_4_2, dn_4_3, seqE_rt, seqE_bk, seqE_ct, seqE_ex, wipeD, frz_lst, frz_tup, at1_0, at2_0, at2_1, at3_0, at3_1, at3_2, at4_0, at4_1, at4_2, at4_3, at5_0, at5_1, at5_2, at5_3, at5_4, seqOf_put, seqOf_lst, seqOf_tup, insK_same, tyN_non, tyN_bl, tyN_int, tyN_str, tyN_tup, tyN_lst, tyN_dct, List.getElem?_cons_zero, List.getElem?_cons_succ, List.set_cons_zero, List.set_cons_succ, List.length_cons, List.length_nil, isB_NoneType_bool, isB_NoneType_int, isB_NoneType_str, isB_NoneType_tuple, isB_NoneType_list, isB_NoneType_dict, isB_bool_bool, isB_bool_int, isB_bool_str, isB_bool_tuple, isB_bool_list, isB_bool_dict, isB_int_bool, isB_int_int, isB_int_str, isB_int_tuple, isB_int_list, isB_int_dict, isB_str_bool, isB_str_int, isB_str_str, isB_str_tuple, isB_str_list, isB_str_dict, isB_tuple_bool, isB_tuple_int, isB_tuple_str, isB_tuple_tuple, isB_tuple_list, isB_tuple_dict, isB_list_bool, isB_list_int, isB_list_str, isB_list_tuple, isB_list_list, isB_list_dict, isB_dict_bool, isB_dict_int, isB_dict_str, isB_dict_tuple, isB_dict_list, isB_dict_dict, isC_bool, isC_int, isC_str, isC_tuple, isC_list, isC_dict, isA_list_tuple, isQ_NoneType, isQ_bool, isQ_int, isQ_str, isQ_tuple, isQ_list, isQ_dict, true_and, and_true, Bool.not_true, Bool.not_false, Bool.false_eq_true, Bool.true_xor, Bool.false_xor]
            exact fin_of q
          | true =>
            have ha' : xs.all (madeOf LET 8) = true := ha
            rw [ha', Bool.true_and] at q
            obtain ⟨zs, rfl⟩ := names_of fun x hx => List.all_eq_true.mp ha' x hx
            rw [keysD_strs] at q
            simp only [↓pFau, ↓pFst, ↓pRaise, ↓pPar3, ↓pParK3, ↓rMulS_p, ↓pFmt, ↓pFmtS, ↓pFmtI, ↓pJs0, ↓pJs1, ↓pStrKD, ↓pVar, ↓pGet, ↓pC, ↓pOp, ↓pUn, ↓pCB, ↓pNil, ↓pCons, ↓pTest, ↓pBl, ↓pAndT, ↓pOrT, ↓pNotT, ↓pAndV, ↓pOrV, ↓pNotV, ↓pIfE, ↓pTup, ↓pLst, ↓pLstO, ↓pCall, ↓pMeth, ↓pFld, ↓pProp, ↓pMake, ↓pCv, ↓pSl, ↓pNo, ↓pSome, ↓pIntK, ↓pN, ↓pT, ↓pGC, ↓pGN, ↓pIf, ↓pRet, ↓pRetN, ↓pDrop, ↓pAsg, ↓pNx, ↓pBrk, ↓pCnt, ↓pNever, ↓pSub, ↓pAug, ↓pPar, ↓pParK, ↓pBM, ↓pFor, ↓pLc, ↓pLcO, ↓pYes, ↓piSeq, ↓piStr, ↓pStrK, ↓piRng1, ↓pRng1K, ↓piRng2, ↓pRng2K, ↓piEnum, ↓pEnumK, ↓piZip, ↓pZipL, ↓pZipT, ↓pFz, ↓pLenSet, ↓pIsT, ↓rIx_lst, ↓rIx_tup, ↓rIx_ref, ↓rIx_str, ↓rLen_str, ↓rLen_lst, ↓rLen_tup, ↓rLen_ref, ↓rIs_p, ↓rInt_int, ↓rInt_bl, ↓rStr_int, ↓rList_p, ↓rListO_p, ↓rTup_p, ↓rAdd_int, ↓rAdd_str, ↓rAdd_tup, ↓rAdd_lst, ↓rIntD_p, ↓rInt0_p, ↓rEq_int, ↓rEq_str, ↓rEq_bl, ↓rEq_lst, ↓rEq_tup, ↓rIsN_non, ↓rIsN_bl, ↓rIsN_int, ↓rIsN_str, ↓rIsN_tup, ↓rIsN_lst, ↓rNeg_p, ↓rSl_str, ↓rSl_tup, ↓rSl_lst, ↓rSl_scr, ↓rRep_p, ↓pOptK, ↓pChain, ↓piEnumA, ↓pEnumA_tup, ↓pEnumA_lst, ↓rInV_tup, ↓rInV_lst, ↓rSlN_p, ↓pSlN, ↓pTn, ↓pTnK, ↓pTM, ↓rTidx_p, ↓rLidx_p, ↓rGtL_p, ↓pStar, ↓pIfT, ↓pCallK, ↓pDzip, ↓pDzipK, ↓pDzipO, ↓pDzipKO, ↓rIsB_bl, ↓rDix_str, ↓rDix_int, ↓rIn_tup, ↓rIn_lst, ↓rEq_ns, ↓rEq_sn, ↓rRepT_p, ↓rAll_f, ↓rAll_t, ↓wSeq_p, ↓seqE_nx, ↓reduceIte, at_0, at_1, at_2, at_3, cut_1, cut_2, dl_0_0, dl_0_1, dl_0_2, dl_0_3, dl_0_4, dl_0_5, dl_1_0, dl_1_1, dl_1_2, dl_1_3, dl_1_4, dl_1_5, dl_2_0, dl_2_1, dl_2_2, dl_2_3, dl_2_4, dl_2_5, dl_3_0, dl_3_1, dl_3_2, dl_3_3, dl_3_4, dl_3_5, dl_4_0, dl_4_1, dl_4_2, dl_4_3, dl_4_4, dl_4_5, dn_1_0, dn_2_0, dn_2_1, dn_3_0, dn_3_1, dn_3_2, dn_4_0, dn_4_1, dn_4_2, dn_4_3, seqE_rt, seqE_bk, seqE_ct, seqE_ex, wipeD, frz_lst, frz_tup, at1_0, at2_0, at2_1, at3_0, at3_1, at3_2, at4_0, at4_1, at4_2, at4_3, at5_0, at5_1, at5_2, at5_3, at5_4, seqOf_put, seqOf_lst, seqOf_tup, insK_same, tyN_non, tyN_bl, tyN_int, tyN_str, tyN_tup, tyN_lst, tyN_dct, List.getElem?_cons_zero, List.getElem?_cons_succ, List.set_cons_zero, List.set_cons_succ, List.length_cons, List.length_nil, isB_NoneType_bool, isB_NoneType_int, isB_NoneType_str, isB_NoneType_tuple, isB_NoneType_list, isB_NoneType_dict, isB_bool_bool, isB_bool_int, isB_bool_str, isB_bool_tuple, isB_bool_list, isB_bool_dict, isB_int_bool, isB_int_int, isB_int_str, isB_int_tuple, isB_int_list, isB_int_dict, isB_str_bool, isB_str_int, isB_str_str, isB_str_tuple, isB_str_list, isB_str_dict, isB_tuple_bool, isB_tuple_int, isB_tuple_str, isB_tuple_tuple, isB_tuple_list, isB_tuple_dict, isB_list_bool, isB_list_int, isB_list_str, isB_list_tuple, isB_list_list, isB_list_dict, isB_dict_bool, isB_dict_int, isB_dict_str, isB_dict_tuple, isB_dict_list, isB_dict_dict, isC_bool, isC_int, isC_str, isC_tuple, isC_list, isC_dict, isA_list_tuple, isQ_NoneType, isQ_bool, isQ_int, isQ_str, isQ_tuple, isQ_list, isQ_dict, true_and, and_true, Bool.not_true, Bool.not_false, Bool.false_eq_true, Bool.true_xor, Bool.false_xor]
            refine ⟨_, _, by first | exact .inl rfl | exact .inr rfl, keysD_strs zs, by rw [List.length_map] at h2 ⊢; omega, fin_of q⟩
      · have d2 : decide (((xs.length : Nat) : Int) ≤ 5) = false := decide_eq_false (by omega)
        rw [decide_eq_false h2, Bool.false_and, Bool.and_false] at q
        simp only [d1, d2, ↓pFau, ↓pFst, ↓pRaise, ↓pPar3, ↓pParK3, ↓rMulS_p, ↓pFmt, ↓pFmtS, ↓pFmtI, ↓pJs0, ↓pJs1, ↓pStrKD, ↓pVar, ↓pGet, ↓pC, ↓pOp, ↓pUn, ↓pCB, ↓pNil, ↓pCons, ↓pTest, ↓pBl, ↓pAndT, ↓pOrT, ↓pNotT, ↓pAndV, ↓pOrV, ↓pNotV, ↓pIfE, ↓pTup, ↓pLst, ↓pLstO, ↓pCall, ↓pMeth, ↓pFld, ↓pProp, ↓pMake, ↓pCv, ↓pSl, ↓pNo, ↓pSome, ↓pIntK, ↓pN, ↓pT, ↓pGC, ↓pGN, ↓pIf, ↓pRet, ↓pRetN, ↓pDrop, ↓pAsg, ↓pNx, ↓pBrk, ↓pCnt, ↓pNever, ↓pSub, ↓pAug, ↓pPar, ↓pParK, ↓pBM, ↓pFor, ↓pLc, ↓pLcO, ↓pYes, ↓piSeq, ↓piStr, ↓pStrK, ↓piRng1, ↓pRng1K, ↓piRng2, ↓pRng2K, ↓piEnum, ↓pEnumK, ↓piZip, ↓pZipL, ↓pZipT, ↓pFz, ↓pLenSet, ↓pIsT, ↓rIx_lst, ↓rIx_tup, ↓rIx_ref, ↓rIx_str, ↓rLen_str, ↓rLen_lst, ↓rLen_tup, ↓rLen_ref, ↓rIs_p, ↓rInt_int, ↓rInt_bl, ↓rStr_int, ↓rList_p, ↓rListO_p, ↓rTup_p, ↓rAdd_int, ↓rAdd_str, ↓rAdd_tup, ↓rAdd_lst, ↓rIntD_p, ↓rInt0_p, ↓rEq_int, ↓rEq_str, ↓rEq_bl, ↓rEq_lst, ↓rEq_tup, ↓rIsN_non, ↓rIsN_bl, ↓rIsN_int, ↓rIsN_str, ↓rIsN_tup, ↓rIsN_lst, ↓rNeg_p, ↓rSl_str, ↓rSl_tup, ↓rSl_lst, ↓rSl_scr, ↓rRep_p, ↓pOptK, ↓pChain, ↓piEnumA, ↓pEnumA_tup, ↓pEnumA_lst, ↓rInV_tup, ↓rInV_lst, ↓rSlN_p, ↓pSlN, ↓pTn, ↓pTnK, ↓pTM, ↓rTidx_p, ↓rLidx_p, ↓rGtL_p, ↓pStar, ↓pIfT, ↓pCallK, ↓pDzip, ↓pDzipK, ↓pDzipO, ↓pDzipKO, ↓rIsB_bl, ↓rDix_str, ↓rDix_int, ↓rIn_tup, ↓rIn_lst, ↓rEq_ns, ↓rEq_sn, ↓rRepT_p, ↓rAll_f, ↓rAll_t, ↓wSeq_p, ↓seqE_nx, ↓reduceIte, at_0, at_1, at_2, at_3, cut_1, cut_2, dl_0_0, dl_0_1, dl_0_2, dl_0_3, dl_0_4, dl_0_5, dl_1_0, dl_1_1, dl_1_2, dl_1_3, dl_1_4, dl_1_5, dl_2_0, dl_2_1, dl_2_2, dl_2_3, dl_2_4, dl_2_5, dl_3_0, dl_3_1, dl_3_2, dl_3_3, dl_3_4, dl_3_5, dl_4_0, dl_4_1, dl_4_2, dl_4_3, dl_4_4, dl_4_5, dn_1_0, dn_2_0, dn_2_1, dn_3_0, dn_3_1, dn_3_2, dn_4_0, dn_4_1, dn_4_2, dn_4_3, seqE_rt, seqE_bk, seqE_ct, seqE_ex, wipeD, frz_lst, frz_tup, at1_0, at2_0, at2_1, at3_0, at3_1, at3_2, at4_0, at4_1, at4_2, at4_3, at5_0, at5_1, at5_2, at5_3, at5_4, seqOf_put, seqOf_lst, seqOf_tup, insK_same, tyN_non, tyN_bl, tyN_int, tyN_str, tyN_tup, tyN_lst, tyN_dct, List.getElem?_cons_zero, List.getElem?_cons_succ, List.set_cons_zero, List.set_cons_succ, List.length_cons, List.length_nil, isB_NoneType_bool, isB_NoneType_int, isB_NoneType_str, isB_NoneType_tuple, isB_NoneType_list, isB_NoneType_dict, isB_bool_bool, isB_bool_int, isB_bool_str, isB_bool_tuple, isB_bool_list, isB_bool_dict, isB_int_bool, isB_int_int, isB_int_str, isB_int_tuple, isB_int_list, isB_int_dict, isB_str_bool, isB_str_int, isB_str_str, isB_str_tuple, isB_str_list, isB_str_dict, isB_tuple_bool, isB_tuple_int, isB_tuple_str, isB_tuple_tuple, isB_tuple_list, isB_tuple_dict, isB_list_bool, isB_list_int, isB_list_str, isB_list_tuple, isB_list_list, isB_list_dict, isB_dict_bool, isB_dict_int, isB_dict_str, isB_dict_tuple, isB_dict_list, isB_dict_dict, isC_bool, isC_int, isC_str, isC_tuple, isC_list, isC_dict, isA_list_tuple, isQ_NoneType, isQ_bool, isQ_int, isQ_str, isQ_tuple, isQ_list, isQ_dict, true_and, and_true, Bool.not_true, Bool.not_false, Bool.false_eq_true, Bool.true_xor, Bool.false_xor]
        exact fin_of q
    · have d1 : decide ((1 : Int) ≤ (xs.length : Nat)) = false := decide_eq_false (by omega)
      rw [decide_eq_false h1, Bool.false_and] at q
      simp only [d1, ↓pFau, ↓pFst, ↓pRaise, ↓pPar3, ↓pParK3, ↓rMulS_p, ↓pFmt, ↓pFmtS, ↓pFmtI, ↓pJs0, ↓pJs1, ↓pStrKD, ↓pVar, ↓pGet, ↓pC, ↓pOp, ↓pUn, ↓pCB, ↓pNil, ↓pCons, ↓pTest, ↓pBl, ↓pAndT, ↓pOrT, ↓pNotT, ↓pAndV, ↓pOrV, ↓pNotV, ↓pIfE, ↓pTup, ↓pLst, ↓pLstO, ↓pCall, ↓pMeth, ↓pFld, ↓pProp, ↓pMake, ↓pCv, ↓pSl, ↓pNo, ↓pSome, ↓pIntK, ↓pN, ↓pT, ↓pGC, ↓pGN, ↓pIf, ↓pRet, ↓pRetN, ↓pDrop, ↓pAsg, ↓pNx, ↓pBrk, ↓pCnt, ↓pNever, ↓pSub, ↓pAug, ↓pPar, ↓pParK, ↓pBM, ↓pFor, ↓pLc, ↓pLcO, ↓pYes, ↓piSeq, ↓piStr, ↓pStrK, ↓piRng1, ↓pRng1K, ↓piRng2, ↓pRng2K, ↓piEnum, ↓pEnumK, ↓piZip, ↓pZipL, ↓pZipT, ↓pFz, ↓pLenSet, ↓pIsT, ↓rIx_lst, ↓rIx_tup, ↓rIx_ref, ↓rIx_str, ↓rLen_str, ↓rLen_lst, ↓rLen_tup, ↓rLen_ref, ↓rIs_p, ↓rInt_int, ↓rInt_bl, ↓rStr_int, ↓rList_p, ↓rListO_p, ↓rTup_p, ↓rAdd_int, ↓rAdd_str, ↓rAdd_tup, ↓rAdd_lst, ↓rIntD_p, ↓rInt0_p, ↓rEq_int, ↓rEq_str, ↓rEq_bl, ↓rEq_lst, ↓rEq_tup, ↓rIsN_non, ↓rIsN_bl, ↓rIsN_int, ↓rIsN_str, ↓rIsN_tup, ↓rIsN_lst, ↓rNeg_p, ↓rSl_str, ↓rSl_tup, ↓rSl_lst, ↓rSl_scr, ↓rRep_p, ↓pOptK, ↓pChain, ↓piEnumA, ↓pEnumA_tup, ↓pEnumA_lst, ↓rInV_tup, ↓rInV_lst, ↓rSlN_p, ↓pSlN, ↓pTn, ↓pTnK, ↓pTM, ↓rTidx_p, ↓rLidx_p, ↓rGtL_p, ↓pStar, ↓pIfT, ↓pCallK, ↓pDzip, ↓pDzipK, ↓pDzipO, ↓pDzipKO, ↓rIsB_bl, ↓rDix_str, ↓rDix_int, ↓rIn_tup, ↓rIn_lst, ↓rEq_ns, ↓rEq_sn, ↓rRepT_p, ↓rAll_f, ↓rAll_t, ↓wSeq_p, ↓seqE_nx, ↓reduceIte, at_0, at_1, at_2, at_3, cut_1, cut_2, dl_0_0, dl_0_1, dl_0_2, dl_0_3, dl_0_4, dl_0_5, dl_1_0, dl_1_1, dl_1_2, dl_1_3, dl_1_4, dl_1_5, dl_2_0, dl_2_1, dl_2_2, dl_2_3, dl_2_4, dl_2_5, dl_3_0, dl_3_1, dl_3_2, dl_3_3, dl_3_4, dl_3_5, dl_4_0, dl_4_1, dl_4_2, dl_4_3, dl_4_4, dl_4_5, dn_1_0, dn_2_0, dn_2_1, dn_3_0, dn_3_1, dn_3_2, dn_4_0, dn_4_1, dn_4_2, dn_4_3, seqE_rt, seqE_bk, seqE_ct, seqE_ex, wipeD, frz_lst, frz_tup, at1_0, at2_0, at2_1, at3_0, at3_1, at3_2, at4_0, at4_1, at4_2, at4_3, at5_0, at5_1, at5_2, at5_3, at5_4, seqOf_put, seqOf_lst, seqOf_tup, insK_same, tyN_non, tyN_bl, tyN_int, tyN_str, tyN_tup, tyN_lst, tyN_dct, List.getElem?_cons_zero, List.getElem?_cons_succ, List.set_cons_zero, List.set_cons_succ, List.length_cons, List.length_nil, isB_NoneType_bool, isB_NoneType_int, isB_NoneType_str, isB_NoneType_tuple, isB_NoneType_list, isB_NoneType_dict, isB_bool_bool, isB_bool_int, isB_bool_str, isB_bool_tuple, isB_bool_list, isB_bool_dict, isB_int_bool, isB_int_int, isB_int_str, isB_int_tuple, isB_int_list, isB_int_dict, isB_str_bool, isB_str_int, isB_str_str, isB_str_tuple, isB_str_list, isB_str_dict, isB_tuple_bool, isB_tuple_int, isB_tuple_str, isB_tuple_tuple, isB_tuple_list, isB_tuple_dict, isB_list_bool, isB_list_int, isB_list_str, isB_list_tuple, isB_list_list, isB_list_dict, isB_dict_bool, isB_dict_int, isB_dict_str, isB_dict_tuple, isB_dict_list, isB_dict_dict, isC_bool, isC_int, isC_str, isC_tuple, isC_list, isC_dict, isA_list_tuple, isQ_NoneType, isQ_bool, isQ_int, isQ_str, isQ_tuple, isQ_list, isQ_dict, true_and, and_true, Bool.not_true, Bool.not_false, Bool.false_eq_true, Bool.true_xor, Bool.false_xor]
      exact fin_of q
theorem rd_are_names (A : Ad) : ∀ ds M Q Xc, sp_are_names A ds M Q Xc → ds.length = P_are_names.length ∧ RD (wb_are_names A) Q Xc (startD N_are_names ds) M := by
  rintro _ M Q Xc ⟨v, rfl, h, q⟩
  refine ⟨rfl, ?_⟩
  rw [st_are_names]
  cases h with
  | lst h => exact are_names_l A (.inl rfl) h q
  | tup h => exact are_names_l A (.inr rfl) h q
  | _ =>
    simp only [RD, wb_are_names, ↓pFau, ↓pFst, ↓pRaise, ↓pPar3, ↓pParK3, ↓rMulS_p, ↓pFmt, ↓pFmtS, ↓pFmtI, ↓pJs0, ↓pJs1, ↓pStrKD, ↓pVar, ↓pGet, ↓pC, ↓pOp, ↓pUn, ↓pCB, ↓pNil, ↓pCons, ↓pTest, ↓pBl, ↓pAndT, ↓pOrT, ↓pNotT, ↓pAndV, ↓pOrV, ↓pNotV, ↓pIfE, ↓pTup, ↓pLst, ↓pLstO, ↓pCall, ↓pMeth, ↓pFld, ↓pProp, ↓pMake, ↓pCv, ↓pSl, ↓pNo, ↓pSome, ↓pIntK, ↓pN, ↓pT, ↓pGC, ↓pGN, ↓pIf, ↓pRet, ↓pRetN, ↓pDrop, ↓pAsg, ↓pNx, ↓pBrk, ↓pCnt, ↓pNever, ↓pSub, ↓pAug, ↓pPar, ↓pParK, ↓pBM, ↓pFor, ↓pLc, ↓pLcO, ↓pYes, ↓piSeq, ↓piStr, ↓pStrK, ↓piRng1, ↓pRng1K, ↓piRng2, ↓pRng2K, ↓piEnum, ↓pEnumK, ↓piZip, ↓pZipL, ↓pZipT, ↓pFz, ↓pLenSet, ↓pIsT, ↓rIx_lst, ↓rIx_tup, ↓rIx_ref, ↓rIx_str, ↓rLen_str, ↓rLen_lst, ↓rLen_tup, ↓rLen_ref, ↓rIs_p, ↓rInt_int, ↓rInt_bl, ↓rStr_int, ↓rList_p, ↓rListO_p, ↓rTup_p, ↓rAdd_int, ↓rAdd_str, ↓rAdd_tup, ↓rAdd_lst, ↓rIntD_p, ↓rInt0_p, ↓rEq_int, ↓rEq_str, ↓rEq_bl, ↓rEq_lst, ↓rEq_tup, ↓rIsN_non, ↓rIsN_bl, ↓rIsN_int, ↓rIsN_str, ↓rIsN_tup, ↓rIsN_lst, ↓rNeg_p, ↓rSl_str, ↓rSl_tup, ↓rSl_lst, ↓rSl_scr, ↓rRep_p, ↓pOptK, ↓pChain, ↓piEnumA, ↓pEnumA_tup, ↓pEnumA_lst, ↓rInV_tup, ↓rInV_lst, ↓rSlN_p, ↓pSlN, ↓pTn, ↓pTnK, ↓pTM, ↓rTidx_p, ↓rLidx_p, ↓rGtL_p, ↓pStar, ↓pIfT, ↓pCallK, ↓pDzip, ↓pDzipK, ↓pDzipO, ↓pDzipKO, ↓rIsB_bl, ↓rDix_str, ↓rDix_int, ↓rIn_tup, ↓rIn_lst, ↓rEq_ns, ↓rEq_sn, ↓rRepT_p, ↓rAll_f, ↓rAll_t, ↓wSeq_p, ↓seqE_nx, ↓reduceIte, at_0, at_1, at_2, at_3, cut_1, cut_2, dl_0_0, dl_0_1, dl_0_2, dl_0_3, dl_0_4, dl_0_5, dl_1_0, dl_1_1, dl_1_2, dl_1_3, dl_1_4, dl_1_5, dl_2_0, dl_2_1, dl_2_2, dl_2_3, dl_2_4, dl_2_5, dl_3_0, dl_3_1, dl_3_2, dl_3_3, dl_3_4, dl_3_5, dl_4_0, dl_4_1, dl_4_2, dl_4_3, dl_4_4, dl_4_5, dn_1_0, dn_2_0, dn_2_1, dn_3_0, dn_3_1, dn_3_2, dn_4_0, dn_4_1, dn_4_2, dn_4_3, seqE_rt, seqE_bk, seqE_ct, seqE_ex, wipeD, frz_lst, frz_tup, at1_0, at2_0, at2_1, at3_0, at3_1, at3_2, at4_0, at4_1, at4_2, at4_3, at5_0, at5_1, at5_2, at5_3, at5_4, seqOf_put, seqOf_lst, seqOf_tup, insK_same, tyN_non, tyN_bl, tyN_int, tyN_str, tyN_tup, tyN_lst, tyN_dct, List.getElem?_cons_zero, List.getElem?_cons_succ, List.set_cons_zero, List.set_cons_succ, List.length_cons, List.length_nil, isB_NoneType_bool, isB_NoneType_int, isB_NoneType_str, isB_NoneType_tuple, isB_NoneType_list, isB_NoneType_dict, isB_bool_bool, isB_bool_int, isB_bool_str, isB_bool_tuple, isB_bool_list, isB_bool_dict, isB_int_bool, isB_int_int, isB_int_str, isB_int_tuple, isB_int_list, isB_int_dict, isB_str_bool, isB_str_int, isB_str_str, isB_str_tuple, isB_str_list, isB_str_dict, isB_tuple_bool, isB_tuple_int, isB_tuple_str, isB_tuple_tuple, isB_tuple_list, isB_tuple_dict, isB_list_bool, isB_list_int, isB_list_str, isB_list_tuple, isB_list_list, isB_list_dict, isB_dict_bool, isB_dict_int, isB_dict_str, isB_dict_tuple, isB_dict_list, isB_dict_dict, isC_bool, isC_int, isC_str, isC_tuple, isC_list, isC_dict, isA_list_tuple, isQ_NoneType, isQ_bool, isQ_int, isQ_str, isQ_tuple, isQ_list, isQ_dict, true_and, and_true, Bool.not_true, Bool.not_false, Bool.false_eq_true, Bool.true_xor, Bool.false_xor]
    refine ⟨_, rfl, rfl, ?_⟩
    simp only [isSeq, ↓pFau, ↓pFst, ↓pRaise, ↓pPar3, ↓pParK3, ↓rMulS_p, ↓pFmt, ↓pFmtS, ↓pFmtI, ↓pJs0, ↓pJs1, ↓pStrKD, ↓pVar, ↓pGet, ↓pC, ↓pOp, ↓pUn, ↓pCB, ↓pNil, ↓pCons, ↓pTest, ↓pBl, ↓pAndT, ↓pOrT, ↓pNotT, ↓pAndV, ↓pOrV, ↓pNotV, ↓pIfE, ↓pTup, ↓pLst, ↓pLstO, ↓pCall, ↓pMeth, ↓pFld, ↓pProp, ↓pMake, ↓pCv, ↓pSl, ↓pNo, ↓pSome, ↓pIntK, ↓pN, ↓pT, ↓pGC, ↓pGN, ↓pIf, ↓pRet, ↓pRetN, ↓pDrop, ↓pAsg, ↓pNx, ↓pBrk, ↓pCnt, ↓pNever, ↓pSub, ↓pAug, ↓pPar, ↓pParK, ↓pBM, ↓pFor, ↓pLc, ↓pLcO, ↓pYes, ↓piSeq, ↓piStr, ↓pStrK, ↓piRng1, ↓pRng1K, ↓piRng2, ↓pRng2K, ↓piEnum, ↓pEnumK, ↓piZip, ↓pZipL, ↓pZipT, ↓pFz, ↓pLenSet, ↓pIsT, ↓rIx_lst, ↓rIx_tup, ↓rIx_ref, ↓rIx_str, ↓rLen_str, ↓rLen_lst, ↓rLen_tup, ↓rLen_ref, ↓rIs_p, ↓rInt_int, ↓rInt_bl, ↓rStr_int, ↓rList_p, ↓rListO_p, ↓rTup_p, ↓rAdd_int, ↓rAdd_str, ↓rAdd_tup, ↓rAdd_lst, ↓rIntD_p, ↓rInt0_p, ↓rEq_int, ↓rEq_str, ↓rEq_bl, ↓rEq_lst, ↓rEq_tup, ↓rIsN_non, ↓rIsN_bl, ↓rIsN_int, ↓rIsN_str, ↓rIsN_tup, ↓rIsN_lst, ↓rNeg_p, ↓rSl_str, ↓rSl_tup, ↓rSl_lst, ↓rSl_scr, ↓rRep_p, ↓pOptK, ↓pChain, ↓piEnumA, ↓pEnumA_tup, ↓pEnumA_lst, ↓rInV_tup, ↓rInV_lst, ↓rSlN_p, ↓pSlN, ↓pTn, ↓pTnK, ↓pTM, ↓rTidx_p, ↓rLidx_p, ↓rGtL_p, ↓pStar, ↓pIfT, ↓pCallK, ↓pDzip, ↓pDzipK, ↓pDzipO, ↓pDzipKO, ↓rIsB_bl, ↓rDix_str, ↓rDix_int, ↓rIn_tup, ↓rIn_lst, ↓rEq_ns, ↓rEq_sn, ↓rRepT_p, ↓rAll_f, ↓rAll_t, ↓wSeq_p, ↓seqE_nx, ↓reduceIte, at_0, at_1, at_2, at_3, cut_1, cut_2, dl_0_0, dl_0_1, dl_0_2, dl_0_3, dl_0_4, dl_0_5, dl_1_0, dl_1_1, dl_1_2, dl_1_3, dl_1_4, dl_1_5, dl_2_0, dl_2_1, dl_2_2, dl_2_3, dl_2_4, dl_2_5, dl_3_0, dl_3_1, dl_3_2, dl_3_3, dl_3_4, dl_3_5, dl_4_0, dl_4_1, dl_4_2, dl_4_3, dl_4_4, dl_4_5, dn_1_0, dn_2_0, dn_2_1, dn_3_0, dn_3_1, dn_3_2, dn_4_0, dn_4_1, dn_4_2, dn_4_3, seqE_rt, seqE_bk, seqE_ct, seqE_ex, wipeD, frz_lst, frz_tup, at1_0, at2_0, at2_1, at3_0, at3_1, at3_2, at4_0, at4_1, at4_2, at4_3, at5_0, at5_1, at5_2, at5_3, at5_4, seqOf_put, seqOf_lst, seqOf_tup, insK_same, tyN_non, tyN_bl, tyN_int, tyN_str, tyN_tup, tyN_lst, tyN_dct, List.getElem?_cons_zero, List.getElem?_cons_succ, List.set_cons_zero, List.set_cons_succ, List.length_cons, List.length_nil, isB_NoneType_bool, isB_NoneType_int, isB_NoneType_str, isB_NoneType_tuple, isB_NoneType_list, isB_NoneType_dict, isB_bool_bool, isB_bool_int, isB_bool_str, isB_bool_tuple, isB_bool_list, isB_bool_dict, isB_int_bool, isB_int_int, isB_int_str, isB_int_tuple, isB_int_list, isB_int_dict, isB_str_bool, isB_str_int, isB_str_str, isB_str_tuple, isB_str_list, isB_str_dict, isB_tuple_bool, isB_tuple_int, isB_tuple_str, isB_tuple_tuple, isB_tuple_list, isB_tuple_dict, isB_list_bool, isB_list_int, isB_list_str, isB_list_tuple, isB_list_list, isB_list_dict, isB_dict_bool, isB_dict_int, isB_dict_str, isB_dict_tuple, isB_dict_list, isB_dict_dict, isC_bool, isC_int, isC_str, isC_tuple, isC_list, isC_dict, isA_list_tuple, isQ_NoneType, isQ_bool, isQ_int, isQ_str, isQ_tuple, isQ_list, isQ_dict, true_and, and_true, Bool.not_true, Bool.not_false, Bool.false_eq_true, Bool.true_xor, Bool.false_xor]
    exact fin_of q
theorem ok_are_names {P : Program} {w : World} {K : PySem.W.Frag} {mg : Str → Option Value} {base : Heap} {A : Ad} (T : Txt P K mg A) : FnJ P w K mg base 3 A.f_are_names (sp_are_names A) :=
  FnJ.mkAt T.d_are_names sc_are_names (fun cdv R outer s H E hr tk => bd_are_names T cdv R outer s H E hr tk) (rd_are_names A)

end DL.K03
namespace DL.K03
open PySem PySem.Spec PyProof.Rows L2 RZ
structure OwnOk (fs : List Str) : Prop where
  m : ("moment" : Str) ∉ fs
  s : ("source" : Str) ∉ fs
def shp (A : Ad) (fs ss : List Str) : D := .ins A.c_Shape ns_Shape [.tup (fs.map .str), .tup (ss.map .str)]
/-! ### is_row -/
def wordOk : D → Bool
  | .non => true
  | d => madeOf L36 8 d
def strIn (ss : List Str) : D → Bool
  | .str x => ss.any fun y => decide (y = x)
  | _ => false
def valsOk (n : Nat) : D → Bool
  | .tup ws => decide (ws.length = n) && ws.all wordOk
  | _ => false
def isRow (n : Nat) (ss : List Str) : D → Bool
  | .tup [m, s, v] => isNum m && (strIn ss s && valsOk n v)
  | _ => false
theorem insK_ins {C : Addr} {ns : List Str} {M : Mem} {xs : List D} {k : List D → Prop} (q : k xs) : insK C ns M (.ins C ns xs) k := ⟨rfl, rfl, q⟩
/-! ### is_pile, is_tree -/
def momI : D → Int
  | .tup (.int i :: _) => i
  | _ => 0
def momK (r : D) : Key := .inl (momI r)
def pileOf (n : Nat) (ss : List Str) (rows : List D) : Bool := !decide (rows.length = 0) && (rows.all (isRow n ss) && dist (rows.map momK))
def isPile (n : Nat) (ss : List Str) : D → Bool
  | .lst rows => pileOf n ss rows
  | .tup rows => pileOf n ss rows
  | _ => false
theorem row_mom {n : Nat} {ss : List Str} {d : D} (h : isRow n ss d = true) : ∃ s v, d = .tup [.int (momI d), s, v] := by
  unfold isRow at h
  split at h
  · rename_i m s v
    rw [Bool.and_eq_true] at h
    cases m <;> try exact absurd h.1 Bool.false_ne_true
    exact ⟨s, v, rfl⟩
  · cases h
theorem keysD_ints : ∀ rows : List D, keysD (rows.map fun r => D.int (momI r)) = some (rows.map momK)
  | [] => rfl
  | r :: rows => by
    show (keysD (rows.map fun r => D.int (momI r))).map (momK r :: ·) = _
    rw [keysD_ints rows]
    rfl
theorem leaves_nc : ∀ (d : D) (n : Nat), Nc d n → Ncs (leavesD d) n
  | .tup [a, b], n, h => by
    obtain ⟨h0, h1, h2, _⟩ := h
    simp only [leavesD]
    rw [Ncs_iff]
    intro z hz
    rcases List.mem_append.mp hz with hz | hz
    · exact Nc.mono _ _ _ (Nat.sub_le _ _) (Ncs_iff.mp (leaves_nc a (n - 1) h1) z hz)
    · exact Nc.mono _ _ _ (Nat.sub_le _ _) (Ncs_iff.mp (leaves_nc b (n - 1) h2) z hz)
  | .tup [], n, h => by simp only [leavesD]; exact ⟨h, trivial⟩
  | .tup [a], n, h => by simp only [leavesD]; exact ⟨h, trivial⟩
  | .tup (a :: b :: c :: ds), n, h => by simp only [leavesD]; exact ⟨h, trivial⟩
  | .non, n, h => by simp only [leavesD]; exact ⟨h, trivial⟩
  | .bl _, n, h => by simp only [leavesD]; exact ⟨h, trivial⟩
  | .int _, n, h => by simp only [leavesD]; exact ⟨h, trivial⟩
  | .str _, n, h => by simp only [leavesD]; exact ⟨h, trivial⟩
  | .ty _, n, h => h.elim
  | .ref _, n, h => h.elim
  | .lst _, n, h => by simp only [leavesD]; exact ⟨h, trivial⟩
  | .dct _ _, n, h => h.elim
  | .ins _ _ _, n, h => h.elim
  | .scr _, n, h => h.elim
  | .tpn _, n, h => h.elim
  | .exc _ _ _ _ _, n, h => h.elim
def isTree (n : Nat) (ss : List Str) (d : D) : Bool := pileOf n ss (leavesD d)

/-! ### shapes made or refused -/
abbrev xShape (A : Ad) (i : Int) : Exn := .own A.c_InvalidShape ["tag", "at"] [.str "InvalidShape", .int i]
theorem lnames_of {xs : List D} (h : lnames xs = true) : ∃ zs : List Str, xs = zs.map D.str ∧ NamesOk zs := by
  unfold lnames at h
  rw [Bool.and_eq_true, Bool.and_eq_true, Bool.and_eq_true] at h
  obtain ⟨h1, h2, h3, h4⟩ := h
  obtain ⟨zs, rfl⟩ := names_of fun x hx => List.all_eq_true.mp h3 x hx
  have l1 := of_decide_eq_true h1
  have l2 := of_decide_eq_true h2
  rw [List.length_map] at l1 l2
  rw [keysD_strs] at h4
  have nd : (zs.map (Sum.inr : Str → Key)).Nodup := dist_iff.mp h4
  exact ⟨zs, rfl, l1, l2, List.Pairwise.of_map _ (fun a b hn e => hn (by rw [e])) nd, fun x hx => List.all_eq_true.mp h3 _ (List.mem_map.mpr ⟨x, hx, rfl⟩)⟩
theorem lnames_ok {zs : List Str} (h : NamesOk zs) : lnames (zs.map D.str) = true := by
  unfold lnames
  rw [List.length_map, decide_eq_true h.lo, decide_eq_true h.hi, keysD_strs, List.all_eq_true.mpr fun x hx => ?_]
  · exact dist_strs h.nd
  · obtain ⟨z, hz, rfl⟩ := List.mem_map.mp hx
    exact h.ok z hz
def isOwn (x : Str) : Bool := decide (x = "moment" ∨ x = "source")
def ownL (zs : List Str) : Bool := zs.any isOwn
theorem own_of {zs : List Str} (h : ownL zs = false) : OwnOk zs := by
  have := List.any_eq_false.mp h
  exact ⟨fun hm => absurd (decide_eq_true (Or.inl rfl)) (this _ hm), fun hm => absurd (decide_eq_true (Or.inr rfl)) (this _ hm)⟩
theorem own_not {zs : List Str} (h : OwnOk zs) : ownL zs = false := by
  refine List.any_eq_false.mpr fun x hx hd => ?_
  rcases of_decide_eq_true hd with rfl | rfl
  · exact h.m hx
  · exact h.s hx
/-- a refused first argument -/
def Bad0 (v : D) : Prop := areN v = false ∨ ∃ zs : List Str, (v = .lst (zs.map D.str) ∨ v = .tup (zs.map D.str)) ∧ NamesOk zs ∧ ownL zs = true
def Good0 (v : D) (fs : List Str) : Prop := (v = .lst (fs.map D.str) ∨ v = .tup (fs.map D.str)) ∧ NamesOk fs ∧ OwnOk fs
def spx_init (A : Ad) : SpD := fun ds M Q Xc => ∃ a f s, ds = [.ref a, f, s] ∧ M a = some (.ins A.c_Shape [] []) ∧ OkV f ∧ OkV s ∧ ((Bad0 f ∧ Xc (xShape A 0) M) ∨ ∃ fs, Good0 f fs ∧
  ((areN s = false ∧ Xc (xShape A 1) M) ∨ ∃ ss, (s = .lst (ss.map D.str) ∨ s = .tup (ss.map D.str)) ∧ NamesOk ss ∧ Q .non (mput M a (.ins A.c_Shape ns_Shape [.tup (fs.map .str), .tup (ss.map .str)]))))
abbrev sp_Shape___init__ := spx_init
def wb_Shape___init__ (A : Ad) : WS :=
  (wSeq (wIf (wOrT (wNotT (wTest (wCall (sp_are_names A) (wCons (wVar 1) (wCons (wCv A.c_Shape (.int 5) (wC (.ref A.c_Shape))) wNil))))) (wTest (wCB (rAllD true) (wCons (wLc (wiSeq (wVar 1)) (gN 3) wYes (wOp (rInD false) (wVar 3) (wC k_OWN_COLUMNS)) [3]) wNil))))
  (wRaise A.c_InvalidShape ["at"] "InvalidShape" (wCons (wC (.int 0)) wNil))
  wNx)
  (wSeq (wIf (wNotT (wTest (wCall (sp_are_names A) (wCons (wVar 2) (wCons (wCv A.c_Shape (.int 5) (wC (.ref A.c_Shape))) wNil)))))
  (wRaise A.c_InvalidShape ["at"] "InvalidShape" (wCons (wC (.int 1)) wNil))
  wNx)
  (wSeq (wFst A.c_Shape [] "own_fields" none (wCB rTupD (wCons (wVar 1) wNil)) (wVar 0))
  (wFst A.c_Shape ["own_fields"] "own_sources" none (wCB rTupD (wCons (wVar 2) wNil)) (wVar 0)))))
theorem bd_Shape___init__ {P : Program} {w : World} {K : PySem.W.Frag} {mg : Str → Option Value} {base : Heap} {A : Ad} (T : Txt P K mg A) (cdv : Value) (R : Around) (outer : List Env) (s : Shared) (H : Hp) (E : XK) (hr : Room 4 (R.deeper (envOfC "Shape.__init__" (defScope s_Shape___init__) s.heap.objs.size A.f_Shape___init__ cdv)))
    (tk : Takes (cxOf (L2.CX P w) P w K mg base N_Shape___init__ "Shape.__init__" (defScope s_Shape___init__) A.f_Shape___init__ cdv R outer s H E) (WD E)) : JSs (cxOf (L2.CX P w) P w K mg base N_Shape___init__ "Shape.__init__" (defScope s_Shape___init__) A.f_Shape___init__ cdv R outer s H E) (WD E) (defBody s_Shape___init__) (wb_Shape___init__ A) :=
  (js_cons (js_if (jt_bool (jt_or (jt_not (jt_val (j_call (ok_are_names T) hr (by decide) T.g_are_names tk (j_cons (jv 1) (j_cons (j_cv T.cv_Shape_FIELDS (j_glob (v := .ref A.c_Shape) T.g_Shape rfl (fun _ _ => rfl))) j_nil))))) (jt_or1 (jt_val (j_callB (cd_any rfl) T.n_any bo_any (j_cons (j_lc (own := [("name", 3)]) rfl sc_Shape___init__.nd (ji_seq (jv 1)) (blkOk_by (own := [("name", 3)]) (N := N_Shape___init__) (sc := defScope s_Shape___init__) (by decide +kernel)) (fun _ _ _ _ _ => (jg_name (i := 3) sc_Shape___init__.nd)) (fun _ _ _ _ _ => jts_nil) (fun _ _ _ _ _ => (j_cmp od_in (jv 3) (j_k T.k_OWN_COLUMNS)))) j_nil))))))
  (js_one (js_raise rfl (xj_InvalidShape T) hr (by decide) tk T.g_InvalidShape (by decide) (j_cons j_int j_nil)))
  js_nil)
  (js_cons (js_if (jt_not (jt_val (j_call (ok_are_names T) hr (by decide) T.g_are_names tk (j_cons (jv 2) (j_cons (j_cv T.cv_Shape_SOURCES (j_glob (v := .ref A.c_Shape) T.g_Shape rfl (fun _ _ => rfl))) j_nil)))))
  (js_one (js_raise rfl (xj_InvalidShape T) hr (by decide) tk T.g_InvalidShape (by decide) (j_cons j_int j_nil)))
  js_nil)
  (js_cons (js_fld (C := A.c_Shape) (ns := []) (o' := none) T.cl_Shape T.na_Shape_own_fields (by decide +kernel) (by decide +kernel) (jv 0) (j_callTy cd_tup T.n_tuple bo_tuple (j_cons (jv 1) j_nil)))
  (js_one (js_fld (C := A.c_Shape) (ns := ["own_fields"]) (o' := none) T.cl_Shape T.na_Shape_own_sources (by decide +kernel) (by decide +kernel) (jv 0) (j_callTy cd_tup T.n_tuple bo_tuple (j_cons (jv 2) j_nil)))))))
theorem in_own {x : Str} : inD (.str x) [.str "moment", .str "source"] = isOwn x := by
  have e2 := inD_strs (x := x) [("moment" : Str), ("source" : Str)]
  rw [show inD (.str x) [.str "moment", .str "source"] = inD (.str x) ([("moment" : Str), ("source" : Str)].map D.str) from rfl, e2]
  unfold isOwn
  simp only [List.any_cons, List.any_nil, Bool.or_false, Bool.decide_or, eq_comm]
theorem rd_Shape___init__ (A : Ad) : ∀ ds M Q Xc, sp_Shape___init__ A ds M Q Xc → ds.length = P_Shape___init__.length ∧ RD (wb_Shape___init__ A) Q Xc (startD N_Shape___init__ ds) M := by
  rintro _ M Q Xc ⟨a, f, s, rfl, ha, hf, hs, h⟩
  refine ⟨rfl, ?_⟩
  rw [st_Shape___init__]
  have big := sizeLine_big
  simp only [RD, wb_Shape___init__, ↓pFau, ↓pFst, ↓pRaise, ↓pPar3, ↓pParK3, ↓rMulS_p, ↓pFmt, ↓pFmtS, ↓pFmtI, ↓pJs0, ↓pJs1, ↓pStrKD, ↓pVar, ↓pGet, ↓pC, ↓pOp, ↓pUn, ↓pCB, ↓pNil, ↓pCons, ↓pTest, ↓pBl, ↓pAndT, ↓pOrT, ↓pNotT, ↓pAndV, ↓pOrV, ↓pNotV, ↓pIfE, ↓pTup, ↓pLst, ↓pLstO, ↓pCall, ↓pMeth, ↓pFld, ↓pProp, ↓pMake, ↓pCv, ↓pSl, ↓pNo, ↓pSome, ↓pIntK, ↓pN, ↓pT, ↓pGC, ↓pGN, ↓pIf, ↓pRet, ↓pRetN, ↓pDrop, ↓pAsg, ↓pNx, ↓pBrk, ↓pCnt, ↓pNever, ↓pSub, ↓pAug, ↓pPar, ↓pParK, ↓pBM, ↓pFor, ↓pLc, ↓pLcO, ↓pYes, ↓piSeq, ↓piStr, ↓pStrK, ↓piRng1, ↓pRng1K, ↓piRng2, ↓pRng2K, ↓piEnum, ↓pEnumK, ↓piZip, ↓pZipL, ↓pZipT, ↓pFz, ↓pLenSet, ↓pIsT, ↓rIx_lst, ↓rIx_tup, ↓rIx_ref, ↓rIx_str, ↓rLen_str, ↓rLen_lst, ↓rLen_tup, ↓rLen_ref, ↓rIs_p, ↓rInt_int, ↓rInt_bl, ↓rStr_int, ↓rList_p, ↓rListO_p, ↓rTup_p, ↓rAdd_int, ↓rAdd_str, ↓rAdd_tup, ↓rAdd_lst, ↓rIntD_p, ↓rInt0_p, ↓rEq_int, ↓rEq_str, ↓rEq_bl, ↓rEq_lst, ↓rEq_tup, ↓rIsN_non, ↓rIsN_bl, ↓rIsN_int, ↓rIsN_str, ↓rIsN_tup, ↓rIsN_lst, ↓rNeg_p, ↓rSl_str, ↓rSl_tup, ↓rSl_lst, ↓rSl_scr, ↓rRep_p, ↓pOptK, ↓pChain, ↓piEnumA, ↓pEnumA_tup, ↓pEnumA_lst, ↓rInV_tup, ↓rInV_lst, ↓rSlN_p, ↓pSlN, ↓pTn, ↓pTnK, ↓pTM, ↓rTidx_p, ↓rLidx_p, ↓rGtL_p, ↓pStar, ↓pIfT, ↓pCallK, ↓pDzip, ↓pDzipK, ↓pDzipO, ↓pDzipKO, ↓rIsB_bl, ↓rDix_str, ↓rDix_int, ↓rIn_tup, ↓rIn_lst, ↓rEq_ns, ↓rEq_sn, ↓rRepT_p, ↓rAll_f, ↓rAll_t, ↓wSeq_p, ↓seqE_nx, ↓reduceIte, at_0, at_1, at_2, at_3, cut_1, cut_2, dl_0_0, dl_0_1, dl_0_2, dl_0_3, dl_0_4, dl_0_5, dl_1_0, dl_1_1, dl_1_2, dl_1_3, dl_1_4, dl_1_5, dl_2_0, dl_2_1, dl_2_2, dl_2_3, dl_2_4, dl_2_5, dl_3_0, dl_3_1, dl_3_2, dl_3_3, dl_3_4, dl_3_5, dl_4_0, dl_4_1, dl_4_2, dl_4_3, dl_4_4, dl_4_5, dn_1_0, dn_2_0, dn_2_1, dn_3_0, dn_3_1, dn_3_2, dn_4_0, dn_4_1, dn_4_2, dn_4_3, seqE_rt, seqE_bk, seqE_ct, seqE_ex, wipeD, frz_lst, frz_tup, at1_0, at2_0, at2_1, at3_0, at3_1, at3_2, at4_0, at4_1, at4_2, at4_3, at5_0, at5_1, at5_2, at5_3, at5_4, seqOf_put, seqOf_lst, seqOf_tup, insK_same, tyN_non, tyN_bl, tyN_int, tyN_str, tyN_tup, tyN_lst, tyN_dct, List.getElem?_cons_zero, List.getElem?_cons_succ, List.set_cons_zero, List.set_cons_succ, List.length_cons, List.length_nil, isB_NoneType_bool, isB_NoneType_int, isB_NoneType_str, isB_NoneType_tuple, isB_NoneType_list, isB_NoneType_dict, isB_bool_bool, isB_bool_int, isB_bool_str, isB_bool_tuple, isB_bool_list, isB_bool_dict, isB_int_bool, isB_int_int, isB_int_str, isB_int_tuple, isB_int_list, isB_int_dict, isB_str_bool, isB_str_int, isB_str_str, isB_str_tuple, isB_str_list, isB_str_dict, isB_tuple_bool, isB_tuple_int, isB_tuple_str, isB_tuple_tuple, isB_tuple_list, isB_tuple_dict, isB_list_bool, isB_list_int, isB_list_str, isB_list_tuple, isB_list_list, isB_list_dict, isB_dict_bool, isB_dict_int, isB_dict_str, isB_dict_tuple, isB_dict_list, isB_dict_dict, isC_bool, isC_int, isC_str, isC_tuple, isC_list, isC_dict, isA_list_tuple, isQ_NoneType, isQ_bool, isQ_int, isQ_str, isQ_tuple, isQ_list, isQ_dict, true_and, and_true, Bool.not_true, Bool.not_false, Bool.false_eq_true, Bool.true_xor, Bool.false_xor]
  refine ⟨f, rfl, hf, ?_⟩
  rcases h with ⟨hb, hx⟩ | ⟨fs, ⟨hv, hn, ho⟩, h⟩
  · rcases hb with hb | ⟨zs, hv, hn, ho⟩
    · rw [hb]
      simp only [pRaise, ↓pFau, ↓pFst, ↓pRaise, ↓pPar3, ↓pParK3, ↓rMulS_p, ↓pFmt, ↓pFmtS, ↓pFmtI, ↓pJs0, ↓pJs1, ↓pStrKD, ↓pVar, ↓pGet, ↓pC, ↓pOp, ↓pUn, ↓pCB, ↓pNil, ↓pCons, ↓pTest, ↓pBl, ↓pAndT, ↓pOrT, ↓pNotT, ↓pAndV, ↓pOrV, ↓pNotV, ↓pIfE, ↓pTup, ↓pLst, ↓pLstO, ↓pCall, ↓pMeth, ↓pFld, ↓pProp, ↓pMake, ↓pCv, ↓pSl, ↓pNo, ↓pSome, ↓pIntK, ↓pN, ↓pT, ↓pGC, ↓pGN, ↓pIf, ↓pRet, ↓pRetN, ↓pDrop, ↓pAsg, ↓pNx, ↓pBrk, ↓pCnt, ↓pNever, ↓pSub, ↓pAug, ↓pPar, ↓pParK, ↓pBM, ↓pFor, ↓pLc, ↓pLcO, ↓pYes, ↓piSeq, ↓piStr, ↓pStrK, ↓piRng1, ↓pRng1K, ↓piRng2, ↓pRng2K, ↓piEnum, ↓pEnumK, ↓piZip, ↓pZipL, ↓pZipT, ↓pFz, ↓pLenSet, ↓pIsT, ↓rIx_lst, ↓rIx_tup, ↓rIx_ref, ↓rIx_str, ↓rLen_str, ↓rLen_lst, ↓rLen_tup, ↓rLen_ref, ↓rIs_p, ↓rInt_int, ↓rInt_bl, ↓rStr_int, ↓rList_p, ↓rListO_p, ↓rTup_p, ↓rAdd_int, ↓rAdd_str, ↓rAdd_tup, ↓rAdd_lst, ↓rIntD_p, ↓rInt0_p, ↓rEq_int, ↓rEq_str, ↓rEq_bl, ↓rEq_lst, ↓rEq_tup, ↓rIsN_non, ↓rIsN_bl, ↓rIsN_int, ↓rIsN_str, ↓rIsN_tup, ↓rIsN_lst, ↓rNeg_p, ↓rSl_str, ↓rSl_tup, ↓rSl_lst, ↓rSl_scr, ↓rRep_p, ↓pOptK, ↓pChain, ↓piEnumA, ↓pEnumA_tup, ↓pEnumA_lst, ↓rInV_tup, ↓rInV_lst, ↓rSlN_p, ↓pSlN, ↓pTn, ↓pTnK, ↓pTM, ↓rTidx_p, ↓rLidx_p, ↓rGtL_p, ↓pStar, ↓pIfT, ↓pCallK, ↓pDzip, ↓pDzipK, ↓pDzipO, ↓pDzipKO, ↓rIsB_bl, ↓rDix_str, ↓rDix_int, ↓rIn_tup, ↓rIn_lst, ↓rEq_ns, ↓rEq_sn, ↓rRepT_p, ↓rAll_f, ↓rAll_t, ↓wSeq_p, ↓seqE_nx, ↓reduceIte, at_0, at_1, at_2, at_3, cut_1, cut_2, dl_0_0, dl_0_1, dl_0_2, dl_0_3, dl_0_4, dl_0_5, dl_1_0, dl_1_1, dl_1_2, dl_1_3, dl_1_4, dl_1_5, dl_2_0, dl_2_1, dl_2_2, dl_2_3, dl_2_4, dl_2_5, dl_3_0, dl_3_1, dl_3_2, dl_3_3, dl_3_4, dl_3_5, dl_4_0, dl_4_1, dl_4_2, dl_4_3, dl_4_4, dl_4_5, dn_1_0, dn_2_0, dn_2_1, dn_3_0, dn_3_1, dn_3_2, dn_4_0, dn_4_1, dn_4_2, dn_4_3, seqE_rt, seqE_bk, seqE_ct, seqE_ex, wipeD, frz_lst, frz_tup, at1_0, at2_0, at2_1, at3_0, at3_1, at3_2, at4_0, at4_1, at4_2, at4_3, at5_0, at5_1, at5_2, at5_3, at5_4, seqOf_put, seqOf_lst, seqOf_tup, insK_same, tyN_non, tyN_bl, tyN_int, tyN_str, tyN_tup, tyN_lst, tyN_dct, List.getElem?_cons_zero, List.getElem?_cons_succ, List.set_cons_zero, List.set_cons_succ, List.length_cons, List.length_nil, isB_NoneType_bool, isB_NoneType_int, isB_NoneType_str, isB_NoneType_tuple, isB_NoneType_list, isB_NoneType_dict, isB_bool_bool, isB_bool_int, isB_bool_str, isB_bool_tuple, isB_bool_list, isB_bool_dict, isB_int_bool, isB_int_int, isB_int_str, isB_int_tuple, isB_int_list, isB_int_dict, isB_str_bool, isB_str_int, isB_str_str, isB_str_tuple, isB_str_list, isB_str_dict, isB_tuple_bool, isB_tuple_int, isB_tuple_str, isB_tuple_tuple, isB_tuple_list, isB_tuple_dict, isB_list_bool, isB_list_int, isB_list_str, isB_list_tuple, isB_list_list, isB_list_dict, isB_dict_bool, isB_dict_int, isB_dict_str, isB_dict_tuple, isB_dict_list, isB_dict_dict, isC_bool, isC_int, isC_str, isC_tuple, isC_list, isC_dict, isA_list_tuple, isQ_NoneType, isQ_bool, isQ_int, isQ_str, isQ_tuple, isQ_list, isQ_dict, true_and, and_true, Bool.not_true, Bool.not_false, Bool.false_eq_true, Bool.true_xor, Bool.false_xor]
      exact hx
    · have e : areN f = true := by rcases hv with rfl | rfl <;> exact lnames_ok hn
      rw [e]
      have n5 := hn.hi
      rcases hv with rfl | rfl
      all_goals
        simp only [↓pFau, ↓pFst, ↓pRaise, ↓pPar3, ↓pParK3, ↓rMulS_p, ↓pFmt, ↓pFmtS, ↓pFmtI, ↓pJs0, ↓pJs1, ↓pStrKD, ↓pVar, ↓pGet, ↓pC, ↓pOp, ↓pUn, ↓pCB, ↓pNil, ↓pCons, ↓pTest, ↓pBl, ↓pAndT, ↓pOrT, ↓pNotT, ↓pAndV, ↓pOrV, ↓pNotV, ↓pIfE, ↓pTup, ↓pLst, ↓pLstO, ↓pCall, ↓pMeth, ↓pFld, ↓pProp, ↓pMake, ↓pCv, ↓pSl, ↓pNo, ↓pSome, ↓pIntK, ↓pN, ↓pT, ↓pGC, ↓pGN, ↓pIf, ↓pRet, ↓pRetN, ↓pDrop, ↓pAsg, ↓pNx, ↓pBrk, ↓pCnt, ↓pNever, ↓pSub, ↓pAug, ↓pPar, ↓pParK, ↓pBM, ↓pFor, ↓pLc, ↓pLcO, ↓pYes, ↓piSeq, ↓piStr, ↓pStrK, ↓piRng1, ↓pRng1K, ↓piRng2, ↓pRng2K, ↓piEnum, ↓pEnumK, ↓piZip, ↓pZipL, ↓pZipT, ↓pFz, ↓pLenSet, ↓pIsT, ↓rIx_lst, ↓rIx_tup, ↓rIx_ref, ↓rIx_str, ↓rLen_str, ↓rLen_lst, ↓rLen_tup, ↓rLen_ref, ↓rIs_p, ↓rInt_int, ↓rInt_bl, ↓rStr_int, ↓rList_p, ↓rListO_p, ↓rTup_p, ↓rAdd_int, ↓rAdd_str, ↓rAdd_tup, ↓rAdd_lst, ↓rIntD_p, ↓rInt0_p, ↓rEq_int, ↓rEq_str, ↓rEq_bl, ↓rEq_lst, ↓rEq_tup, ↓rIsN_non, ↓rIsN_bl, ↓rIsN_int, ↓rIsN_str, ↓rIsN_tup, ↓rIsN_lst, ↓rNeg_p, ↓rSl_str, ↓rSl_tup, ↓rSl_lst, ↓rSl_scr, ↓rRep_p, ↓pOptK, ↓pChain, ↓piEnumA, ↓pEnumA_tup, ↓pEnumA_lst, ↓rInV_tup, ↓rInV_lst, ↓rSlN_p, ↓pSlN, ↓pTn, ↓pTnK, ↓pTM, ↓rTidx_p, ↓rLidx_p, ↓rGtL_p, ↓pStar, ↓pIfT, ↓pCallK, ↓pDzip, ↓pDzipK, ↓pDzipO, ↓pDzipKO, ↓rIsB_bl, ↓rDix_str, ↓rDix_int, ↓rIn_tup, ↓rIn_lst, ↓rEq_ns, ↓rEq_sn, ↓rRepT_p, ↓rAll_f, ↓rAll_t, ↓wSeq_p, ↓seqE_nx, ↓reduceIte, at_0, at_1, at_2, at_3, cut_1, cut_2, dl_0_0, dl_0_1, dl_0_2, dl_0_3, dl_0_4, dl_0_5, dl_1_0, dl_1_1, dl_1_2, dl_1_3, dl_1_4, dl_1_5, dl_2_0, dl_2_1, dl_2_2, dl_2_3, dl_2_4, dl_2_5, dl_3_0, dl_3_1, dl_3_2, dl_3_3, dl_3_4, dl_3_5, dl_4_0, dl_4_1, dl_4_2, dl_4_3, dl_4_4, dl_4_5, dn_1_0, dn_2_0, dn_2_1, dn_3_0, dn_3_1, dn_3_2, dn_4_0, dn_4_1, dn_4_2, dn_4_3, seqE_rt, seqE_bk, seqE_ct, seqE_ex, wipeD, frz_lst, frz_tup, at1_0, at2_0, at2_1, at3_0, at3_1, at3_2, at4_0, at4_1, at4_2, at4_3, at5_0, at5_1, at5_2, at5_3, at5_4, seqOf_put, seqOf_lst, seqOf_tup, insK_same, tyN_non, tyN_bl, tyN_int, tyN_str, tyN_tup, tyN_lst, tyN_dct, List.getElem?_cons_zero, List.getElem?_cons_succ, List.set_cons_zero, List.set_cons_succ, List.length_cons, List.length_nil, isB_NoneType_bool, isB_NoneType_int, isB_NoneType_str, isB_NoneType_tuple, isB_NoneType_list, isB_NoneType_dict, isB_bool_bool, isB_bool_int, isB_bool_str, isB_bool_tuple, isB_bool_list, isB_bool_dict, isB_int_bool, isB_int_int, isB_int_str, isB_int_tuple, isB_int_list, isB_int_dict, isB_str_bool, isB_str_int, isB_str_str, isB_str_tuple, isB_str_list, isB_str_dict, isB_tuple_bool, isB_tuple_int, isB_tuple_str, isB_tuple_tuple, isB_tuple_list, isB_tuple_dict, isB_list_bool, isB_list_int, isB_list_str, isB_list_tuple, isB_list_list, isB_list_dict, isB_dict_bool, isB_dict_int, isB_dict_str, isB_dict_tuple, isB_dict_list, isB_dict_dict, isC_bool, isC_int, isC_str, isC_tuple, isC_list, isC_dict, isA_list_tuple, isQ_NoneType, isQ_bool, isQ_int, isQ_str, isQ_tuple, isQ_list, isQ_dict, true_and, and_true, Bool.not_true, Bool.not_false, Bool.false_eq_true, Bool.true_xor, Bool.false_xor]
        refine lcR_mapL D.str (fun x => .bl (isOwn x)) (fun _ => True) (fun x acc R hx h => ?_) zs [] (fun _ _ => trivial) (by simp only [List.length_nil]; omega) ?_
        · simp only [↓pFau, ↓pFst, ↓pRaise, ↓pPar3, ↓pParK3, ↓rMulS_p, ↓pFmt, ↓pFmtS, ↓pFmtI, ↓pJs0, ↓pJs1, ↓pStrKD, ↓pVar, ↓pGet, ↓pC, ↓pOp, ↓pUn, ↓pCB, ↓pNil, ↓pCons, ↓pTest, ↓pBl, ↓pAndT, ↓pOrT, ↓pNotT, ↓pAndV, ↓pOrV, ↓pNotV, ↓pIfE, ↓pTup, ↓pLst, ↓pLstO, ↓pCall, ↓pMeth, ↓pFld, ↓pProp, ↓pMake, ↓pCv, ↓pSl, ↓pNo, ↓pSome, ↓pIntK, ↓pN, ↓pT, ↓pGC, ↓pGN, ↓pIf, ↓pRet, ↓pRetN, ↓pDrop, ↓pAsg, ↓pNx, ↓pBrk, ↓pCnt, ↓pNever, ↓pSub, ↓pAug, ↓pPar, ↓pParK, ↓pBM, ↓pFor, ↓pLc, ↓pLcO, ↓pYes, ↓piSeq, ↓piStr, ↓pStrK, ↓piRng1, ↓pRng1K, ↓piRng2, ↓pRng2K, ↓piEnum, ↓pEnumK, ↓piZip, ↓pZipL, ↓pZipT, ↓pFz, ↓pLenSet, ↓pIsT, ↓rIx_lst, ↓rIx_tup, ↓rIx_ref, ↓rIx_str, ↓rLen_str, ↓rLen_lst, ↓rLen_tup, ↓rLen_ref, ↓rIs_p, ↓rInt_int, ↓rInt_bl, ↓rStr_int, ↓rList_p, ↓rListO_p, ↓rTup_p, ↓rAdd_int, ↓rAdd_str, ↓rAdd_tup, ↓rAdd_lst, ↓rIntD_p, ↓rInt0_p, ↓rEq_int, ↓rEq_str, ↓rEq_bl, ↓rEq_lst, ↓rEq_tup, ↓rIsN_non, ↓rIsN_bl, ↓rIsN_int, ↓rIsN_str, ↓rIsN_tup, ↓rIsN_lst, ↓rNeg_p, ↓rSl_str, ↓rSl_tup, ↓rSl_lst, ↓rSl_scr, ↓rRep_p, ↓pOptK, ↓pChain, ↓piEnumA, ↓pEnumA_tup, ↓pEnumA_lst, ↓rInV_tup, ↓rInV_lst, ↓rSlN_p, ↓pSlN, ↓pTn, ↓pTnK, ↓pTM, ↓rTidx_p, ↓rLidx_p, ↓rGtL_p, ↓pStar, ↓pIfT, ↓pCallK, ↓pDzip, ↓pDzipK, ↓pDzipO, ↓pDzipKO, ↓rIsB_bl, ↓rDix_str, ↓rDix_int, ↓rIn_tup, ↓rIn_lst, ↓rEq_ns, ↓rEq_sn, ↓rRepT_p, ↓rAll_f, ↓rAll_t, ↓wSeq_p, ↓seqE_nx, ↓reduceIte, at_0, at_1, at_2, at_3, cut_1, cut_2, dl_0_0, dl_0_1, dl_0_2, dl_0_3, dl_0_4, dl_0_5, dl_1_0, dl_1_1, dl_1_2, dl_1_3, dl_1_4, dl_1_5, dl_2_0, dl_2_1, dl_2_2, dl_2_3, dl_2_4, dl_2_5, dl_3_0, dl_3_1, dl_3_2, dl_3_3, dl_3_4, dl_3_5, dl_4_0, dl_4_1, dl_4_2, dl_4_3, dl_4_4, dl_4_5, dn_1_0, dn_2_0, dn_2_1, dn_3_0, dn_3_1, dn_3_2, dn_4_0, dn_4_1, dn_4_2, dn_4_3, seqE_rt, seqE_bk, seqE_ct, seqE_ex, wipeD, frz_lst, frz_tup, at1_0, at2_0, at2_1, at3_0, at3_1, at3_2, at4_0, at4_1, at4_2, at4_3, at5_0, at5_1, at5_2, at5_3, at5_4, seqOf_put, seqOf_lst, seqOf_tup, insK_same, tyN_non, tyN_bl, tyN_int, tyN_str, tyN_tup, tyN_lst, tyN_dct, List.getElem?_cons_zero, List.getElem?_cons_succ, List.set_cons_zero, List.set_cons_succ, List.length_cons, List.length_nil, isB_NoneType_bool, isB_NoneType_int, isB_NoneType_str, isB_NoneType_tuple, isB_NoneType_list, isB_NoneType_dict, isB_bool_bool, isB_bool_int, isB_bool_str, isB_bool_tuple, isB_bool_list, isB_bool_dict, isB_int_bool, isB_int_int, isB_int_str, isB_int_tuple, isB_int_list, isB_int_dict, isB_str_bool, isB_str_int, isB_str_str, isB_str_tuple, isB_str_list, isB_str_dict, isB_tuple_bool, isB_tuple_int, isB_tuple_str, isB_tuple_tuple, isB_tuple_list, isB_tuple_dict, isB_list_bool, isB_list_int, isB_list_str, isB_list_tuple, isB_list_list, isB_list_dict, isB_dict_bool, isB_dict_int, isB_dict_str, isB_dict_tuple, isB_dict_list, isB_dict_dict, isC_bool, isC_int, isC_str, isC_tuple, isC_list, isC_dict, isA_list_tuple, isQ_NoneType, isQ_bool, isQ_int, isQ_str, isQ_tuple, isQ_list, isQ_dict, true_and, and_true, Bool.not_true, Bool.not_false, Bool.false_eq_true, Bool.true_xor, Bool.false_xor, rInD, k_OWN_COLUMNS, in_own]
          exact ⟨rfl, rfl, h⟩
        · rw [List.nil_append]
          have e2 : (zs.map isOwn).any id = true := by rw [List.any_map]; exact ho
          simp only [rAllD, bools_map, ↓pFau, ↓pFst, ↓pRaise, ↓pPar3, ↓pParK3, ↓rMulS_p, ↓pFmt, ↓pFmtS, ↓pFmtI, ↓pJs0, ↓pJs1, ↓pStrKD, ↓pVar, ↓pGet, ↓pC, ↓pOp, ↓pUn, ↓pCB, ↓pNil, ↓pCons, ↓pTest, ↓pBl, ↓pAndT, ↓pOrT, ↓pNotT, ↓pAndV, ↓pOrV, ↓pNotV, ↓pIfE, ↓pTup, ↓pLst, ↓pLstO, ↓pCall, ↓pMeth, ↓pFld, ↓pProp, ↓pMake, ↓pCv, ↓pSl, ↓pNo, ↓pSome, ↓pIntK, ↓pN, ↓pT, ↓pGC, ↓pGN, ↓pIf, ↓pRet, ↓pRetN, ↓pDrop, ↓pAsg, ↓pNx, ↓pBrk, ↓pCnt, ↓pNever, ↓pSub, ↓pAug, ↓pPar, ↓pParK, ↓pBM, ↓pFor, ↓pLc, ↓pLcO, ↓pYes, ↓piSeq, ↓piStr, ↓pStrK, ↓piRng1, ↓pRng1K, ↓piRng2, ↓pRng2K, ↓piEnum, ↓pEnumK, ↓piZip, ↓pZipL, ↓pZipT, ↓pFz, ↓pLenSet, ↓pIsT, ↓rIx_lst, ↓rIx_tup, ↓rIx_ref, ↓rIx_str, ↓rLen_str, ↓rLen_lst, ↓rLen_tup, ↓rLen_ref, ↓rIs_p, ↓rInt_int, ↓rInt_bl, ↓rStr_int, ↓rList_p, ↓rListO_p, ↓rTup_p, ↓rAdd_int, ↓rAdd_str, ↓rAdd_tup, ↓rAdd_lst, ↓rIntD_p, ↓rInt0_p, ↓rEq_int, ↓rEq_str, ↓rEq_bl, ↓rEq_lst, ↓rEq_tup, ↓rIsN_non, ↓rIsN_bl, ↓rIsN_int, ↓rIsN_str, ↓rIsN_tup, ↓rIsN_lst, ↓rNeg_p, ↓rSl_str, ↓rSl_tup, ↓rSl_lst, ↓rSl_scr, ↓rRep_p, ↓pOptK, ↓pChain, ↓piEnumA, ↓pEnumA_tup, ↓pEnumA_lst, ↓rInV_tup, ↓rInV_lst, ↓rSlN_p, ↓pSlN, ↓pTn, ↓pTnK, ↓pTM, ↓rTidx_p, ↓rLidx_p, ↓rGtL_p, ↓pStar, ↓pIfT, ↓pCallK, ↓pDzip, ↓pDzipK, ↓pDzipO, ↓pDzipKO, ↓rIsB_bl, ↓rDix_str, ↓rDix_int, ↓rIn_tup, ↓rIn_lst, ↓rEq_ns, ↓rEq_sn, ↓rRepT_p, ↓rAll_f, ↓rAll_t, ↓wSeq_p, ↓seqE_nx, ↓reduceIte, at_0, at_1, at_2, at_3, cut_1, cut_2, dl_0_0, dl_0_1, dl_0_2, dl_0_3, dl_0_4, dl_0_5, dl_1_0, dl_1_1, dl_1_2, dl_1_3, dl_1_4, dl_1_5, dl_2_0, dl_2_1, dl_2_2, dl_2_3, dl_2_4, dl_2_5, dl_3_0, dl_3_1, dl_3_2, dl_3_3, dl_3_4, dl_3_5, dl_4_0, dl_4_1, dl_4_2, dl_4_3, dl_4_4, dl_4_5, dn_1_0, dn_2_0, dn_2_1, dn_3_0, dn_3_1, dn_3_2, dn_4_0, dn_4_1, dn_4_2, dn_4_3, seqE_rt, seqE_bk, seqE_ct, seqE_ex, wipeD, frz_lst, frz_tup, at1_0, at2_0, at2_1, at3_0, at3_1, at3_2, at4_0, at4_1, at4_2, at4_3, at5_0, at5_1, at5_2, at5_3, at5_4, seqOf_put, seqOf_lst, seqOf_tup, insK_same, tyN_non, tyN_bl, tyN_int, tyN_str, tyN_tup, tyN_lst, tyN_dct, List.getElem?_cons_zero, List.getElem?_cons_succ, List.set_cons_zero, List.set_cons_succ, List.length_cons, List.length_nil, isB_NoneType_bool, isB_NoneType_int, isB_NoneType_str, isB_NoneType_tuple, isB_NoneType_list, isB_NoneType_dict, isB_bool_bool, isB_bool_int, isB_bool_str, isB_bool_tuple, isB_bool_list, isB_bool_dict, isB_int_bool, isB_int_int, isB_int_str, isB_int_tuple, isB_int_list, isB_int_dict, isB_str_bool, isB_str_int, isB_str_str, isB_str_tuple, isB_str_list, isB_str_dict, isB_tuple_bool, isB_tuple_int, isB_tuple_str, isB_tuple_tuple, isB_tuple_list, isB_tuple_dict, isB_list_bool, isB_list_int, isB_list_str, isB_list_tuple, isB_list_list, isB_list_dict, isB_dict_bool, isB_dict_int, isB_dict_str, isB_dict_tuple, isB_dict_list, isB_dict_dict, isC_bool, isC_int, isC_str, isC_tuple, isC_list, isC_dict, isA_list_tuple, isQ_NoneType, isQ_bool, isQ_int, isQ_str, isQ_tuple, isQ_list, isQ_dict, true_and, and_true, Bool.not_true, Bool.not_false, Bool.false_eq_true, Bool.true_xor, Bool.false_xor, e2, pRaise]
          exact hx
  · have e : areN f = true := by rcases hv with rfl | rfl <;> exact lnames_ok hn
    rw [e]
    have n5 := hn.hi
    rcases hv with rfl | rfl
    all_goals
      simp only [↓pFau, ↓pFst, ↓pRaise, ↓pPar3, ↓pParK3, ↓rMulS_p, ↓pFmt, ↓pFmtS, ↓pFmtI, ↓pJs0, ↓pJs1, ↓pStrKD, ↓pVar, ↓pGet, ↓pC, ↓pOp, ↓pUn, ↓pCB, ↓pNil, ↓pCons, ↓pTest, ↓pBl, ↓pAndT, ↓pOrT, ↓pNotT, ↓pAndV, ↓pOrV, ↓pNotV, ↓pIfE, ↓pTup, ↓pLst, ↓pLstO, ↓pCall, ↓pMeth, ↓pFld, ↓pProp, ↓pMake, ↓pCv, ↓pSl, ↓pNo, ↓pSome, ↓pIntK, ↓pN, ↓pT, ↓pGC, ↓pGN, ↓pIf, ↓pRet, ↓pRetN, ↓pDrop, ↓pAsg, ↓pNx, ↓pBrk, ↓pCnt, ↓pNever, ↓pSub, ↓pAug, ↓pPar, ↓pParK, ↓pBM, ↓pFor, ↓pLc, ↓pLcO, ↓pYes, ↓piSeq, ↓piStr, ↓pStrK, ↓piRng1, ↓pRng1K, ↓piRng2, ↓pRng2K, ↓piEnum, ↓pEnumK, ↓piZip, ↓pZipL, ↓pZipT, ↓pFz, ↓pLenSet, ↓pIsT, ↓rIx_lst, ↓rIx_tup, ↓rIx_ref, ↓rIx_str, ↓rLen_str, ↓rLen_lst, ↓rLen_tup, ↓rLen_ref, ↓rIs_p, ↓rInt_int, ↓rInt_bl, ↓rStr_int, ↓rList_p, ↓rListO_p, ↓rTup_p, ↓rAdd_int, ↓rAdd_str, ↓rAdd_tup, ↓rAdd_lst, ↓rIntD_p, ↓rInt0_p, ↓rEq_int, ↓rEq_str, ↓rEq_bl, ↓rEq_lst, ↓rEq_tup, ↓rIsN_non, ↓rIsN_bl, ↓rIsN_int, ↓rIsN_str, ↓rIsN_tup, ↓rIsN_lst, ↓rNeg_p, ↓rSl_str, ↓rSl_tup, ↓rSl_lst, ↓rSl_scr, ↓rRep_p, ↓pOptK, ↓pChain, ↓piEnumA, ↓pEnumA_tup, ↓pEnumA_lst, ↓rInV_tup, ↓rInV_lst, ↓rSlN_p, ↓pSlN, ↓pTn, ↓pTnK, ↓pTM, ↓rTidx_p, ↓rLidx_p, ↓rGtL_p, ↓pStar, ↓pIfT, ↓pCallK, ↓pDzip, ↓pDzipK, ↓pDzipO, ↓pDzipKO, ↓rIsB_bl, ↓rDix_str, ↓rDix_int, ↓rIn_tup, ↓rIn_lst, ↓rEq_ns, ↓rEq_sn, ↓rRepT_p, ↓rAll_f, ↓rAll_t, ↓wSeq_p, ↓seqE_nx, ↓reduceIte, at_0, at_1, at_2, at_3, cut_1, cut_2, dl_0_0, dl_0_1, dl_0_2, dl_0_3, dl_0_4, dl_0_5, dl_1_0, dl_1_1, dl_1_2, dl_1_3, dl_1_4, dl_1_5, dl_2_0, dl_2_1, dl_2_2, dl_2_3, dl_2_4, dl_2_5, dl_3_0, dl_3_1, dl_3_2, dl_3_3, dl_3_4, dl_3_5, dl_4_0, dl_4_1, dl_4_2, dl_4_3, dl_4_4, dl_4_5, dn_1_0, dn_2_0, dn_2_1, dn_3_0, dn_3_1, dn_3_2, dn_4_0, dn_4_1, dn_4_2, dn_4_3, seqE_rt, seqE_bk, seqE_ct, seqE_ex, wipeD, frz_lst, frz_tup, at1_0, at2_0, at2_1, at3_0, at3_1, at3_2, at4_0, at4_1, at4_2, at4_3, at5_0, at5_1, at5_2, at5_3, at5_4, seqOf_put, seqOf_lst, seqOf_tup, insK_same, tyN_non, tyN_bl, tyN_int, tyN_str, tyN_tup, tyN_lst, tyN_dct, List.getElem?_cons_zero, List.getElem?_cons_succ, List.set_cons_zero, List.set_cons_succ, List.length_cons, List.length_nil, isB_NoneType_bool, isB_NoneType_int, isB_NoneType_str, isB_NoneType_tuple, isB_NoneType_list, isB_NoneType_dict, isB_bool_bool, isB_bool_int, isB_bool_str, isB_bool_tuple, isB_bool_list, isB_bool_dict, isB_int_bool, isB_int_int, isB_int_str, isB_int_tuple, isB_int_list, isB_int_dict, isB_str_bool, isB_str_int, isB_str_str, isB_str_tuple, isB_str_list, isB_str_dict, isB_tuple_bool, isB_tuple_int, isB_tuple_str, isB_tuple_tuple, isB_tuple_list, isB_tuple_dict, isB_list_bool, isB_list_int, isB_list_str, isB_list_tuple, isB_list_list, isB_list_dict, isB_dict_bool, isB_dict_int, isB_dict_str, isB_dict_tuple, isB_dict_list, isB_dict_dict, isC_bool, isC_int, isC_str, isC_tuple, isC_list, isC_dict, isA_list_tuple, isQ_NoneType, isQ_bool, isQ_int, isQ_str, isQ_tuple, isQ_list, isQ_dict, true_and, and_true, Bool.not_true, Bool.not_false, Bool.false_eq_true, Bool.true_xor, Bool.false_xor]
      refine lcR_mapL D.str (fun x => .bl (isOwn x)) (fun _ => True) (fun x acc R hx h => ?_) fs [] (fun _ _ => trivial) (by simp only [List.length_nil]; omega) ?_
      · simp only [↓pFau, ↓pFst, ↓pRaise, ↓pPar3, ↓pParK3, ↓rMulS_p, ↓pFmt, ↓pFmtS, ↓pFmtI, ↓pJs0, ↓pJs1, ↓pStrKD, ↓pVar, ↓pGet, ↓pC, ↓pOp, ↓pUn, ↓pCB, ↓pNil, ↓pCons, ↓pTest, ↓pBl, ↓pAndT, ↓pOrT, ↓pNotT, ↓pAndV, ↓pOrV, ↓pNotV, ↓pIfE, ↓pTup, ↓pLst, ↓pLstO, ↓pCall, ↓pMeth, ↓pFld, ↓pProp, ↓pMake, ↓pCv, ↓pSl, ↓pNo, ↓pSome, ↓pIntK, ↓pN, ↓pT, ↓pGC, ↓pGN, ↓pIf, ↓pRet, ↓pRetN, ↓pDrop, ↓pAsg, ↓pNx, ↓pBrk, ↓pCnt, ↓pNever, ↓pSub, ↓pAug, ↓pPar, ↓pParK, ↓pBM, ↓pFor, ↓pLc, ↓pLcO, ↓pYes, ↓piSeq, ↓piStr, ↓pStrK, ↓piRng1, ↓pRng1K, ↓piRng2, ↓pRng2K, ↓piEnum, ↓pEnumK, ↓piZip, ↓pZipL, ↓pZipT, ↓pFz, ↓pLenSet, ↓pIsT, ↓rIx_lst, ↓rIx_tup, ↓rIx_ref, ↓rIx_str, ↓rLen_str, ↓rLen_lst, ↓rLen_tup, ↓rLen_ref, ↓rIs_p, ↓rInt_int, ↓rInt_bl, ↓rStr_int, ↓rList_p, ↓rListO_p, ↓rTup_p, ↓rAdd_int, ↓rAdd_str, ↓rAdd_tup, ↓rAdd_lst, ↓rIntD_p, ↓rInt0_p, ↓rEq_int, ↓rEq_str, ↓rEq_bl, ↓rEq_lst, ↓rEq_tup, ↓rIsN_non, ↓rIsN_bl, ↓rIsN_int, ↓rIsN_str, ↓rIsN_tup, ↓rIsN_lst, ↓rNeg_p, ↓rSl_str, ↓rSl_tup, ↓rSl_lst, ↓rSl_scr, ↓rRep_p, ↓pOptK, ↓pChain, ↓piEnumA, ↓pEnumA_tup, ↓pEnumA_lst, ↓rInV_tup, ↓rInV_lst, ↓rSlN_p, ↓pSlN, ↓pTn, ↓pTnK, ↓pTM, ↓rTidx_p, ↓rLidx_p, ↓rGtL_p, ↓pStar, ↓pIfT, ↓pCallK, ↓pDzip, ↓pDzipK, ↓pDzipO, ↓pDzipKO, ↓rIsB_bl, ↓rDix_str, ↓rDix_int, ↓rIn_tup, ↓rIn_lst, ↓rEq_ns, ↓rEq_sn, ↓rRepT_p, ↓rAll_f, ↓rAll_t, ↓wSeq_p, ↓seqE_nx, ↓reduceIte, at_0, at_1, at_2, at_3, cut_1, cut_2, dl_0_0, dl_0_1, dl_0_2, dl_0_3, dl_0_4, dl_0_5, dl_1_0, dl_1_1, dl_1_2, dl_1_3, dl_1_4, dl_1_5, dl_2_0, dl_2_1, dl_2_2, dl_2_3, dl_2_4, dl_2_5, dl_3_0, dl_3_1, dl_3_2, dl_3_3, dl_3_4, dl_3_5, dl_4_0, dl_4_1, dl_4_2, dl_4_3, dl_4_4, dl_4_5, dn_1_0, dn_2_0, dn_2_1, dn_3_0, dn_3_1, dn_3_2, dn_4_0, dn_4_1, dn_4_2, dn_4_3, seqE_rt, seqE_bk, seqE_ct, seqE_ex, wipeD, frz_lst, frz_tup, at1_0, at2_0, at2_1, at3_0, at3_1, at3_2, at4_0, at4_1, at4_2, at4_3, at5_0, at5_1, at5_2, at5_3, at5_4, seqOf_put, seqOf_lst, seqOf_tup, insK_same, tyN_non, tyN_bl, tyN_int, tyN_str, tyN_tup, tyN_lst, tyN_dct, List.getElem?_cons_zero, List.getElem?_cons_succ, List.set_cons_zero, List.set_cons_succ, List.length_cons, List.length_nil, isB_NoneType_bool, isB_NoneType_int, isB_NoneType_str, isB_NoneType_tuple, isB_NoneType_list, isB_NoneType_dict, isB_bool_bool, isB_bool_int, isB_bool_str, isB_bool_tuple, isB_bool_list, isB_bool_dict, isB_int_bool, isB_int_int, isB_int_str, isB_int_tuple, isB_int_list, isB_int_dict, isB_str_bool, isB_str_int, isB_str_str, isB_str_tuple, isB_str_list, isB_str_dict, isB_tuple_bool, isB_tuple_int, isB_tuple_str, isB_tuple_tuple, isB_tuple_list, isB_tuple_dict, isB_list_bool, isB_list_int, isB_list_str, isB_list_tuple, isB_list_list, isB_list_dict, isB_dict_bool, isB_dict_int, isB_dict_str, isB_dict_tuple, isB_dict_list, isB_dict_dict, isC_bool, isC_int, isC_str, isC_tuple, isC_list, isC_dict, isA_list_tuple, isQ_NoneType, isQ_bool, isQ_int, isQ_str, isQ_tuple, isQ_list, isQ_dict, true_and, and_true, Bool.not_true, Bool.not_false, Bool.false_eq_true, Bool.true_xor, Bool.false_xor, rInD, k_OWN_COLUMNS, in_own]
        exact ⟨rfl, rfl, h⟩
      · rw [List.nil_append]
        have e2 : (fs.map isOwn).any id = false := by rw [List.any_map]; exact own_not ho
        simp only [rAllD, bools_map, ↓pFau, ↓pFst, ↓pRaise, ↓pPar3, ↓pParK3, ↓rMulS_p, ↓pFmt, ↓pFmtS, ↓pFmtI, ↓pJs0, ↓pJs1, ↓pStrKD, ↓pVar, ↓pGet, ↓pC, ↓pOp, ↓pUn, ↓pCB, ↓pNil, ↓pCons, ↓pTest, ↓pBl, ↓pAndT, ↓pOrT, ↓pNotT, ↓pAndV, ↓pOrV, ↓pNotV, ↓pIfE, ↓pTup, ↓pLst, ↓pLstO, ↓pCall, ↓pMeth, ↓pFld, ↓pProp, ↓pMake, ↓pCv, ↓pSl, ↓pNo, ↓pSome, ↓pIntK, ↓pN, ↓pT, ↓pGC, ↓pGN, ↓pIf, ↓pRet, ↓pRetN, ↓pDrop, ↓pAsg, ↓pNx, ↓pBrk, ↓pCnt, ↓pNever, ↓pSub, ↓pAug, ↓pPar, ↓pParK, ↓pBM, ↓pFor, ↓pLc, ↓pLcO, ↓pYes, ↓piSeq, ↓piStr, ↓pStrK, ↓piRng1, ↓pRng1K, ↓piRng2, ↓pRng2K, ↓piEnum, ↓pEnumK, ↓piZip, ↓pZipL, ↓pZipT, ↓pFz, ↓pLenSet, ↓pIsT, ↓rIx_lst, ↓rIx_tup, ↓rIx_ref, ↓rIx_str, ↓rLen_str, ↓rLen_lst, ↓rLen_tup, ↓rLen_ref, ↓rIs_p, ↓rInt_int, ↓rInt_bl, ↓rStr_int, ↓rList_p, ↓rListO_p, ↓rTup_p, ↓rAdd_int, ↓rAdd_str, ↓rAdd_tup, ↓rAdd_lst, ↓rIntD_p, ↓rInt0_p, ↓rEq_int, ↓rEq_str, ↓rEq_bl, ↓rEq_lst, ↓rEq_tup, ↓rIsN_non, ↓rIsN_bl, ↓rIsN_int, ↓rIsN_str, ↓rIsN_tup, ↓rIsN_lst, ↓rNeg_p, ↓rSl_str, ↓rSl_tup, ↓rSl_lst, ↓rSl_scr, ↓rRep_p, ↓pOptK, ↓pChain, ↓piEnumA, ↓pEnumA_tup, ↓pEnumA_lst, ↓rInV_tup, ↓rInV_lst, ↓rSlN_p, ↓pSlN, ↓pTn, ↓pTnK, ↓pTM, ↓rTidx_p, ↓rLidx_p, ↓rGtL_p, ↓pStar, ↓pIfT, ↓pCallK, ↓pDzip, ↓pDzipK, ↓pDzipO, ↓pDzipKO, ↓rIsB_bl, ↓rDix_str, ↓rDix_int, ↓rIn_tup, ↓rIn_lst, ↓rEq_ns, ↓rEq_sn, ↓rRepT_p, ↓rAll_f, ↓rAll_t, ↓wSeq_p, ↓seqE_nx, ↓reduceIte, at_0, at_1, at_2, at_3, cut_1, cut_2, dl_0_0, dl_0_1, dl_0_2, dl_0_3, dl_0_4, dl_0_5, dl_1_0, dl_1_1, dl_1_2, dl_1_3, dl_1_4, dl_1_5, dl_2_0, dl_2_1, dl_2_2, dl_2_3, dl_2_4, dl_2_5, dl_3_0, dl_3_1, dl_3_2, dl_3_3, dl_3_4, dl_3_5, dl_4_0, dl_4_1, dl_4_2, dl_4_3, dl_4_4, dl_4_5, dn_1_0, dn_2_0, dn_2_1, dn_3_0, dn_3_1, dn_3_2, dn_4_0, dn_4_1, dn_4_2, dn_4_3, seqE_rt, seqE_bk, seqE_ct, seqE_ex, wipeD, frz_lst, frz_tup, at1_0, at2_0, at2_1, at3_0, at3_1, at3_2, at4_0, at4_1, at4_2, at4_3, at5_0, at5_1, at5_2, at5_3, at5_4, seqOf_put, seqOf_lst, seqOf_tup, insK_same, tyN_non, tyN_bl, tyN_int, tyN_str, tyN_tup, tyN_lst, tyN_dct, List.getElem?_cons_zero, List.getElem?_cons_succ, List.set_cons_zero, List.set_cons_succ, List.length_cons, List.length_nil, isB_NoneType_bool, isB_NoneType_int, isB_NoneType_str, isB_NoneType_tuple, isB_NoneType_list, isB_NoneType_dict, isB_bool_bool, isB_bool_int, isB_bool_str, isB_bool_tuple, isB_bool_list, isB_bool_dict, isB_int_bool, isB_int_int, isB_int_str, isB_int_tuple, isB_int_list, isB_int_dict, isB_str_bool, isB_str_int, isB_str_str, isB_str_tuple, isB_str_list, isB_str_dict, isB_tuple_bool, isB_tuple_int, isB_tuple_str, isB_tuple_tuple, isB_tuple_list, isB_tuple_dict, isB_list_bool, isB_list_int, isB_list_str, isB_list_tuple, isB_list_list, isB_list_dict, isB_dict_bool, isB_dict_int, isB_dict_str, isB_dict_tuple, isB_dict_list, isB_dict_dict, isC_bool, isC_int, isC_str, isC_tuple, isC_list, isC_dict, isA_list_tuple, isQ_NoneType, isQ_bool, isQ_int, isQ_str, isQ_tuple, isQ_list, isQ_dict, true_and, and_true, Bool.not_true, Bool.not_false, Bool.false_eq_true, Bool.true_xor, Bool.false_xor, e2]
        refine ⟨s, rfl, hs, ?_⟩
        rcases h with ⟨hb, hx⟩ | ⟨ss, hv2, hn2, q⟩
        · rw [hb]
          simp only [pRaise, ↓pFau, ↓pFst, ↓pRaise, ↓pPar3, ↓pParK3, ↓rMulS_p, ↓pFmt, ↓pFmtS, ↓pFmtI, ↓pJs0, ↓pJs1, ↓pStrKD, ↓pVar, ↓pGet, ↓pC, ↓pOp, ↓pUn, ↓pCB, ↓pNil, ↓pCons, ↓pTest, ↓pBl, ↓pAndT, ↓pOrT, ↓pNotT, ↓pAndV, ↓pOrV, ↓pNotV, ↓pIfE, ↓pTup, ↓pLst, ↓pLstO, ↓pCall, ↓pMeth, ↓pFld, ↓pProp, ↓pMake, ↓pCv, ↓pSl, ↓pNo, ↓pSome, ↓pIntK, ↓pN, ↓pT, ↓pGC, ↓pGN, ↓pIf, ↓pRet, ↓pRetN, ↓pDrop, ↓pAsg, ↓pNx, ↓pBrk, ↓pCnt, ↓pNever, ↓pSub, ↓pAug, ↓pPar, ↓pParK, ↓pBM, ↓pFor, ↓pLc, ↓pLcO, ↓pYes, ↓piSeq, ↓piStr, ↓pStrK, ↓piRng1, ↓pRng1K, ↓piRng2, ↓pRng2K, ↓piEnum, ↓pEnumK, ↓piZip, ↓pZipL, ↓pZipT, ↓pFz, ↓pLenSet, ↓pIsT, ↓rIx_lst, ↓rIx_tup, ↓rIx_ref, ↓rIx_str, ↓rLen_str, ↓rLen_lst, ↓rLen_tup, ↓rLen_ref, ↓rIs_p, ↓rInt_int, ↓rInt_bl, ↓rStr_int, ↓rList_p, ↓rListO_p, ↓rTup_p, ↓rAdd_int, ↓rAdd_str, ↓rAdd_tup, ↓rAdd_lst, ↓rIntD_p, ↓rInt0_p, ↓rEq_int, ↓rEq_str, ↓rEq_bl, ↓rEq_lst, ↓rEq_tup, ↓rIsN_non, ↓rIsN_bl, ↓rIsN_int, ↓rIsN_str, ↓rIsN_tup, ↓rIsN_lst, ↓rNeg_p, ↓rSl_str, ↓rSl_tup, ↓rSl_lst, ↓rSl_scr, ↓rRep_p, ↓pOptK, ↓pChain, ↓piEnumA, ↓pEnumA_tup, ↓pEnumA_lst, ↓rInV_tup, ↓rInV_lst, ↓rSlN_p, ↓pSlN, ↓pTn, ↓pTnK, ↓pTM, ↓rTidx_p, ↓rLidx_p, ↓rGtL_p, ↓pStar, ↓pIfT, ↓pCallK, ↓pDzip, ↓pDzipK, ↓pDzipO, ↓pDzipKO, ↓rIsB_bl, ↓rDix_str, ↓rDix_int, ↓rIn_tup, ↓rIn_lst, ↓rEq_ns, ↓rEq_sn, ↓rRepT_p, ↓rAll_f, ↓rAll_t, ↓wSeq_p, ↓seqE_nx, ↓reduceIte, at_0, at_1, at_2, at_3, cut_1, cut_2, dl_0_0, dl_0_1, dl_0_2, dl_0_3, dl_0_4, dl_0_5, dl_1_0, dl_1_1, dl_1_2, dl_1_3, dl_1_4, dl_1_5, dl_2_0, dl_2_1, dl_2_2, dl_2_3, dl_2_4, dl_2_5, dl_3_0, dl_3_1, dl_3_2, dl_3_3, dl_3_4, dl_3_5, dl_4_0, dl_4_1, dl_4_2, dl_4_3, dl_4_4, dl_4_5, dn_1_0, dn_2_0, dn_2_1, dn_3_0, dn_3_1, dn_3_2, dn_4_0, dn_4_1, dn_4_2, dn_4_3, seqE_rt, seqE_bk, seqE_ct, seqE_ex, wipeD, frz_lst, frz_tup, at1_0, at2_0, at2_1, at3_0, at3_1, at3_2, at4_0, at4_1, at4_2, at4_3, at5_0, at5_1, at5_2, at5_3, at5_4, seqOf_put, seqOf_lst, seqOf_tup, insK_same, tyN_non, tyN_bl, tyN_int, tyN_str, tyN_tup, tyN_lst, tyN_dct, List.getElem?_cons_zero, List.getElem?_cons_succ, List.set_cons_zero, List.set_cons_succ, List.length_cons, List.length_nil, isB_NoneType_bool, isB_NoneType_int, isB_NoneType_str, isB_NoneType_tuple, isB_NoneType_list, isB_NoneType_dict, isB_bool_bool, isB_bool_int, isB_bool_str, isB_bool_tuple, isB_bool_list, isB_bool_dict, isB_int_bool, isB_int_int, isB_int_str, isB_int_tuple, isB_int_list, isB_int_dict, isB_str_bool, isB_str_int, isB_str_str, isB_str_tuple, isB_str_list, isB_str_dict, isB_tuple_bool, isB_tuple_int, isB_tuple_str, isB_tuple_tuple, isB_tuple_list, isB_tuple_dict, isB_list_bool, isB_list_int, isB_list_str, isB_list_tuple, isB_list_list, isB_list_dict, isB_dict_bool, isB_dict_int, isB_dict_str, isB_dict_tuple, isB_dict_list, isB_dict_dict, isC_bool, isC_int, isC_str, isC_tuple, isC_list, isC_dict, isA_list_tuple, isQ_NoneType, isQ_bool, isQ_int, isQ_str, isQ_tuple, isQ_list, isQ_dict, true_and, and_true, Bool.not_true, Bool.not_false, Bool.false_eq_true, Bool.true_xor, Bool.false_xor]
          exact hx
        · have e3 : areN s = true := by rcases hv2 with rfl | rfl <;> exact lnames_ok hn2
          rw [e3]
          rcases hv2 with rfl | rfl
          all_goals
            simp only [↓pFau, ↓pFst, ↓pRaise, ↓pPar3, ↓pParK3, ↓rMulS_p, ↓pFmt, ↓pFmtS, ↓pFmtI, ↓pJs0, ↓pJs1, ↓pStrKD, ↓pVar, ↓pGet, ↓pC, ↓pOp, ↓pUn, ↓pCB, ↓pNil, ↓pCons, ↓pTest, ↓pBl, ↓pAndT, ↓pOrT, ↓pNotT, ↓pAndV, ↓pOrV, ↓pNotV, ↓pIfE, ↓pTup, ↓pLst, ↓pLstO, ↓pCall, ↓pMeth, ↓pFld, ↓pProp, ↓pMake, ↓pCv, ↓pSl, ↓pNo, ↓pSome, ↓pIntK, ↓pN, ↓pT, ↓pGC, ↓pGN, ↓pIf, ↓pRet, ↓pRetN, ↓pDrop, ↓pAsg, ↓pNx, ↓pBrk, ↓pCnt, ↓pNever, ↓pSub, ↓pAug, ↓pPar, ↓pParK, ↓pBM, ↓pFor, ↓pLc, ↓pLcO, ↓pYes, ↓piSeq, ↓piStr, ↓pStrK, ↓piRng1, ↓pRng1K, ↓piRng2, ↓pRng2K, ↓piEnum, ↓pEnumK, ↓piZip, ↓pZipL, ↓pZipT, ↓pFz, ↓pLenSet, ↓pIsT, ↓rIx_lst, ↓rIx_tup, ↓rIx_ref, ↓rIx_str, ↓rLen_str, ↓rLen_lst, ↓rLen_tup, ↓rLen_ref, ↓rIs_p, ↓rInt_int, ↓rInt_bl, ↓rStr_int, ↓rList_p, ↓rListO_p, ↓rTup_p, ↓rAdd_int, ↓rAdd_str, ↓rAdd_tup, ↓rAdd_lst, ↓rIntD_p, ↓rInt0_p, ↓rEq_int, ↓rEq_str, ↓rEq_bl, ↓rEq_lst, ↓rEq_tup, ↓rIsN_non, ↓rIsN_bl, ↓rIsN_int, ↓rIsN_str, ↓rIsN_tup, ↓rIsN_lst, ↓rNeg_p, ↓rSl_str, ↓rSl_tup, ↓rSl_lst, ↓rSl_scr, ↓rRep_p, ↓pOptK, ↓pChain, ↓piEnumA, ↓pEnumA_tup, ↓pEnumA_lst, ↓rInV_tup, ↓rInV_lst, ↓rSlN_p, ↓pSlN, ↓pTn, ↓pTnK, ↓pTM, ↓rTidx_p, ↓rLidx_p, ↓rGtL_p, ↓pStar, ↓pIfT, ↓pCallK, ↓pDzip, ↓pDzipK, ↓pDzipO, ↓pDzipKO, ↓rIsB_bl, ↓rDix_str, ↓rDix_int, ↓rIn_tup, ↓rIn_lst, ↓rEq_ns, ↓rEq_sn, ↓rRepT_p, ↓rAll_f, ↓rAll_t, ↓wSeq_p, ↓seqE_nx, ↓reduceIte, at_0, at_1, at_2, at_3, cut_1, cut_2, dl_0_0, dl_0_1, dl_0_2, dl_0_3, dl_0_4, dl_0_5, dl_1_0, dl_1_1, dl_1_2, dl_1_3, dl_1_4, dl_1_5, dl_2_0, dl_2_1, dl_2_2, dl_2_3, dl_2_4, dl_2_5, dl_3_0, dl_3_1, dl_3_2, dl_3_3, dl_3_4, dl_3_5, dl_4_0, dl_4_1, dl_4_2, dl_4_3, dl_4_4, dl_4_5, dn_1_0, dn_2_0, dn_2_1, dn_3_0, dn_3_1, dn_3_2, dn_4_0, dn_4_1, dn_4_2, dn_4_3, seqE_rt, seqE_bk, seqE_ct, seqE_ex, wipeD, frz_lst, frz_tup, at1_0, at2_0, at2_1, at3_0, at3_1, at3_2, at4_0, at4_1, at4_2, at4_3, at5_0, at5_1, at5_2, at5_3, at5_4, seqOf_put, seqOf_lst, seqOf_tup, insK_same, tyN_non, tyN_bl, tyN_int, tyN_str, tyN_tup, tyN_lst, tyN_dct, List.getElem?_cons_zero, List.getElem?_cons_succ, List.set_cons_zero, List.set_cons_succ, List.length_cons, List.length_nil, isB_NoneType_bool, isB_NoneType_int, isB_NoneType_str, isB_NoneType_tuple, isB_NoneType_list, isB_NoneType_dict, isB_bool_bool, isB_bool_int, isB_bool_str, isB_bool_tuple, isB_bool_list, isB_bool_dict, isB_int_bool, isB_int_int, isB_int_str, isB_int_tuple, isB_int_list, isB_int_dict, isB_str_bool, isB_str_int, isB_str_str, isB_str_tuple, isB_str_list, isB_str_dict, isB_tuple_bool, isB_tuple_int, isB_tuple_str, isB_tuple_tuple, isB_tuple_list, isB_tuple_dict, isB_list_bool, isB_list_int, isB_list_str, isB_list_tuple, isB_list_list, isB_list_dict, isB_dict_bool, isB_dict_int, isB_dict_str, isB_dict_tuple, isB_dict_list, isB_dict_dict, isC_bool, isC_int, isC_str, isC_tuple, isC_list, isC_dict, isA_list_tuple, isQ_NoneType, isQ_bool, isQ_int, isQ_str, isQ_tuple, isQ_list, isQ_dict, true_and, and_true, Bool.not_true, Bool.not_false, Bool.false_eq_true, Bool.true_xor, Bool.false_xor, fstK_own ha]
            refine (show fstK A.c_Shape ["own_fields"] "own_sources" none _ _ (.tup (ss.map D.str)) (.ref a) (mput M a (.ins A.c_Shape ["own_fields"] [.tup (fs.map D.str)])) from ?_)
            rw [fstK_own mput_same, mput_mput]
            exact fin_of q
theorem ok_Shape___init__ {P : Program} {w : World} {K : PySem.W.Frag} {mg : Str → Option Value} {base : Heap} {A : Ad} (T : Txt P K mg A) : FnJ P w K mg base 5 A.f_Shape___init__ (sp_Shape___init__ A) :=
  FnJ.mkAt T.d_Shape___init__ sc_Shape___init__ (fun cdv R outer s H E hr tk => bd_Shape___init__ T cdv R outer s H E hr tk) (rd_Shape___init__ A)
def sp_Shape_plain (A : Ad) : SpD := fun ds M Q Xc => ds.length ≤ 10 ∧ OkV (.tup ds) ∧ Bad0 (.tup ds) ∧ Xc (xShape A 0) M
def wb_Shape_plain (A : Ad) : WS :=
  (wRet (wMake A.c_Shape (sp_Shape___init__ A) (wCons (wVar 0) (wCons (wTup (wCons (wC (.str "one")) (wCons (wC (.str "two")) wNil))) wNil))))
theorem bd_Shape_plain {P : Program} {w : World} {K : PySem.W.Frag} {mg : Str → Option Value} {base : Heap} {A : Ad} (T : Txt P K mg A) (cdv : Value) (R : Around) (outer : List Env) (s : Shared) (H : Hp) (E : XK) (hr : Room 6 (R.deeper (envOfC "Shape.plain" (defScope s_Shape_plain) s.heap.objs.size A.f_Shape_plain cdv)))
    (tk : Takes (cxOf (L2.CX P w) P w K mg base N_Shape_plain "Shape.plain" (defScope s_Shape_plain) A.f_Shape_plain cdv R outer s H E) (WD E)) : JSs (cxOf (L2.CX P w) P w K mg base N_Shape_plain "Shape.plain" (defScope s_Shape_plain) A.f_Shape_plain cdv R outer s H E) (WD E) (defBody s_Shape_plain) (wb_Shape_plain A) :=
  (js_one (js_ret (j_make (C := A.c_Shape) T.mk_Shape (ok_Shape___init__ T) hr (by decide) T.g_Shape tk (j_cons (jv 0) (j_cons (j_tup (j_cons j_str (j_cons j_str j_nil))) j_nil)))))
theorem rd_Shape_plain (A : Ad) : ∀ ds M Q Xc, sp_Shape_plain A ds M Q Xc → wb_Shape_plain A { nx := fun _ M => Fin Q .non M, rt := Fin Q, ex := fun x _ M => FinX Xc x M } (startD N_Shape_plain [.tup ds]) M := by
  rintro ds M Q Xc ⟨hl, ok, hb, hx⟩
  have big := sizeLine_big
  rw [st_Shape_plain]
  simp only [wb_Shape_plain, ↓pFau, ↓pFst, ↓pRaise, ↓pPar3, ↓pParK3, ↓rMulS_p, ↓pFmt, ↓pFmtS, ↓pFmtI, ↓pJs0, ↓pJs1, ↓pStrKD, ↓pVar, ↓pGet, ↓pC, ↓pOp, ↓pUn, ↓pCB, ↓pNil, ↓pCons, ↓pTest, ↓pBl, ↓pAndT, ↓pOrT, ↓pNotT, ↓pAndV, ↓pOrV, ↓pNotV, ↓pIfE, ↓pTup, ↓pLst, ↓pLstO, ↓pCall, ↓pMeth, ↓pFld, ↓pProp, ↓pMake, ↓pCv, ↓pSl, ↓pNo, ↓pSome, ↓pIntK, ↓pN, ↓pT, ↓pGC, ↓pGN, ↓pIf, ↓pRet, ↓pRetN, ↓pDrop, ↓pAsg, ↓pNx, ↓pBrk, ↓pCnt, ↓pNever, ↓pSub, ↓pAug, ↓pPar, ↓pParK, ↓pBM, ↓pFor, ↓pLc, ↓pLcO, ↓pYes, ↓piSeq, ↓piStr, ↓pStrK, ↓piRng1, ↓pRng1K, ↓piRng2, ↓pRng2K, ↓piEnum, ↓pEnumK, ↓piZip, ↓pZipL, ↓pZipT, ↓pFz, ↓pLenSet, ↓pIsT, ↓rIx_lst, ↓rIx_tup, ↓rIx_ref, ↓rIx_str, ↓rLen_str, ↓rLen_lst, ↓rLen_tup, ↓rLen_ref, ↓rIs_p, ↓rInt_int, ↓rInt_bl, ↓rStr_int, ↓rList_p, ↓rListO_p, ↓rTup_p, ↓rAdd_int, ↓rAdd_str, ↓rAdd_tup, ↓rAdd_lst, ↓rIntD_p, ↓rInt0_p, ↓rEq_int, ↓rEq_str, ↓rEq_bl, ↓rEq_lst, ↓rEq_tup, ↓rIsN_non, ↓rIsN_bl, ↓rIsN_int, ↓rIsN_str, ↓rIsN_tup, ↓rIsN_lst, ↓rNeg_p, ↓rSl_str, ↓rSl_tup, ↓rSl_lst, ↓rSl_scr, ↓rRep_p, ↓pOptK, ↓pChain, ↓piEnumA, ↓pEnumA_tup, ↓pEnumA_lst, ↓rInV_tup, ↓rInV_lst, ↓rSlN_p, ↓pSlN, ↓pTn, ↓pTnK, ↓pTM, ↓rTidx_p, ↓rLidx_p, ↓rGtL_p, ↓pStar, ↓pIfT, ↓pCallK, ↓pDzip, ↓pDzipK, ↓pDzipO, ↓pDzipKO, ↓rIsB_bl, ↓rDix_str, ↓rDix_int, ↓rIn_tup, ↓rIn_lst, ↓rEq_ns, ↓rEq_sn, ↓rRepT_p, ↓rAll_f, ↓rAll_t, ↓wSeq_p, ↓seqE_nx, ↓reduceIte, at_0, at_1, at_2, at_3, cut_1, cut_2, dl_0_0, dl_0_1, dl_0_2, dl_0_3, dl_0_4, dl_0_5, dl_1_0, dl_1_1, dl_1_2, dl_1_3, dl_1_4, dl_1_5, dl_2_0, dl_2_1, dl_2_2, dl_2_3, dl_2_4, dl_2_5, dl_3_0, dl_3_1, dl_3_2, dl_3_3, dl_3_4, dl_3_5, dl_4_0, dl_4_1, dl_4_2, dl_4_3, dl_4_4, dl_4_5, dn_1_0, dn_2_0, dn_2_1, dn_3_0, dn_3_1, dn_3_2, dn_4_0, dn_4_1, dn_4_2, dn_4_3, seqE_rt, seqE_bk, seqE_ct, seqE_ex, wipeD, frz_lst, frz_tup, at1_0, at2_0, at2_1, at3_0, at3_1, at3_2, at4_0, at4_1, at4_2, at4_3, at5_0, at5_1, at5_2, at5_3, at5_4, seqOf_put, seqOf_lst, seqOf_tup, insK_same, tyN_non, tyN_bl, tyN_int, tyN_str, tyN_tup, tyN_lst, tyN_dct, List.getElem?_cons_zero, List.getElem?_cons_succ, List.set_cons_zero, List.set_cons_succ, List.length_cons, List.length_nil, isB_NoneType_bool, isB_NoneType_int, isB_NoneType_str, isB_NoneType_tuple, isB_NoneType_list, isB_NoneType_dict, isB_bool_bool, isB_bool_int, isB_bool_str, isB_bool_tuple, isB_bool_list, isB_bool_dict, isB_int_bool, isB_int_int, isB_int_str, isB_int_tuple, isB_int_list, isB_int_dict, isB_str_bool, isB_str_int, isB_str_str, isB_str_tuple, isB_str_list, isB_str_dict, isB_tuple_bool, isB_tuple_int, isB_tuple_str, isB_tuple_tuple, isB_tuple_list, isB_tuple_dict, isB_list_bool, isB_list_int, isB_list_str, isB_list_tuple, isB_list_list, isB_list_dict, isB_dict_bool, isB_dict_int, isB_dict_str, isB_dict_tuple, isB_dict_list, isB_dict_dict, isC_bool, isC_int, isC_str, isC_tuple, isC_list, isC_dict, isA_list_tuple, isQ_NoneType, isQ_bool, isQ_int, isQ_str, isQ_tuple, isQ_list, isQ_dict, true_and, and_true, Bool.not_true, Bool.not_false, Bool.false_eq_true, Bool.true_xor, Bool.false_xor]
  refine ⟨by omega, fun a ha => ?_⟩
  have so : ∀ x ∈ ([.str "one", .str "two"] : List D), pl x = true ∧ short x := by
    intro x hx
    simp only [List.mem_cons, List.not_mem_nil, or_false] at hx
    rcases hx with rfl | rfl
    · exact ⟨rfl, by show (("one" : Str)).length < 90000; decide +kernel⟩
    · exact ⟨rfl, by show (("two" : Str)).length < 90000; decide +kernel⟩
  refine ⟨a, _, _, rfl, mput_same, ok, .tup so, .inl ⟨hb, M, fun b o h => ?_, hx⟩⟩
  have e : b ≠ a := fun e => by subst e; rw [ha] at h; cases h
  rw [mput_ne e]
  exact h
theorem ok_Shape_plain {P : Program} {w : World} {K : PySem.W.Frag} {mg : Str → Option Value} {base : Heap} {A : Ad} (T : Txt P K mg A) : FnV P w K mg base 6 A.f_Shape_plain (sp_Shape_plain A) :=
  FnV.mkAt T.d_Shape_plain sc_Shape_plain (fun cdv R outer s H E hr tk => bd_Shape_plain T cdv R outer s H E hr tk) (rd_Shape_plain A)

end DL.K03
namespace DL.K03
open PySem PySem.Spec PyProof.Rows L2 RZ
def wb__law_field (K : PySem.W.Frag) (A : Ad) (a dd C : Addr) : WS :=
  (wSeq (wIf (wTest (wOp (rInD false) (wXf K a dd C "tag" (wVar 0)) (wTup (wCons (wC (.str "InvalidShape")) (wCons (wC (.str "ParseError")) wNil)))))
  (wRet (wTup (wCons (wXf K a dd C "at" (wVar 0)) wNil)))
  wNx)
  (wSeq (wIf (wTest (wOp (rInD false) (wXf K a dd C "tag" (wVar 0)) (wTup (wCons (wC (.str "InvalidRow")) (wCons (wC (.str "InvalidMost")) (wCons (wC (.str "InvalidDepth")) (wCons (wC (.str "InvalidLimit")) (wCons (wC (.str "InvalidName")) wNil))))))))
  (wRet (wTup (wCons (wXf K a dd C "given" (wVar 0)) wNil)))
  wNx)
  (wSeq (wIf (wTest (wOp (rInD false) (wXf K a dd C "tag" (wVar 0)) (wTup (wCons (wC (.str "DuplicateName")) (wCons (wC (.str "SameName")) (wCons (wC (.str "WrongKind")) (wCons (wC (.str "UnknownName")) wNil)))))))
  (wRet (wTup (wCons (wXf K a dd C "name" (wVar 0)) wNil)))
  wNx)
  (wSeq (wIf (wTest (wOp (rInD false) (wXf K a dd C "tag" (wVar 0)) (wTup (wCons (wC (.str "AlreadyMerged")) (wCons (wC (.str "NotMerged")) wNil)))))
  (wRet (wTup (wCons (wXf K a dd C "one" (wVar 0)) (wCons (wXf K a dd C "other" (wVar 0)) wNil))))
  wNx)
  (wSeq (wIf (wTest (wOp (rInD false) (wXf K a dd C "tag" (wVar 0)) (wTup (wCons (wC (.str "DuplicateMoment")) (wCons (wC (.str "UnknownMoment")) wNil)))))
  (wRet (wTup (wCons (wXf K a dd C "moment" (wVar 0)) wNil)))
  wNx)
  (wSeq (wIf (wTest (wOp (rInD false) (wXf K a dd C "tag" (wVar 0)) (wTup (wCons (wC (.str "Full")) (wCons (wC (.str "TooWide")) wNil)))))
  (wRet (wTup (wCons (wXf K a dd C "most" (wVar 0)) wNil)))
  wNx)
  (wSeq (wIf (wTest (wOp (rInD false) (wXf K a dd C "tag" (wVar 0)) (wTup (wCons (wC (.str "InvalidForm")) (wCons (wC (.str "InvalidDeed")) wNil)))))
  (wRet (wIfE (wTest (wOp (rEqD false) (wXf K a dd C "tag" (wVar 0)) (wC (.str "InvalidForm")))) (wTup (wCons (wXf K a dd C "path" (wVar 0)) wNil)) (wTup (wCons (wXf K a dd C "word" (wVar 0)) wNil))))
  wNx)
  (wRet (wIfE (wTest (wOp (rEqD false) (wXf K a dd C "tag" (wVar 0)) (wC (.str "InvalidPage")))) (wTup (wCons (wXf K a dd C "line" (wVar 0)) wNil)) (wTup wNil))))))))))
theorem bd__law_field {P : Program} {w : World} {K : PySem.W.Frag} {mg : Str → Option Value} {base : Heap} {A : Ad} (T : Txt P K mg A) (cdv : Value) (R : Around) (outer : List Env) (s : Shared) (H : Hp) (p : Addr × Obj) (a dd C : Addr) (hr : L2H.RoomH 0 (R.deeper (envOfC "_law_field" (defScope s__law_field) s.heap.objs.size A.f__law_field cdv))) (px : PinX p a dd C)
    : JSs (L2H.cxH CX0 P w K mg base N__law_field "_law_field" (defScope s__law_field) A.f__law_field cdv R outer s H E0 p) WF (defBody s__law_field) (wb__law_field K A a dd C) :=
  have hp : p ∈ ([p] : List (Addr × Obj)) := List.mem_cons_self
  (js_cons (js_if (jt_cmp od_in (j_xf hp px (jv 0)) (j_tup (j_cons j_str (j_cons j_str j_nil))))
  (js_one (js_ret (j_tup (j_cons (j_xf hp px (jv 0)) j_nil))))
  js_nil)
  (js_cons (js_if (jt_cmp od_in (j_xf hp px (jv 0)) (j_tup (j_cons j_str (j_cons j_str (j_cons j_str (j_cons j_str (j_cons j_str j_nil)))))))
  (js_one (js_ret (j_tup (j_cons (j_xf hp px (jv 0)) j_nil))))
  js_nil)
  (js_cons (js_if (jt_cmp od_in (j_xf hp px (jv 0)) (j_tup (j_cons j_str (j_cons j_str (j_cons j_str (j_cons j_str j_nil))))))
  (js_one (js_ret (j_tup (j_cons (j_xf hp px (jv 0)) j_nil))))
  js_nil)
  (js_cons (js_if (jt_cmp od_in (j_xf hp px (jv 0)) (j_tup (j_cons j_str (j_cons j_str j_nil))))
  (js_one (js_ret (j_tup (j_cons (j_xf hp px (jv 0)) (j_cons (j_xf hp px (jv 0)) j_nil)))))
  js_nil)
  (js_cons (js_if (jt_cmp od_in (j_xf hp px (jv 0)) (j_tup (j_cons j_str (j_cons j_str j_nil))))
  (js_one (js_ret (j_tup (j_cons (j_xf hp px (jv 0)) j_nil))))
  js_nil)
  (js_cons (js_if (jt_cmp od_in (j_xf hp px (jv 0)) (j_tup (j_cons j_str (j_cons j_str j_nil))))
  (js_one (js_ret (j_tup (j_cons (j_xf hp px (jv 0)) j_nil))))
  js_nil)
  (js_cons (js_if (jt_cmp od_in (j_xf hp px (jv 0)) (j_tup (j_cons j_str (j_cons j_str j_nil))))
  (js_one (js_ret (j_if (jt_cmp (od_eq hr.units) (j_xf hp px (jv 0)) j_str) (j_tup (j_cons (j_xf hp px (jv 0)) j_nil)) (j_tup (j_cons (j_xf hp px (jv 0)) j_nil)))))
  js_nil)
  (js_one (js_ret (j_if (jt_cmp (od_eq hr.units) (j_xf hp px (jv 0)) j_str) (j_tup (j_cons (j_xf hp px (jv 0)) j_nil)) (j_tup j_nil)))))))))))
theorem pXf {K : PySem.W.Frag} {a dd C : Addr} {f : Str} {we : WE} {ds : SD} {M : Mem} {Q : KN} {Xc : KX} : wXf K a dd C f we ds M Q Xc = we ds M (fun d M1 => ∃ ns xs i v, d = .exc a dd C ns xs ∧ XfC K C ∧ PySem.W.findIn K (.ref C) f = some none ∧ ns.findIdx? (· == f) = some i ∧ xs[i]? = some v ∧ Q v M1) Xc := propext Iff.rfl
theorem xf_step {K : PySem.W.Frag} {a dd C : Addr} {ns : List Str} {xs : List D} {f : Str} {i : Nat} {v : D} {k : D → Prop} (hx : XfC K C) (h1 : PySem.W.findIn K (.ref C) f = some none) (h2 : ns.findIdx? (· == f) = some i) (h3 : xs[i]? = some v) (h4 : k v) :
    ∃ ns' xs' i v, D.exc a dd C ns xs = .exc a dd C ns' xs' ∧ XfC K C ∧ PySem.W.findIn K (.ref C) f = some none ∧ ns'.findIdx? (· == f) = some i ∧ xs'[i]? = some v ∧ k v := ⟨_, _, i, v, rfl, hx, h1, h2, h3, h4⟩
theorem rd__law_field {P : Program} {K : PySem.W.Frag} {mg : Str → Option Value} {A : Ad} (T : Txt P K mg A) : ∀ a dd C ns xs M Q, spFd (xt A) C ns xs M Q → wb__law_field K A a dd C { nx := fun _ M => Fin Q .non M, rt := Fin Q, ex := fun _ _ _ => False } (startD N__law_field [.exc a dd C ns xs]) M := by
  rintro a dd C ns ds M Q ⟨tag, fs, xs, hin, rfl, rfl, hl, q⟩
  have big := sizeLine_big
  rw [st__law_field]
  simp only [xt, List.mem_cons, List.not_mem_nil, or_false, Prod.mk.injEq] at hin
  rcases hin with ⟨rfl, rfl, rfl⟩
  · obtain ⟨y0, rfl⟩ : ∃ y0, xs = [y0] := by
      match xs, hl with
      | [y0], _ => exact ⟨y0, rfl⟩
    have hx := T.x_InvalidShape.xf
    simp only [wb__law_field, pXf, ↓pFau, ↓pFst, ↓pRaise, ↓pPar3, ↓pParK3, ↓rMulS_p, ↓pFmt, ↓pFmtS, ↓pFmtI, ↓pJs0, ↓pJs1, ↓pStrKD, ↓pVar, ↓pGet, ↓pC, ↓pOp, ↓pUn, ↓pCB, ↓pNil, ↓pCons, ↓pTest, ↓pBl, ↓pAndT, ↓pOrT, ↓pNotT, ↓pAndV, ↓pOrV, ↓pNotV, ↓pIfE, ↓pTup, ↓pLst, ↓pLstO, ↓pCall, ↓pMeth, ↓pFld, ↓pProp, ↓pMake, ↓pCv, ↓pSl, ↓pNo, ↓pSome, ↓pIntK, ↓pN, ↓pT, ↓pGC, ↓pGN, ↓pIf, ↓pRet, ↓pRetN, ↓pDrop, ↓pAsg, ↓pNx, ↓pBrk, ↓pCnt, ↓pNever, ↓pSub, ↓pAug, ↓pPar, ↓pParK, ↓pBM, ↓pFor, ↓pLc, ↓pLcO, ↓pYes, ↓piSeq, ↓piStr, ↓pStrK, ↓piRng1, ↓pRng1K, ↓piRng2, ↓pRng2K, ↓piEnum, ↓pEnumK, ↓piZip, ↓pZipL, ↓pZipT, ↓pFz, ↓pLenSet, ↓pIsT, ↓rIx_lst, ↓rIx_tup, ↓rIx_ref, ↓rIx_str, ↓rLen_str, ↓rLen_lst, ↓rLen_tup, ↓rLen_ref, ↓rIs_p, ↓rInt_int, ↓rInt_bl, ↓rStr_int, ↓rList_p, ↓rListO_p, ↓rTup_p, ↓rAdd_int, ↓rAdd_str, ↓rAdd_tup, ↓rAdd_lst, ↓rIntD_p, ↓rInt0_p, ↓rEq_int, ↓rEq_str, ↓rEq_bl, ↓rEq_lst, ↓rEq_tup, ↓rIsN_non, ↓rIsN_bl, ↓rIsN_int, ↓rIsN_str, ↓rIsN_tup, ↓rIsN_lst, ↓rNeg_p, ↓rSl_str, ↓rSl_tup, ↓rSl_lst, ↓rSl_scr, ↓rRep_p, ↓pOptK, ↓pChain, ↓piEnumA, ↓pEnumA_tup, ↓pEnumA_lst, ↓rInV_tup, ↓rInV_lst, ↓rSlN_p, ↓pSlN, ↓pTn, ↓pTnK, ↓pTM, ↓rTidx_p, ↓rLidx_p, ↓rGtL_p, ↓pStar, ↓pIfT, ↓pCallK, ↓pDzip, ↓pDzipK, ↓pDzipO, ↓pDzipKO, ↓rIsB_bl, ↓rDix_str, ↓rDix_int, ↓rIn_tup, ↓rIn_lst, ↓rEq_ns, ↓rEq_sn, ↓rRepT_p, ↓rAll_f, ↓rAll_t, ↓wSeq_p, ↓seqE_nx, ↓reduceIte, at_0, at_1, at_2, at_3, cut_1, cut_2, dl_0_0, dl_0_1, dl_0_2, dl_0_3, dl_0_4, dl_0_5, dl_1_0, dl_1_1, dl_1_2, dl_1_3, dl_1_4, dl_1_5, dl_2_0, dl_2_1, dl_2_2, dl_2_3, dl_2_4, dl_2_5, dl_3_0, dl_3_1, dl_3_2, dl_3_3, dl_3_4, dl_3_5, dl_4_0, dl_4_1, dl_4_2, dl_4_3, dl_4_4, dl_4_5, dn_1_0, dn_2_0, dn_2_1, dn_3_0, dn_3_1, dn_3_2, dn_4_0, dn_4_1, dn_4_2, dn_4_3, seqE_rt, seqE_bk, seqE_ct, seqE_ex, wipeD, frz_lst, frz_tup, at1_0, at2_0, at2_1, at3_0, at3_1, at3_2, at4_0, at4_1, at4_2, at4_3, at5_0, at5_1, at5_2, at5_3, at5_4, seqOf_put, seqOf_lst, seqOf_tup, insK_same, tyN_non, tyN_bl, tyN_int, tyN_str, tyN_tup, tyN_lst, tyN_dct, List.getElem?_cons_zero, List.getElem?_cons_succ, List.set_cons_zero, List.set_cons_succ, List.length_cons, List.length_nil, isB_NoneType_bool, isB_NoneType_int, isB_NoneType_str, isB_NoneType_tuple, isB_NoneType_list, isB_NoneType_dict, isB_bool_bool, isB_bool_int, isB_bool_str, isB_bool_tuple, isB_bool_list, isB_bool_dict, isB_int_bool, isB_int_int, isB_int_str, isB_int_tuple, isB_int_list, isB_int_dict, isB_str_bool, isB_str_int, isB_str_str, isB_str_tuple, isB_str_list, isB_str_dict, isB_tuple_bool, isB_tuple_int, isB_tuple_str, isB_tuple_tuple, isB_tuple_list, isB_tuple_dict, isB_list_bool, isB_list_int, isB_list_str, isB_list_tuple, isB_list_list, isB_list_dict, isB_dict_bool, isB_dict_int, isB_dict_str, isB_dict_tuple, isB_dict_list, isB_dict_dict, isC_bool, isC_int, isC_str, isC_tuple, isC_list, isC_dict, isA_list_tuple, isQ_NoneType, isQ_bool, isQ_int, isQ_str, isQ_tuple, isQ_list, isQ_dict, true_and, and_true, Bool.not_true, Bool.not_false, Bool.false_eq_true, Bool.true_xor, Bool.false_xor]
    refine xf_step hx T.nf_InvalidShape_tag rfl rfl ?_
    refine ⟨by omega, rfl, rfl, ?_⟩
    rw [if_pos (by decide)]
    refine xf_step hx T.nf_InvalidShape_at rfl rfl ?_
    exact ⟨by omega, fin_of q⟩
theorem ok__law_field {P : Program} {w : World} {K : PySem.W.Frag} {mg : Str → Option Value} {base : Heap} {A : Ad} (T : Txt P K mg A) : FnXJ P w K mg base 1 A.f__law_field (spFd (xt A)) :=
  FnXJ.mkAt T.d__law_field sc__law_field (fun cdv R outer s H p a dd C hr px => bd__law_field T cdv R outer s H p a dd C hr px) (rd__law_field T)
theorem tg {X : Cx} {A : Ad} {q : Str} (T : Txt X.prog X.K X.mg A) (hr : Room 11 X.A) : ∀ cdv, LamX.GivesTo X N__law_try "_law_try" (defScope s__law_try) A.f__law_try cdv (defBody s__law_try) "_law_ask" q (TTry X.K (xcs A) (spFd (xt A))) := fun cdv =>
  try_gives (fun L => hr.deeper _) (by decide) (ok__law_field T) T.g__law_field sc__law_try.nd rfl rfl rfl rfl rfl rfl T.g_SightError T.g_Missing T.g_NothingLeft (by decide) (by decide) (by decide) (by decide) (by decide) (by decide) (fun _ => rfl)

/-! ### the bag -/
def bagO (cs : List Int) (i c s n : Int) : MO := .lst [.lst (cs.map D.int), .int i, .int c, .int s, .int n]
structure Bg0 (cs : List Int) (i c s n : Int) : Prop where
  i0 : 0 ≤ i
  c0 : 0 ≤ c
  s0 : 0 ≤ s
  s1 : s < 2147483587
def Bg (o : MO) : Prop := ∃ cs i c s n, o = bagO cs i c s n ∧ Bg0 cs i c s n
def sp__law_opened (A : Ad) : SpD := fun ds M Q _ => ∃ ns d, ds = [d] ∧ ScrD ns d ∧ ∀ b o, M b = none → Bg o → Q (.ref b) (mput M b o)
def wb__law_opened (A : Ad) : WS :=
  (wRet (wLstO (wCons (wCB rListD (wCons (wSl (wVar 0) wNo (wSome (wC (.int 63)))) wNil)) (wCons (wC (.int 0)) (wCons (wC (.int 0)) (wCons (wC (.int 5631)) (wCons (wC (.int 0)) wNil)))))))
theorem bd__law_opened {P : Program} {w : World} {K : PySem.W.Frag} {mg : Str → Option Value} {base : Heap} {A : Ad} (T : Txt P K mg A) (cdv : Value) (R : Around) (outer : List Env) (s : Shared) (H : Hp) (E : XK) (hr : Room 0 (R.deeper (envOfC "_law_opened" (defScope s__law_opened) s.heap.objs.size A.f__law_opened cdv)))
    (tk : Takes (cxOf (L2.CX P w) P w K mg base N__law_opened "_law_opened" (defScope s__law_opened) A.f__law_opened cdv R outer s H E) (WD E)) : JSs (cxOf (L2.CX P w) P w K mg base N__law_opened "_law_opened" (defScope s__law_opened) A.f__law_opened cdv R outer s H E) (WD E) (defBody s__law_opened) (wb__law_opened A) :=
  (js_one (js_ret (j_lstO (j_cons (j_callTy cd_list T.n_list bo_list (j_cons (j_sl (jv 0) jo_none (jo_some j_int)) j_nil)) (j_cons j_int (j_cons j_int (j_cons j_int (j_cons j_int j_nil))))))))
theorem rd__law_opened (A : Ad) : ∀ ds M Q Xc, sp__law_opened A ds M Q Xc → ds.length = P__law_opened.length ∧ RD (wb__law_opened A) Q Xc (startD N__law_opened ds) M := by
  rintro _ M Q Xc ⟨ns, d, rfl, hd, q⟩
  refine ⟨rfl, ?_⟩
  rw [st__law_opened]
  have := sizeLine_big
  rcases hd with rfl | rfl
  all_goals
    simp only [RD, wb__law_opened, wipeD, wNx, wSeq_p, seqE_nx, seqE_rt, seqE_bk, seqE_ct, seqE_ex, wIf, wRet, wRetN, wDrop, wAsg, wBrk, wCnt, wVar, wGet, wC, wOp, wUn, wCB, wNil, wCons, wTest, wAndT, wOrT, wNotT, wAndV, wOrV, wNotV, wIfE, wChain, wTup, wLst, wLstO, wCall, wMeth, wFld, wFst, wCv, wProp, wMake, wSl, wNo, wSome, intK, isBl, gN, gT, gCons', gNil', wSub, wAug, wPar, wBM, wIsT, wFor, wLc, wLcO, wYes, wiSeq, wiStr, wiRng1, wiRng2, wiZip, wFz, frz_lst, frz_tup, at1_0, at2_0, at2_1, at3_0, at3_1, at3_2, at4_0, at4_1, at4_2, at4_3, at5_0, at5_1, at5_2, at5_3, at5_4, seqOf_put, ED.xc, rIxD, rLenD, rIsD, rIntCD, rStrCD, rListD, rListO, rTupD, rAddD, rIntD, rInt0D, rEqD, rIsND, rNegD, rSlD, seqOf_lst, seqOf_tup, optK_some, insK_same, tyN_non, tyN_bl, tyN_int, tyN_str, tyN_tup, tyN_lst, tyN_dct, List.getElem?_cons_zero, List.getElem?_cons_succ, List.set_cons_zero, List.set_cons_succ, List.length_cons, List.length_nil, isB_NoneType_bool, isB_NoneType_int, isB_NoneType_str, isB_NoneType_tuple, isB_NoneType_list, isB_NoneType_dict, isB_bool_bool, isB_bool_int, isB_bool_str, isB_bool_tuple, isB_bool_list, isB_bool_dict, isB_int_bool, isB_int_int, isB_int_str, isB_int_tuple, isB_int_list, isB_int_dict, isB_str_bool, isB_str_int, isB_str_str, isB_str_tuple, isB_str_list, isB_str_dict, isB_tuple_bool, isB_tuple_int, isB_tuple_str, isB_tuple_tuple, isB_tuple_list, isB_tuple_dict, isB_list_bool, isB_list_int, isB_list_str, isB_list_tuple, isB_list_list, isB_list_dict, isB_dict_bool, isB_dict_int, isB_dict_str, isB_dict_tuple, isB_dict_list, isB_dict_dict, isC_bool, isC_int, isC_str, isC_tuple, isC_list, isC_dict, isA_list_tuple, isQ_NoneType, isQ_bool, isQ_int, isQ_str, isQ_tuple, isQ_list, isQ_dict, true_and, and_true, ↓reduceIte, Bool.not_true, Bool.not_false, Bool.false_eq_true, Bool.true_xor, Bool.false_xor, cutL_map]
    exact ⟨by omega, fun b hb => fin_of (q b (bagO _ 0 0 5631 0) hb ⟨_, _, _, _, _, rfl, by decide, by decide, by decide, by decide⟩)⟩
theorem ok__law_opened {P : Program} {w : World} {K : PySem.W.Frag} {mg : Str → Option Value} {base : Heap} {A : Ad} (T : Txt P K mg A) : FnJ P w K mg base 1 A.f__law_opened (sp__law_opened A) :=
  FnJ.mkAt T.d__law_opened sc__law_opened (fun cdv R outer s H E hr tk => bd__law_opened T cdv R outer s H E hr tk) (rd__law_opened A)
def sp__law_pull (A : Ad) : SpD := fun ds M Q _ => ∃ b many o, ds = [.ref b, .int many] ∧ M b = some o ∧ Bg o ∧ 0 < many ∧ many < 1000000 ∧ ∀ v o', 0 ≤ v → v < many → Bg o' → Q (.int v) (mput M b o')
def wb__law_pull_c1 (A : Ad) : WS :=
  (wSeq (wSub (wOp rAddD (wOp rIxD (wVar 0) (wC (.int 4))) (wC (.int 1))) (wVar 0) (wC (.int 4)) rSetD)
  (wSeq (wAsg (wOp rIxD (wVar 0) (wC (.int 3))) (gN 4))
  (wSeq (wSub (wOp (rIntD (fun _ j => 0 < j) fun i j => .int (i % j)) (wCB rIntCD (wCons (wOp rAddD (wOp rAddD (wOp rAddD (wOp (rIntD CMul fun i j => .int (i * j)) (wVar 4) (wVar 4)) (wOp (rIntD CMul fun i j => .int (i * j)) (wVar 4) (wC (.int 27011)))) (wOp (rIntD CMul fun i j => .int (i * j)) (wOp rIxD (wVar 0) (wC (.int 4))) (wC (.int 1300021)))) (wC (.int 99929))) wNil)) (wC (.int 2147483587))) (wVar 0) (wC (.int 3)) rSetD)
  (wRet (wOp (rIntD (fun _ j => 0 < j) fun i j => .int (i % j)) (wCB rIntCD (wCons (wOp rAddD (wOp (rIntD CDiv fun i j => .int (i / j)) (wOp rIxD (wVar 0) (wC (.int 3))) (wC (.int 71))) (wOp (rIntD CMul fun i j => .int (i * j)) (wOp (rIntD (fun _ j => 0 < j) fun i j => .int (i % j)) (wCB rIntCD (wCons (wOp rIxD (wVar 0) (wC (.int 3))) wNil)) (wC (.int 7919))) (wC (.int 59)))) wNil)) (wVar 1))))))
def wb__law_pull_c0 (A : Ad) : WS :=
  (wSeq (wIf (wTest (wOp (rInt0D fun i j => .bl (decide (j < i))) (wOp rIxD (wVar 0) (wC (.int 2))) (wC (.int 0))))
  (wSeq (wAsg (wOp (rIntD (fun _ j => 0 < j) fun i j => .int (i % j)) (wCB rIntCD (wCons (wOp rIxD (wVar 0) (wC (.int 2))) wNil)) (wVar 1)) (gN 3))
  (wSeq (wSub (wOp (rIntD CDiv fun i j => .int (i / j)) (wOp rIxD (wVar 0) (wC (.int 2))) (wVar 1)) (wVar 0) (wC (.int 2)) rSetD)
  (wRet (wVar 3))))
  wNx)
  (wb__law_pull_c1 A))
def wb__law_pull (A : Ad) : WS :=
  (wSeq (wIf (wAndT (wTest (wOp (rEqD false) (wOp rIxD (wVar 0) (wC (.int 2))) (wC (.int 0)))) (wTest (wOp (rInt0D fun i j => .bl (decide (i < j))) (wOp rIxD (wVar 0) (wC (.int 1))) (wCB rLenD (wCons (wOp rIxD (wVar 0) (wC (.int 0))) wNil)))))
  (wSeq (wAsg (wOp rIxD (wOp rIxD (wVar 0) (wC (.int 0))) (wOp rIxD (wVar 0) (wC (.int 1)))) (gN 2))
  (wSeq (wSub (wOp rAddD (wOp rIxD (wVar 0) (wC (.int 1))) (wC (.int 1))) (wVar 0) (wC (.int 1)) rSetD)
  (wIf (wTest (wOp (rInt0D fun i j => .bl (decide (j ≤ i))) (wVar 2) (wOp (rIntD CPow fun i j => .int (i ^ j.toNat)) (wC (.int 10)) (wC (.int 18)))))
  (wSub (wVar 2) (wVar 0) (wC (.int 2)) rSetD)
  (wSub (wOp (rIntD (fun _ j => 0 < j) fun i j => .int (i % j)) (wCB rIntCD (wCons (wOp rAddD (wOp rAddD (wOp (rIntD CMul fun i j => .int (i * j)) (wOp rIxD (wVar 0) (wC (.int 3))) (wC (.int 44017))) (wOp (rIntD CMul fun i j => .int (i * j)) (wOp (rIntD (fun _ j => 0 < j) fun i j => .int (i % j)) (wCB rIntCD (wCons (wVar 2) wNil)) (wC (.int 2147483549))) (wC (.int 61129)))) (wC (.int 41))) wNil)) (wC (.int 2147483587))) (wVar 0) (wC (.int 3)) rSetD))))
  wNx)
  (wb__law_pull_c0 A))
theorem bd__law_pull {P : Program} {w : World} {K : PySem.W.Frag} {mg : Str → Option Value} {base : Heap} {A : Ad} (T : Txt P K mg A) (cdv : Value) (R : Around) (outer : List Env) (s : Shared) (H : Hp) (E : XK) (hr : Room 0 (R.deeper (envOfC "_law_pull" (defScope s__law_pull) s.heap.objs.size A.f__law_pull cdv)))
    (tk : Takes (cxOf (L2.CX P w) P w K mg base N__law_pull "_law_pull" (defScope s__law_pull) A.f__law_pull cdv R outer s H E) (WD E)) : JSs (cxOf (L2.CX P w) P w K mg base N__law_pull "_law_pull" (defScope s__law_pull) A.f__law_pull cdv R outer s H E) (WD E) (defBody s__law_pull) (wb__law_pull A) :=
  (js_cons (js_if (jt_bool (jt_and (jt_cmp (od_eq hr.units) (j_ix id_ix (jv 0) j_int) j_int) (jt_and1 (jt_cmp od_lt (j_ix id_ix (jv 0) j_int) (j_callB cd_len T.n_len bo_len (j_cons (j_ix id_ix (jv 0) j_int) j_nil))))))
  (js_cons (js_set (i := 2) sc__law_pull.nd (j_ix id_ix (j_ix id_ix (jv 0) j_int) (j_ix id_ix (jv 0) j_int)))
  (js_cons (js_sub (j_op od_add (j_ix id_ix (jv 0) j_int) j_int) (jv 0) j_int)
  (js_one (js_if (jt_cmp od_ge (jv 2) (j_op od_pow j_int j_int))
  (js_one (js_sub (jv 2) (jv 0) j_int))
  (js_one (js_sub (j_op od_mod (j_callTy cd_int T.n_int bo_int (j_cons (j_op od_add (j_op od_add (j_op od_mul (j_ix id_ix (jv 0) j_int) j_int) (j_op od_mul (j_op od_mod (j_callTy cd_int T.n_int bo_int (j_cons (jv 2) j_nil)) j_int) j_int)) j_int) j_nil)) j_int) (jv 0) j_int))))))
  js_nil)
  (js_cons (js_if (jt_cmp od_gt (j_ix id_ix (jv 0) j_int) j_int)
  (js_cons (js_set (i := 3) sc__law_pull.nd (j_op od_mod (j_callTy cd_int T.n_int bo_int (j_cons (j_ix id_ix (jv 0) j_int) j_nil)) (jv 1)))
  (js_cons (js_sub (j_op od_fdiv (j_ix id_ix (jv 0) j_int) (jv 1)) (jv 0) j_int)
  (js_one (js_ret (jv 3)))))
  js_nil)
  (js_cons (js_sub (j_op od_add (j_ix id_ix (jv 0) j_int) j_int) (jv 0) j_int)
  (js_cons (js_set (i := 4) sc__law_pull.nd (j_ix id_ix (jv 0) j_int))
  (js_cons (js_sub (j_op od_mod (j_callTy cd_int T.n_int bo_int (j_cons (j_op od_add (j_op od_add (j_op od_add (j_op od_mul (jv 4) (jv 4)) (j_op od_mul (jv 4) j_int)) (j_op od_mul (j_ix id_ix (jv 0) j_int) j_int)) j_int) j_nil)) j_int) (jv 0) j_int)
  (js_one (js_ret (j_op od_mod (j_callTy cd_int T.n_int bo_int (j_cons (j_op od_add (j_op od_fdiv (j_ix id_ix (jv 0) j_int) j_int) (j_op od_mul (j_op od_mod (j_callTy cd_int T.n_int bo_int (j_cons (j_ix id_ix (jv 0) j_int) j_nil)) j_int) j_int)) j_nil)) (jv 1)))))))))
theorem pull_c1 (A : Ad) {b : Addr} {many : Int} {M N : Mem} {Q : KN} {Xc : KX} {cs : List Int} {i c s n : Int} {x y : Option D} (hb : N b = some (bagO cs i c s n)) (g : Bg0 cs i c s n) (hm : 0 < many ∧ many < 1000000)
    (q : ∀ v o', 0 ≤ v → v < many → Bg o' → Q (.int v) (mput N b o')) : RD (wb__law_pull_c1 A) Q Xc [some (.ref b), some (.int many), x, y, none] N := by
  have e := seqOf_own hb
  have := g.s0
  have := g.s1
  simp only [RD, wb__law_pull_c1, wipeD, wNx, wSeq_p, seqE_nx, seqE_rt, seqE_bk, seqE_ct, seqE_ex, wIf, wRet, wRetN, wDrop, wAsg, wBrk, wCnt, wVar, wGet, wC, wOp, wUn, wCB, wNil, wCons, wTest, wAndT, wOrT, wNotT, wAndV, wOrV, wNotV, wIfE, wChain, wTup, wLst, wLstO, wCall, wMeth, wFld, wFst, wCv, wProp, wMake, wSl, wNo, wSome, intK, isBl, gN, gT, gCons', gNil', wSub, wAug, wPar, wBM, wIsT, wFor, wLc, wLcO, wYes, wiSeq, wiStr, wiRng1, wiRng2, wiZip, wFz, frz_lst, frz_tup, at1_0, at2_0, at2_1, at3_0, at3_1, at3_2, at4_0, at4_1, at4_2, at4_3, at5_0, at5_1, at5_2, at5_3, at5_4, seqOf_put, ED.xc, rIxD, rLenD, rIsD, rIntCD, rStrCD, rListD, rListO, rTupD, rAddD, rIntD, rInt0D, rEqD, rIsND, rNegD, rSlD, seqOf_lst, seqOf_tup, optK_some, insK_same, tyN_non, tyN_bl, tyN_int, tyN_str, tyN_tup, tyN_lst, tyN_dct, List.getElem?_cons_zero, List.getElem?_cons_succ, List.set_cons_zero, List.set_cons_succ, List.length_cons, List.length_nil, isB_NoneType_bool, isB_NoneType_int, isB_NoneType_str, isB_NoneType_tuple, isB_NoneType_list, isB_NoneType_dict, isB_bool_bool, isB_bool_int, isB_bool_str, isB_bool_tuple, isB_bool_list, isB_bool_dict, isB_int_bool, isB_int_int, isB_int_str, isB_int_tuple, isB_int_list, isB_int_dict, isB_str_bool, isB_str_int, isB_str_str, isB_str_tuple, isB_str_list, isB_str_dict, isB_tuple_bool, isB_tuple_int, isB_tuple_str, isB_tuple_tuple, isB_tuple_list, isB_tuple_dict, isB_list_bool, isB_list_int, isB_list_str, isB_list_tuple, isB_list_list, isB_list_dict, isB_dict_bool, isB_dict_int, isB_dict_str, isB_dict_tuple, isB_dict_list, isB_dict_dict, isC_bool, isC_int, isC_str, isC_tuple, isC_list, isC_dict, isA_list_tuple, isQ_NoneType, isQ_bool, isQ_int, isQ_str, isQ_tuple, isQ_list, isQ_dict, true_and, and_true, ↓reduceIte, Bool.not_true, Bool.not_false, Bool.false_eq_true, Bool.true_xor, Bool.false_xor, e]
  refine set5_4 hb ?_
  simp only [wipeD, wNx, wSeq_p, seqE_nx, seqE_rt, seqE_bk, seqE_ct, seqE_ex, wIf, wRet, wRetN, wDrop, wAsg, wBrk, wCnt, wVar, wGet, wC, wOp, wUn, wCB, wNil, wCons, wTest, wAndT, wOrT, wNotT, wAndV, wOrV, wNotV, wIfE, wChain, wTup, wLst, wLstO, wCall, wMeth, wFld, wFst, wCv, wProp, wMake, wSl, wNo, wSome, intK, isBl, gN, gT, gCons', gNil', wSub, wAug, wPar, wBM, wIsT, wFor, wLc, wLcO, wYes, wiSeq, wiStr, wiRng1, wiRng2, wiZip, wFz, frz_lst, frz_tup, at1_0, at2_0, at2_1, at3_0, at3_1, at3_2, at4_0, at4_1, at4_2, at4_3, at5_0, at5_1, at5_2, at5_3, at5_4, seqOf_put, ED.xc, rIxD, rLenD, rIsD, rIntCD, rStrCD, rListD, rListO, rTupD, rAddD, rIntD, rInt0D, rEqD, rIsND, rNegD, rSlD, seqOf_lst, seqOf_tup, optK_some, insK_same, tyN_non, tyN_bl, tyN_int, tyN_str, tyN_tup, tyN_lst, tyN_dct, List.getElem?_cons_zero, List.getElem?_cons_succ, List.set_cons_zero, List.set_cons_succ, List.length_cons, List.length_nil, isB_NoneType_bool, isB_NoneType_int, isB_NoneType_str, isB_NoneType_tuple, isB_NoneType_list, isB_NoneType_dict, isB_bool_bool, isB_bool_int, isB_bool_str, isB_bool_tuple, isB_bool_list, isB_bool_dict, isB_int_bool, isB_int_int, isB_int_str, isB_int_tuple, isB_int_list, isB_int_dict, isB_str_bool, isB_str_int, isB_str_str, isB_str_tuple, isB_str_list, isB_str_dict, isB_tuple_bool, isB_tuple_int, isB_tuple_str, isB_tuple_tuple, isB_tuple_list, isB_tuple_dict, isB_list_bool, isB_list_int, isB_list_str, isB_list_tuple, isB_list_list, isB_list_dict, isB_dict_bool, isB_dict_int, isB_dict_str, isB_dict_tuple, isB_dict_list, isB_dict_dict, isC_bool, isC_int, isC_str, isC_tuple, isC_list, isC_dict, isA_list_tuple, isQ_NoneType, isQ_bool, isQ_int, isQ_str, isQ_tuple, isQ_list, isQ_dict, true_and, and_true, ↓reduceIte, Bool.not_true, Bool.not_false, Bool.false_eq_true, Bool.true_xor, Bool.false_xor, CMul]
  refine ⟨.inl (by omega), .inl (by omega), .inr (by omega), by omega, ?_⟩
  refine set5_3 mput_same ?_
  rw [mput_mput]
  simp only [wipeD, wNx, wSeq_p, seqE_nx, seqE_rt, seqE_bk, seqE_ct, seqE_ex, wIf, wRet, wRetN, wDrop, wAsg, wBrk, wCnt, wVar, wGet, wC, wOp, wUn, wCB, wNil, wCons, wTest, wAndT, wOrT, wNotT, wAndV, wOrV, wNotV, wIfE, wChain, wTup, wLst, wLstO, wCall, wMeth, wFld, wFst, wCv, wProp, wMake, wSl, wNo, wSome, intK, isBl, gN, gT, gCons', gNil', wSub, wAug, wPar, wBM, wIsT, wFor, wLc, wLcO, wYes, wiSeq, wiStr, wiRng1, wiRng2, wiZip, wFz, frz_lst, frz_tup, at1_0, at2_0, at2_1, at3_0, at3_1, at3_2, at4_0, at4_1, at4_2, at4_3, at5_0, at5_1, at5_2, at5_3, at5_4, seqOf_put, ED.xc, rIxD, rLenD, rIsD, rIntCD, rStrCD, rListD, rListO, rTupD, rAddD, rIntD, rInt0D, rEqD, rIsND, rNegD, rSlD, seqOf_lst, seqOf_tup, optK_some, insK_same, tyN_non, tyN_bl, tyN_int, tyN_str, tyN_tup, tyN_lst, tyN_dct, List.getElem?_cons_zero, List.getElem?_cons_succ, List.set_cons_zero, List.set_cons_succ, List.length_cons, List.length_nil, isB_NoneType_bool, isB_NoneType_int, isB_NoneType_str, isB_NoneType_tuple, isB_NoneType_list, isB_NoneType_dict, isB_bool_bool, isB_bool_int, isB_bool_str, isB_bool_tuple, isB_bool_list, isB_bool_dict, isB_int_bool, isB_int_int, isB_int_str, isB_int_tuple, isB_int_list, isB_int_dict, isB_str_bool, isB_str_int, isB_str_str, isB_str_tuple, isB_str_list, isB_str_dict, isB_tuple_bool, isB_tuple_int, isB_tuple_str, isB_tuple_tuple, isB_tuple_list, isB_tuple_dict, isB_list_bool, isB_list_int, isB_list_str, isB_list_tuple, isB_list_list, isB_list_dict, isB_dict_bool, isB_dict_int, isB_dict_str, isB_dict_tuple, isB_dict_list, isB_dict_dict, isC_bool, isC_int, isC_str, isC_tuple, isC_list, isC_dict, isA_list_tuple, isQ_NoneType, isQ_bool, isQ_int, isQ_str, isQ_tuple, isQ_list, isQ_dict, true_and, and_true, ↓reduceIte, Bool.not_true, Bool.not_false, Bool.false_eq_true, Bool.true_xor, Bool.false_xor, CDiv, CMul]
  generalize hz : (s * s + s * 27011 + (n + 1) * 1300021 + 99929) % 2147483587 = z
  have z0 : 0 ≤ z := by rw [← hz]; exact Int.emod_nonneg _ (by decide)
  have z1 : z < 2147483587 := by rw [← hz]; exact Int.emod_lt_of_pos _ (by decide)
  refine ⟨⟨by decide, by decide⟩, by decide, .inr (by omega), hm.1, fin_of ?_⟩
  exact q _ _ (Int.emod_nonneg _ (by omega)) (Int.emod_lt_of_pos _ hm.1) ⟨cs, i, c, z, n + 1, rfl, g.i0, g.c0, z0, z1⟩
theorem pull_c0 (A : Ad) {b : Addr} {many : Int} {M N : Mem} {Q : KN} {Xc : KX} {cs : List Int} {i c s n : Int} {x : Option D} (hb : N b = some (bagO cs i c s n)) (g : Bg0 cs i c s n) (hm : 0 < many ∧ many < 1000000)
    (q : ∀ v o', 0 ≤ v → v < many → Bg o' → Q (.int v) (mput N b o')) : RD (wb__law_pull_c0 A) Q Xc [some (.ref b), some (.int many), x, none, none] N := by
  have e := seqOf_own hb
  simp only [RD, wb__law_pull_c0, wipeD, wNx, wSeq_p, seqE_nx, seqE_rt, seqE_bk, seqE_ct, seqE_ex, wIf, wRet, wRetN, wDrop, wAsg, wBrk, wCnt, wVar, wGet, wC, wOp, wUn, wCB, wNil, wCons, wTest, wAndT, wOrT, wNotT, wAndV, wOrV, wNotV, wIfE, wChain, wTup, wLst, wLstO, wCall, wMeth, wFld, wFst, wCv, wProp, wMake, wSl, wNo, wSome, intK, isBl, gN, gT, gCons', gNil', wSub, wAug, wPar, wBM, wIsT, wFor, wLc, wLcO, wYes, wiSeq, wiStr, wiRng1, wiRng2, wiZip, wFz, frz_lst, frz_tup, at1_0, at2_0, at2_1, at3_0, at3_1, at3_2, at4_0, at4_1, at4_2, at4_3, at5_0, at5_1, at5_2, at5_3, at5_4, seqOf_put, ED.xc, rIxD, rLenD, rIsD, rIntCD, rStrCD, rListD, rListO, rTupD, rAddD, rIntD, rInt0D, rEqD, rIsND, rNegD, rSlD, seqOf_lst, seqOf_tup, optK_some, insK_same, tyN_non, tyN_bl, tyN_int, tyN_str, tyN_tup, tyN_lst, tyN_dct, List.getElem?_cons_zero, List.getElem?_cons_succ, List.set_cons_zero, List.set_cons_succ, List.length_cons, List.length_nil, isB_NoneType_bool, isB_NoneType_int, isB_NoneType_str, isB_NoneType_tuple, isB_NoneType_list, isB_NoneType_dict, isB_bool_bool, isB_bool_int, isB_bool_str, isB_bool_tuple, isB_bool_list, isB_bool_dict, isB_int_bool, isB_int_int, isB_int_str, isB_int_tuple, isB_int_list, isB_int_dict, isB_str_bool, isB_str_int, isB_str_str, isB_str_tuple, isB_str_list, isB_str_dict, isB_tuple_bool, isB_tuple_int, isB_tuple_str, isB_tuple_tuple, isB_tuple_list, isB_tuple_dict, isB_list_bool, isB_list_int, isB_list_str, isB_list_tuple, isB_list_list, isB_list_dict, isB_dict_bool, isB_dict_int, isB_dict_str, isB_dict_tuple, isB_dict_list, isB_dict_dict, isC_bool, isC_int, isC_str, isC_tuple, isC_list, isC_dict, isA_list_tuple, isQ_NoneType, isQ_bool, isQ_int, isQ_str, isQ_tuple, isQ_list, isQ_dict, true_and, and_true, ↓reduceIte, Bool.not_true, Bool.not_false, Bool.false_eq_true, Bool.true_xor, Bool.false_xor, e]
  by_cases h : 0 < c
  · simp only [h, decide_true, wipeD, wNx, wSeq_p, seqE_nx, seqE_rt, seqE_bk, seqE_ct, seqE_ex, wIf, wRet, wRetN, wDrop, wAsg, wBrk, wCnt, wVar, wGet, wC, wOp, wUn, wCB, wNil, wCons, wTest, wAndT, wOrT, wNotT, wAndV, wOrV, wNotV, wIfE, wChain, wTup, wLst, wLstO, wCall, wMeth, wFld, wFst, wCv, wProp, wMake, wSl, wNo, wSome, intK, isBl, gN, gT, gCons', gNil', wSub, wAug, wPar, wBM, wIsT, wFor, wLc, wLcO, wYes, wiSeq, wiStr, wiRng1, wiRng2, wiZip, wFz, frz_lst, frz_tup, at1_0, at2_0, at2_1, at3_0, at3_1, at3_2, at4_0, at4_1, at4_2, at4_3, at5_0, at5_1, at5_2, at5_3, at5_4, seqOf_put, ED.xc, rIxD, rLenD, rIsD, rIntCD, rStrCD, rListD, rListO, rTupD, rAddD, rIntD, rInt0D, rEqD, rIsND, rNegD, rSlD, seqOf_lst, seqOf_tup, optK_some, insK_same, tyN_non, tyN_bl, tyN_int, tyN_str, tyN_tup, tyN_lst, tyN_dct, List.getElem?_cons_zero, List.getElem?_cons_succ, List.set_cons_zero, List.set_cons_succ, List.length_cons, List.length_nil, isB_NoneType_bool, isB_NoneType_int, isB_NoneType_str, isB_NoneType_tuple, isB_NoneType_list, isB_NoneType_dict, isB_bool_bool, isB_bool_int, isB_bool_str, isB_bool_tuple, isB_bool_list, isB_bool_dict, isB_int_bool, isB_int_int, isB_int_str, isB_int_tuple, isB_int_list, isB_int_dict, isB_str_bool, isB_str_int, isB_str_str, isB_str_tuple, isB_str_list, isB_str_dict, isB_tuple_bool, isB_tuple_int, isB_tuple_str, isB_tuple_tuple, isB_tuple_list, isB_tuple_dict, isB_list_bool, isB_list_int, isB_list_str, isB_list_tuple, isB_list_list, isB_list_dict, isB_dict_bool, isB_dict_int, isB_dict_str, isB_dict_tuple, isB_dict_list, isB_dict_dict, isC_bool, isC_int, isC_str, isC_tuple, isC_list, isC_dict, isA_list_tuple, isQ_NoneType, isQ_bool, isQ_int, isQ_str, isQ_tuple, isQ_list, isQ_dict, true_and, and_true, ↓reduceIte, Bool.not_true, Bool.not_false, Bool.false_eq_true, Bool.true_xor, Bool.false_xor, e, CDiv]
    refine ⟨hm.1, ⟨hm.1, by omega⟩, set5_2 hb (fin_of ?_)⟩
    exact q _ _ (Int.emod_nonneg _ (by omega)) (Int.emod_lt_of_pos _ hm.1) ⟨cs, i, _, s, n, rfl, g.i0, Int.ediv_nonneg g.c0 (by omega), g.s0, g.s1⟩
  · simp only [h, decide_false, wipeD, wNx, wSeq_p, seqE_nx, seqE_rt, seqE_bk, seqE_ct, seqE_ex, wIf, wRet, wRetN, wDrop, wAsg, wBrk, wCnt, wVar, wGet, wC, wOp, wUn, wCB, wNil, wCons, wTest, wAndT, wOrT, wNotT, wAndV, wOrV, wNotV, wIfE, wChain, wTup, wLst, wLstO, wCall, wMeth, wFld, wFst, wCv, wProp, wMake, wSl, wNo, wSome, intK, isBl, gN, gT, gCons', gNil', wSub, wAug, wPar, wBM, wIsT, wFor, wLc, wLcO, wYes, wiSeq, wiStr, wiRng1, wiRng2, wiZip, wFz, frz_lst, frz_tup, at1_0, at2_0, at2_1, at3_0, at3_1, at3_2, at4_0, at4_1, at4_2, at4_3, at5_0, at5_1, at5_2, at5_3, at5_4, seqOf_put, ED.xc, rIxD, rLenD, rIsD, rIntCD, rStrCD, rListD, rListO, rTupD, rAddD, rIntD, rInt0D, rEqD, rIsND, rNegD, rSlD, seqOf_lst, seqOf_tup, optK_some, insK_same, tyN_non, tyN_bl, tyN_int, tyN_str, tyN_tup, tyN_lst, tyN_dct, List.getElem?_cons_zero, List.getElem?_cons_succ, List.set_cons_zero, List.set_cons_succ, List.length_cons, List.length_nil, isB_NoneType_bool, isB_NoneType_int, isB_NoneType_str, isB_NoneType_tuple, isB_NoneType_list, isB_NoneType_dict, isB_bool_bool, isB_bool_int, isB_bool_str, isB_bool_tuple, isB_bool_list, isB_bool_dict, isB_int_bool, isB_int_int, isB_int_str, isB_int_tuple, isB_int_list, isB_int_dict, isB_str_bool, isB_str_int, isB_str_str, isB_str_tuple, isB_str_list, isB_str_dict, isB_tuple_bool, isB_tuple_int, isB_tuple_str, isB_tuple_tuple, isB_tuple_list, isB_tuple_dict, isB_list_bool, isB_list_int, isB_list_str, isB_list_tuple, isB_list_list, isB_list_dict, isB_dict_bool, isB_dict_int, isB_dict_str, isB_dict_tuple, isB_dict_list, isB_dict_dict, isC_bool, isC_int, isC_str, isC_tuple, isC_list, isC_dict, isA_list_tuple, isQ_NoneType, isQ_bool, isQ_int, isQ_str, isQ_tuple, isQ_list, isQ_dict, true_and, and_true, ↓reduceIte, Bool.not_true, Bool.not_false, Bool.false_eq_true, Bool.true_xor, Bool.false_xor, e]
    exact pull_c1 A (M := M) hb g hm q
theorem rd__law_pull (A : Ad) : ∀ ds M Q Xc, sp__law_pull A ds M Q Xc → ds.length = P__law_pull.length ∧ RD (wb__law_pull A) Q Xc (startD N__law_pull ds) M := by
  rintro _ M Q Xc ⟨b, many, _, rfl, hb, ⟨cs, i, c, s, n, rfl, g⟩, h1, h2, q⟩
  refine ⟨rfl, ?_⟩
  rw [st__law_pull]
  have e := seqOf_own hb
  simp only [RD, wb__law_pull, wipeD, wNx, wSeq_p, seqE_nx, seqE_rt, seqE_bk, seqE_ct, seqE_ex, wIf, wRet, wRetN, wDrop, wAsg, wBrk, wCnt, wVar, wGet, wC, wOp, wUn, wCB, wNil, wCons, wTest, wAndT, wOrT, wNotT, wAndV, wOrV, wNotV, wIfE, wChain, wTup, wLst, wLstO, wCall, wMeth, wFld, wFst, wCv, wProp, wMake, wSl, wNo, wSome, intK, isBl, gN, gT, gCons', gNil', wSub, wAug, wPar, wBM, wIsT, wFor, wLc, wLcO, wYes, wiSeq, wiStr, wiRng1, wiRng2, wiZip, wFz, frz_lst, frz_tup, at1_0, at2_0, at2_1, at3_0, at3_1, at3_2, at4_0, at4_1, at4_2, at4_3, at5_0, at5_1, at5_2, at5_3, at5_4, seqOf_put, ED.xc, rIxD, rLenD, rIsD, rIntCD, rStrCD, rListD, rListO, rTupD, rAddD, rIntD, rInt0D, rEqD, rIsND, rNegD, rSlD, seqOf_lst, seqOf_tup, optK_some, insK_same, tyN_non, tyN_bl, tyN_int, tyN_str, tyN_tup, tyN_lst, tyN_dct, List.getElem?_cons_zero, List.getElem?_cons_succ, List.set_cons_zero, List.set_cons_succ, List.length_cons, List.length_nil, isB_NoneType_bool, isB_NoneType_int, isB_NoneType_str, isB_NoneType_tuple, isB_NoneType_list, isB_NoneType_dict, isB_bool_bool, isB_bool_int, isB_bool_str, isB_bool_tuple, isB_bool_list, isB_bool_dict, isB_int_bool, isB_int_int, isB_int_str, isB_int_tuple, isB_int_list, isB_int_dict, isB_str_bool, isB_str_int, isB_str_str, isB_str_tuple, isB_str_list, isB_str_dict, isB_tuple_bool, isB_tuple_int, isB_tuple_str, isB_tuple_tuple, isB_tuple_list, isB_tuple_dict, isB_list_bool, isB_list_int, isB_list_str, isB_list_tuple, isB_list_list, isB_list_dict, isB_dict_bool, isB_dict_int, isB_dict_str, isB_dict_tuple, isB_dict_list, isB_dict_dict, isC_bool, isC_int, isC_str, isC_tuple, isC_list, isC_dict, isA_list_tuple, isQ_NoneType, isQ_bool, isQ_int, isQ_str, isQ_tuple, isQ_list, isQ_dict, true_and, and_true, ↓reduceIte, Bool.not_true, Bool.not_false, Bool.false_eq_true, Bool.true_xor, Bool.false_xor, e]
  by_cases hc : c = 0
  · by_cases hi : i < ((cs.map D.int).length : Int)
    · simp only [hc, hi, decide_true, wipeD, wNx, wSeq_p, seqE_nx, seqE_rt, seqE_bk, seqE_ct, seqE_ex, wIf, wRet, wRetN, wDrop, wAsg, wBrk, wCnt, wVar, wGet, wC, wOp, wUn, wCB, wNil, wCons, wTest, wAndT, wOrT, wNotT, wAndV, wOrV, wNotV, wIfE, wChain, wTup, wLst, wLstO, wCall, wMeth, wFld, wFst, wCv, wProp, wMake, wSl, wNo, wSome, intK, isBl, gN, gT, gCons', gNil', wSub, wAug, wPar, wBM, wIsT, wFor, wLc, wLcO, wYes, wiSeq, wiStr, wiRng1, wiRng2, wiZip, wFz, frz_lst, frz_tup, at1_0, at2_0, at2_1, at3_0, at3_1, at3_2, at4_0, at4_1, at4_2, at4_3, at5_0, at5_1, at5_2, at5_3, at5_4, seqOf_put, ED.xc, rIxD, rLenD, rIsD, rIntCD, rStrCD, rListD, rListO, rTupD, rAddD, rIntD, rInt0D, rEqD, rIsND, rNegD, rSlD, seqOf_lst, seqOf_tup, optK_some, insK_same, tyN_non, tyN_bl, tyN_int, tyN_str, tyN_tup, tyN_lst, tyN_dct, List.getElem?_cons_zero, List.getElem?_cons_succ, List.set_cons_zero, List.set_cons_succ, List.length_cons, List.length_nil, isB_NoneType_bool, isB_NoneType_int, isB_NoneType_str, isB_NoneType_tuple, isB_NoneType_list, isB_NoneType_dict, isB_bool_bool, isB_bool_int, isB_bool_str, isB_bool_tuple, isB_bool_list, isB_bool_dict, isB_int_bool, isB_int_int, isB_int_str, isB_int_tuple, isB_int_list, isB_int_dict, isB_str_bool, isB_str_int, isB_str_str, isB_str_tuple, isB_str_list, isB_str_dict, isB_tuple_bool, isB_tuple_int, isB_tuple_str, isB_tuple_tuple, isB_tuple_list, isB_tuple_dict, isB_list_bool, isB_list_int, isB_list_str, isB_list_tuple, isB_list_list, isB_list_dict, isB_dict_bool, isB_dict_int, isB_dict_str, isB_dict_tuple, isB_dict_list, isB_dict_dict, isC_bool, isC_int, isC_str, isC_tuple, isC_list, isC_dict, isA_list_tuple, isQ_NoneType, isQ_bool, isQ_int, isQ_str, isQ_tuple, isQ_list, isQ_dict, true_and, and_true, ↓reduceIte, Bool.not_true, Bool.not_false, Bool.false_eq_true, Bool.true_xor, Bool.false_xor, e]
      have hk : i.toNat < cs.length := by have := g.i0; rw [List.length_map] at hi; omega
      obtain ⟨cell, ea⟩ : ∃ cell, atI (cs.map D.int) i = some (.int cell) := by
        have e0 : i = ((i.toNat : Nat) : Int) := by have := g.i0; omega
        rw [e0, atI_nat, List.getElem?_map, List.getElem?_eq_getElem hk]
        exact ⟨_, rfl⟩
      simp only [ea, wipeD, wNx, wSeq_p, seqE_nx, seqE_rt, seqE_bk, seqE_ct, seqE_ex, wIf, wRet, wRetN, wDrop, wAsg, wBrk, wCnt, wVar, wGet, wC, wOp, wUn, wCB, wNil, wCons, wTest, wAndT, wOrT, wNotT, wAndV, wOrV, wNotV, wIfE, wChain, wTup, wLst, wLstO, wCall, wMeth, wFld, wFst, wCv, wProp, wMake, wSl, wNo, wSome, intK, isBl, gN, gT, gCons', gNil', wSub, wAug, wPar, wBM, wIsT, wFor, wLc, wLcO, wYes, wiSeq, wiStr, wiRng1, wiRng2, wiZip, wFz, frz_lst, frz_tup, at1_0, at2_0, at2_1, at3_0, at3_1, at3_2, at4_0, at4_1, at4_2, at4_3, at5_0, at5_1, at5_2, at5_3, at5_4, seqOf_put, ED.xc, rIxD, rLenD, rIsD, rIntCD, rStrCD, rListD, rListO, rTupD, rAddD, rIntD, rInt0D, rEqD, rIsND, rNegD, rSlD, seqOf_lst, seqOf_tup, optK_some, insK_same, tyN_non, tyN_bl, tyN_int, tyN_str, tyN_tup, tyN_lst, tyN_dct, List.getElem?_cons_zero, List.getElem?_cons_succ, List.set_cons_zero, List.set_cons_succ, List.length_cons, List.length_nil, isB_NoneType_bool, isB_NoneType_int, isB_NoneType_str, isB_NoneType_tuple, isB_NoneType_list, isB_NoneType_dict, isB_bool_bool, isB_bool_int, isB_bool_str, isB_bool_tuple, isB_bool_list, isB_bool_dict, isB_int_bool, isB_int_int, isB_int_str, isB_int_tuple, isB_int_list, isB_int_dict, isB_str_bool, isB_str_int, isB_str_str, isB_str_tuple, isB_str_list, isB_str_dict, isB_tuple_bool, isB_tuple_int, isB_tuple_str, isB_tuple_tuple, isB_tuple_list, isB_tuple_dict, isB_list_bool, isB_list_int, isB_list_str, isB_list_tuple, isB_list_list, isB_list_dict, isB_dict_bool, isB_dict_int, isB_dict_str, isB_dict_tuple, isB_dict_list, isB_dict_dict, isC_bool, isC_int, isC_str, isC_tuple, isC_list, isC_dict, isA_list_tuple, isQ_NoneType, isQ_bool, isQ_int, isQ_str, isQ_tuple, isQ_list, isQ_dict, true_and, and_true, ↓reduceIte, Bool.not_true, Bool.not_false, Bool.false_eq_true, Bool.true_xor, Bool.false_xor, e]
      refine set5_1 hb ?_
      simp only [CPow, wipeD, wNx, wSeq_p, seqE_nx, seqE_rt, seqE_bk, seqE_ct, seqE_ex, wIf, wRet, wRetN, wDrop, wAsg, wBrk, wCnt, wVar, wGet, wC, wOp, wUn, wCB, wNil, wCons, wTest, wAndT, wOrT, wNotT, wAndV, wOrV, wNotV, wIfE, wChain, wTup, wLst, wLstO, wCall, wMeth, wFld, wFst, wCv, wProp, wMake, wSl, wNo, wSome, intK, isBl, gN, gT, gCons', gNil', wSub, wAug, wPar, wBM, wIsT, wFor, wLc, wLcO, wYes, wiSeq, wiStr, wiRng1, wiRng2, wiZip, wFz, frz_lst, frz_tup, at1_0, at2_0, at2_1, at3_0, at3_1, at3_2, at4_0, at4_1, at4_2, at4_3, at5_0, at5_1, at5_2, at5_3, at5_4, seqOf_put, ED.xc, rIxD, rLenD, rIsD, rIntCD, rStrCD, rListD, rListO, rTupD, rAddD, rIntD, rInt0D, rEqD, rIsND, rNegD, rSlD, seqOf_lst, seqOf_tup, optK_some, insK_same, tyN_non, tyN_bl, tyN_int, tyN_str, tyN_tup, tyN_lst, tyN_dct, List.getElem?_cons_zero, List.getElem?_cons_succ, List.set_cons_zero, List.set_cons_succ, List.length_cons, List.length_nil, isB_NoneType_bool, isB_NoneType_int, isB_NoneType_str, isB_NoneType_tuple, isB_NoneType_list, isB_NoneType_dict, isB_bool_bool, isB_bool_int, isB_bool_str, isB_bool_tuple, isB_bool_list, isB_bool_dict, isB_int_bool, isB_int_int, isB_int_str, isB_int_tuple, isB_int_list, isB_int_dict, isB_str_bool, isB_str_int, isB_str_str, isB_str_tuple, isB_str_list, isB_str_dict, isB_tuple_bool, isB_tuple_int, isB_tuple_str, isB_tuple_tuple, isB_tuple_list, isB_tuple_dict, isB_list_bool, isB_list_int, isB_list_str, isB_list_tuple, isB_list_list, isB_list_dict, isB_dict_bool, isB_dict_int, isB_dict_str, isB_dict_tuple, isB_dict_list, isB_dict_dict, isC_bool, isC_int, isC_str, isC_tuple, isC_list, isC_dict, isA_list_tuple, isQ_NoneType, isQ_bool, isQ_int, isQ_str, isQ_tuple, isQ_list, isQ_dict, true_and, and_true, ↓reduceIte, Bool.not_true, Bool.not_false, Bool.false_eq_true, Bool.true_xor, Bool.false_xor]
      refine ⟨⟨by decide, by decide, by decide⟩, ?_⟩
      by_cases h18 : 10 ^ (18 : Int).toNat ≤ cell
      · simp only [h18, decide_true, wipeD, wNx, wSeq_p, seqE_nx, seqE_rt, seqE_bk, seqE_ct, seqE_ex, wIf, wRet, wRetN, wDrop, wAsg, wBrk, wCnt, wVar, wGet, wC, wOp, wUn, wCB, wNil, wCons, wTest, wAndT, wOrT, wNotT, wAndV, wOrV, wNotV, wIfE, wChain, wTup, wLst, wLstO, wCall, wMeth, wFld, wFst, wCv, wProp, wMake, wSl, wNo, wSome, intK, isBl, gN, gT, gCons', gNil', wSub, wAug, wPar, wBM, wIsT, wFor, wLc, wLcO, wYes, wiSeq, wiStr, wiRng1, wiRng2, wiZip, wFz, frz_lst, frz_tup, at1_0, at2_0, at2_1, at3_0, at3_1, at3_2, at4_0, at4_1, at4_2, at4_3, at5_0, at5_1, at5_2, at5_3, at5_4, seqOf_put, ED.xc, rIxD, rLenD, rIsD, rIntCD, rStrCD, rListD, rListO, rTupD, rAddD, rIntD, rInt0D, rEqD, rIsND, rNegD, rSlD, seqOf_lst, seqOf_tup, optK_some, insK_same, tyN_non, tyN_bl, tyN_int, tyN_str, tyN_tup, tyN_lst, tyN_dct, List.getElem?_cons_zero, List.getElem?_cons_succ, List.set_cons_zero, List.set_cons_succ, List.length_cons, List.length_nil, isB_NoneType_bool, isB_NoneType_int, isB_NoneType_str, isB_NoneType_tuple, isB_NoneType_list, isB_NoneType_dict, isB_bool_bool, isB_bool_int, isB_bool_str, isB_bool_tuple, isB_bool_list, isB_bool_dict, isB_int_bool, isB_int_int, isB_int_str, isB_int_tuple, isB_int_list, isB_int_dict, isB_str_bool, isB_str_int, isB_str_str, isB_str_tuple, isB_str_list, isB_str_dict, isB_tuple_bool, isB_tuple_int, isB_tuple_str, isB_tuple_tuple, isB_tuple_list, isB_tuple_dict, isB_list_bool, isB_list_int, isB_list_str, isB_list_tuple, isB_list_list, isB_list_dict, isB_dict_bool, isB_dict_int, isB_dict_str, isB_dict_tuple, isB_dict_list, isB_dict_dict, isC_bool, isC_int, isC_str, isC_tuple, isC_list, isC_dict, isA_list_tuple, isQ_NoneType, isQ_bool, isQ_int, isQ_str, isQ_tuple, isQ_list, isQ_dict, true_and, and_true, ↓reduceIte, Bool.not_true, Bool.not_false, Bool.false_eq_true, Bool.true_xor, Bool.false_xor]
        refine set5_2 mput_same ?_
        refine pull_c0 A (M := M) (mput_same) ⟨by have := g.i0; omega, ?_, g.s0, g.s1⟩ ⟨h1, h2⟩ fun v o' v0 v1 ho => ?_
        · have : (0 : Int) ≤ 10 ^ (18 : Int).toNat := by decide
          omega
        · rw [mput_mput, mput_mput]; exact q v o' v0 v1 ho
      · simp only [h18, decide_false, wipeD, wNx, wSeq_p, seqE_nx, seqE_rt, seqE_bk, seqE_ct, seqE_ex, wIf, wRet, wRetN, wDrop, wAsg, wBrk, wCnt, wVar, wGet, wC, wOp, wUn, wCB, wNil, wCons, wTest, wAndT, wOrT, wNotT, wAndV, wOrV, wNotV, wIfE, wChain, wTup, wLst, wLstO, wCall, wMeth, wFld, wFst, wCv, wProp, wMake, wSl, wNo, wSome, intK, isBl, gN, gT, gCons', gNil', wSub, wAug, wPar, wBM, wIsT, wFor, wLc, wLcO, wYes, wiSeq, wiStr, wiRng1, wiRng2, wiZip, wFz, frz_lst, frz_tup, at1_0, at2_0, at2_1, at3_0, at3_1, at3_2, at4_0, at4_1, at4_2, at4_3, at5_0, at5_1, at5_2, at5_3, at5_4, seqOf_put, ED.xc, rIxD, rLenD, rIsD, rIntCD, rStrCD, rListD, rListO, rTupD, rAddD, rIntD, rInt0D, rEqD, rIsND, rNegD, rSlD, seqOf_lst, seqOf_tup, optK_some, insK_same, tyN_non, tyN_bl, tyN_int, tyN_str, tyN_tup, tyN_lst, tyN_dct, List.getElem?_cons_zero, List.getElem?_cons_succ, List.set_cons_zero, List.set_cons_succ, List.length_cons, List.length_nil, isB_NoneType_bool, isB_NoneType_int, isB_NoneType_str, isB_NoneType_tuple, isB_NoneType_list, isB_NoneType_dict, isB_bool_bool, isB_bool_int, isB_bool_str, isB_bool_tuple, isB_bool_list, isB_bool_dict, isB_int_bool, isB_int_int, isB_int_str, isB_int_tuple, isB_int_list, isB_int_dict, isB_str_bool, isB_str_int, isB_str_str, isB_str_tuple, isB_str_list, isB_str_dict, isB_tuple_bool, isB_tuple_int, isB_tuple_str, isB_tuple_tuple, isB_tuple_list, isB_tuple_dict, isB_list_bool, isB_list_int, isB_list_str, isB_list_tuple, isB_list_list, isB_list_dict, isB_dict_bool, isB_dict_int, isB_dict_str, isB_dict_tuple, isB_dict_list, isB_dict_dict, isC_bool, isC_int, isC_str, isC_tuple, isC_list, isC_dict, isA_list_tuple, isQ_NoneType, isQ_bool, isQ_int, isQ_str, isQ_tuple, isQ_list, isQ_dict, true_and, and_true, ↓reduceIte, Bool.not_true, Bool.not_false, Bool.false_eq_true, Bool.true_xor, Bool.false_xor, CMul]
        have := g.s0
        have := g.s1
        have m0 : 0 ≤ cell % 2147483549 := Int.emod_nonneg _ (by decide)
        have m1 : cell % 2147483549 < 2147483549 := Int.emod_lt_of_pos _ (by decide)
        refine ⟨.inl (by omega), by decide, .inl (by omega), by decide, ?_⟩
        refine set5_3 mput_same ?_
        refine pull_c0 A (M := M) (mput_same) ⟨by have := g.i0; omega, by omega, Int.emod_nonneg _ (by decide), Int.emod_lt_of_pos _ (by decide)⟩ ⟨h1, h2⟩ fun v o' v0 v1 ho => ?_
        rw [mput_mput, mput_mput]; exact q v o' v0 v1 ho
    · simp only [hc, hi, decide_true, decide_false, wipeD, wNx, wSeq_p, seqE_nx, seqE_rt, seqE_bk, seqE_ct, seqE_ex, wIf, wRet, wRetN, wDrop, wAsg, wBrk, wCnt, wVar, wGet, wC, wOp, wUn, wCB, wNil, wCons, wTest, wAndT, wOrT, wNotT, wAndV, wOrV, wNotV, wIfE, wChain, wTup, wLst, wLstO, wCall, wMeth, wFld, wFst, wCv, wProp, wMake, wSl, wNo, wSome, intK, isBl, gN, gT, gCons', gNil', wSub, wAug, wPar, wBM, wIsT, wFor, wLc, wLcO, wYes, wiSeq, wiStr, wiRng1, wiRng2, wiZip, wFz, frz_lst, frz_tup, at1_0, at2_0, at2_1, at3_0, at3_1, at3_2, at4_0, at4_1, at4_2, at4_3, at5_0, at5_1, at5_2, at5_3, at5_4, seqOf_put, ED.xc, rIxD, rLenD, rIsD, rIntCD, rStrCD, rListD, rListO, rTupD, rAddD, rIntD, rInt0D, rEqD, rIsND, rNegD, rSlD, seqOf_lst, seqOf_tup, optK_some, insK_same, tyN_non, tyN_bl, tyN_int, tyN_str, tyN_tup, tyN_lst, tyN_dct, List.getElem?_cons_zero, List.getElem?_cons_succ, List.set_cons_zero, List.set_cons_succ, List.length_cons, List.length_nil, isB_NoneType_bool, isB_NoneType_int, isB_NoneType_str, isB_NoneType_tuple, isB_NoneType_list, isB_NoneType_dict, isB_bool_bool, isB_bool_int, isB_bool_str, isB_bool_tuple, isB_bool_list, isB_bool_dict, isB_int_bool, isB_int_int, isB_int_str, isB_int_tuple, isB_int_list, isB_int_dict, isB_str_bool, isB_str_int, isB_str_str, isB_str_tuple, isB_str_list, isB_str_dict, isB_tuple_bool, isB_tuple_int, isB_tuple_str, isB_tuple_tuple, isB_tuple_list, isB_tuple_dict, isB_list_bool, isB_list_int, isB_list_str, isB_list_tuple, isB_list_list, isB_list_dict, isB_dict_bool, isB_dict_int, isB_dict_str, isB_dict_tuple, isB_dict_list, isB_dict_dict, isC_bool, isC_int, isC_str, isC_tuple, isC_list, isC_dict, isA_list_tuple, isQ_NoneType, isQ_bool, isQ_int, isQ_str, isQ_tuple, isQ_list, isQ_dict, true_and, and_true, ↓reduceIte, Bool.not_true, Bool.not_false, Bool.false_eq_true, Bool.true_xor, Bool.false_xor]
      rw [hc] at hb g
      exact pull_c0 A (M := M) hb g ⟨h1, h2⟩ q
  · simp only [hc, decide_false, wipeD, wNx, wSeq_p, seqE_nx, seqE_rt, seqE_bk, seqE_ct, seqE_ex, wIf, wRet, wRetN, wDrop, wAsg, wBrk, wCnt, wVar, wGet, wC, wOp, wUn, wCB, wNil, wCons, wTest, wAndT, wOrT, wNotT, wAndV, wOrV, wNotV, wIfE, wChain, wTup, wLst, wLstO, wCall, wMeth, wFld, wFst, wCv, wProp, wMake, wSl, wNo, wSome, intK, isBl, gN, gT, gCons', gNil', wSub, wAug, wPar, wBM, wIsT, wFor, wLc, wLcO, wYes, wiSeq, wiStr, wiRng1, wiRng2, wiZip, wFz, frz_lst, frz_tup, at1_0, at2_0, at2_1, at3_0, at3_1, at3_2, at4_0, at4_1, at4_2, at4_3, at5_0, at5_1, at5_2, at5_3, at5_4, seqOf_put, ED.xc, rIxD, rLenD, rIsD, rIntCD, rStrCD, rListD, rListO, rTupD, rAddD, rIntD, rInt0D, rEqD, rIsND, rNegD, rSlD, seqOf_lst, seqOf_tup, optK_some, insK_same, tyN_non, tyN_bl, tyN_int, tyN_str, tyN_tup, tyN_lst, tyN_dct, List.getElem?_cons_zero, List.getElem?_cons_succ, List.set_cons_zero, List.set_cons_succ, List.length_cons, List.length_nil, isB_NoneType_bool, isB_NoneType_int, isB_NoneType_str, isB_NoneType_tuple, isB_NoneType_list, isB_NoneType_dict, isB_bool_bool, isB_bool_int, isB_bool_str, isB_bool_tuple, isB_bool_list, isB_bool_dict, isB_int_bool, isB_int_int, isB_int_str, isB_int_tuple, isB_int_list, isB_int_dict, isB_str_bool, isB_str_int, isB_str_str, isB_str_tuple, isB_str_list, isB_str_dict, isB_tuple_bool, isB_tuple_int, isB_tuple_str, isB_tuple_tuple, isB_tuple_list, isB_tuple_dict, isB_list_bool, isB_list_int, isB_list_str, isB_list_tuple, isB_list_list, isB_list_dict, isB_dict_bool, isB_dict_int, isB_dict_str, isB_dict_tuple, isB_dict_list, isB_dict_dict, isC_bool, isC_int, isC_str, isC_tuple, isC_list, isC_dict, isA_list_tuple, isQ_NoneType, isQ_bool, isQ_int, isQ_str, isQ_tuple, isQ_list, isQ_dict, true_and, and_true, ↓reduceIte, Bool.not_true, Bool.not_false, Bool.false_eq_true, Bool.true_xor, Bool.false_xor]
    exact pull_c0 A (M := M) hb g ⟨h1, h2⟩ q
theorem ok__law_pull {P : Program} {w : World} {K : PySem.W.Frag} {mg : Str → Option Value} {base : Heap} {A : Ad} (T : Txt P K mg A) : FnJ P w K mg base 1 A.f__law_pull (sp__law_pull A) :=
  FnJ.mkAt T.d__law_pull sc__law_pull (fun cdv R outer s H E hr tk => bd__law_pull T cdv R outer s H E hr tk) (rd__law_pull A)
/-! ### choices -/
/-- the bag's part of a spec: it stands there, and comes out as some bag -/
def bagK (M : Mem) (b : Addr) (k : (Mem → Prop) → Prop) : Prop := True
theorem pull_of (A : Ad) {b : Addr} {many : Int} {M : Mem} {Q : KN} {Xc : KX} {o : MO} (hb : M b = some o) (g : Bg o) (h1 : 0 < many) (h2 : many < 1000000)
    (q : ∀ v : Nat, (v : Int) < many → ∀ o', Bg o' → Q (.int v) (mput M b o')) : sp__law_pull A [.ref b, .int many] M Q Xc :=
  ⟨b, many, o, rfl, hb, g, h1, h2, fun v o' v0 v1 ho => by
    have e : v = ((v.toNat : Nat) : Int) := by omega
    rw [e]
    exact q v.toNat (by omega) o' ho⟩
def sp__law_any (A : Ad) : SpD := fun ds M Q _ => ∃ b xs o, ds = [.ref b, .lst xs] ∧ M b = some o ∧ Bg o ∧ xs ≠ [] ∧ xs.length < 900000 ∧ ∀ x ∈ xs, ∀ o', Bg o' → Q x (mput M b o')
def wb__law_any (A : Ad) : WS :=
  (wRet (wOp rIxD (wVar 1) (wCall (sp__law_pull A) (wCons (wVar 0) (wCons (wCB rLenD (wCons (wVar 1) wNil)) wNil)))))
theorem bd__law_any {P : Program} {w : World} {K : PySem.W.Frag} {mg : Str → Option Value} {base : Heap} {A : Ad} (T : Txt P K mg A) (cdv : Value) (R : Around) (outer : List Env) (s : Shared) (H : Hp) (E : XK) (hr : Room 1 (R.deeper (envOfC "_law_any" (defScope s__law_any) s.heap.objs.size A.f__law_any cdv)))
    (tk : Takes (cxOf (L2.CX P w) P w K mg base N__law_any "_law_any" (defScope s__law_any) A.f__law_any cdv R outer s H E) (WD E)) : JSs (cxOf (L2.CX P w) P w K mg base N__law_any "_law_any" (defScope s__law_any) A.f__law_any cdv R outer s H E) (WD E) (defBody s__law_any) (wb__law_any A) :=
  (js_one (js_ret (j_ix id_ix (jv 1) (j_call (ok__law_pull T) hr (by decide) T.g__law_pull tk (j_cons (jv 0) (j_cons (j_callB cd_len T.n_len bo_len (j_cons (jv 1) j_nil)) j_nil))))))
theorem rd__law_any (A : Ad) : ∀ ds M Q Xc, sp__law_any A ds M Q Xc → ds.length = P__law_any.length ∧ RD (wb__law_any A) Q Xc (startD N__law_any ds) M := by
  rintro _ M Q Xc ⟨b, xs, o, rfl, hb, g, hne, hl, q⟩
  refine ⟨rfl, ?_⟩
  rw [st__law_any]
  have hpos : 0 < xs.length := List.length_pos_iff.mpr hne
  simp only [RD, wb__law_any, wipeD, wNx, wSeq_p, seqE_nx, seqE_rt, seqE_bk, seqE_ct, seqE_ex, wIf, wRet, wRetN, wDrop, wAsg, wBrk, wCnt, wVar, wGet, wC, wOp, wUn, wCB, wNil, wCons, wTest, wAndT, wOrT, wNotT, wAndV, wOrV, wNotV, wIfE, wChain, wTup, wLst, wLstO, wCall, wMeth, wFld, wFst, wCv, wProp, wMake, wSl, wNo, wSome, intK, isBl, gN, gT, gCons', gNil', wSub, wAug, wPar, wBM, wIsT, wFor, wLc, wLcO, wYes, wiSeq, wiStr, wiRng1, wiRng2, wiZip, wFz, frz_lst, frz_tup, at1_0, at2_0, at2_1, at3_0, at3_1, at3_2, at4_0, at4_1, at4_2, at4_3, at5_0, at5_1, at5_2, at5_3, at5_4, seqOf_put, ED.xc, rIxD, rLenD, rIsD, rIntCD, rStrCD, rListD, rListO, rTupD, rAddD, rIntD, rInt0D, rEqD, rIsND, rNegD, rSlD, seqOf_lst, seqOf_tup, optK_some, insK_same, tyN_non, tyN_bl, tyN_int, tyN_str, tyN_tup, tyN_lst, tyN_dct, List.getElem?_cons_zero, List.getElem?_cons_succ, List.set_cons_zero, List.set_cons_succ, List.length_cons, List.length_nil, isB_NoneType_bool, isB_NoneType_int, isB_NoneType_str, isB_NoneType_tuple, isB_NoneType_list, isB_NoneType_dict, isB_bool_bool, isB_bool_int, isB_bool_str, isB_bool_tuple, isB_bool_list, isB_bool_dict, isB_int_bool, isB_int_int, isB_int_str, isB_int_tuple, isB_int_list, isB_int_dict, isB_str_bool, isB_str_int, isB_str_str, isB_str_tuple, isB_str_list, isB_str_dict, isB_tuple_bool, isB_tuple_int, isB_tuple_str, isB_tuple_tuple, isB_tuple_list, isB_tuple_dict, isB_list_bool, isB_list_int, isB_list_str, isB_list_tuple, isB_list_list, isB_list_dict, isB_dict_bool, isB_dict_int, isB_dict_str, isB_dict_tuple, isB_dict_list, isB_dict_dict, isC_bool, isC_int, isC_str, isC_tuple, isC_list, isC_dict, isA_list_tuple, isQ_NoneType, isQ_bool, isQ_int, isQ_str, isQ_tuple, isQ_list, isQ_dict, true_and, and_true, ↓reduceIte, Bool.not_true, Bool.not_false, Bool.false_eq_true, Bool.true_xor, Bool.false_xor]
  refine pull_of A hb g (by omega) (by omega) fun v hv o' ho => ?_
  have hv' : v < xs.length := by omega
  simp only [wipeD, wNx, wSeq_p, seqE_nx, seqE_rt, seqE_bk, seqE_ct, seqE_ex, wIf, wRet, wRetN, wDrop, wAsg, wBrk, wCnt, wVar, wGet, wC, wOp, wUn, wCB, wNil, wCons, wTest, wAndT, wOrT, wNotT, wAndV, wOrV, wNotV, wIfE, wChain, wTup, wLst, wLstO, wCall, wMeth, wFld, wFst, wCv, wProp, wMake, wSl, wNo, wSome, intK, isBl, gN, gT, gCons', gNil', wSub, wAug, wPar, wBM, wIsT, wFor, wLc, wLcO, wYes, wiSeq, wiStr, wiRng1, wiRng2, wiZip, wFz, frz_lst, frz_tup, at1_0, at2_0, at2_1, at3_0, at3_1, at3_2, at4_0, at4_1, at4_2, at4_3, at5_0, at5_1, at5_2, at5_3, at5_4, seqOf_put, ED.xc, rIxD, rLenD, rIsD, rIntCD, rStrCD, rListD, rListO, rTupD, rAddD, rIntD, rInt0D, rEqD, rIsND, rNegD, rSlD, seqOf_lst, seqOf_tup, optK_some, insK_same, tyN_non, tyN_bl, tyN_int, tyN_str, tyN_tup, tyN_lst, tyN_dct, List.getElem?_cons_zero, List.getElem?_cons_succ, List.set_cons_zero, List.set_cons_succ, List.length_cons, List.length_nil, isB_NoneType_bool, isB_NoneType_int, isB_NoneType_str, isB_NoneType_tuple, isB_NoneType_list, isB_NoneType_dict, isB_bool_bool, isB_bool_int, isB_bool_str, isB_bool_tuple, isB_bool_list, isB_bool_dict, isB_int_bool, isB_int_int, isB_int_str, isB_int_tuple, isB_int_list, isB_int_dict, isB_str_bool, isB_str_int, isB_str_str, isB_str_tuple, isB_str_list, isB_str_dict, isB_tuple_bool, isB_tuple_int, isB_tuple_str, isB_tuple_tuple, isB_tuple_list, isB_tuple_dict, isB_list_bool, isB_list_int, isB_list_str, isB_list_tuple, isB_list_list, isB_list_dict, isB_dict_bool, isB_dict_int, isB_dict_str, isB_dict_tuple, isB_dict_list, isB_dict_dict, isC_bool, isC_int, isC_str, isC_tuple, isC_list, isC_dict, isA_list_tuple, isQ_NoneType, isQ_bool, isQ_int, isQ_str, isQ_tuple, isQ_list, isQ_dict, true_and, and_true, ↓reduceIte, Bool.not_true, Bool.not_false, Bool.false_eq_true, Bool.true_xor, Bool.false_xor, atI_nat, List.getElem?_eq_getElem hv']
  exact fin_of (q _ (List.getElem_mem hv') o' ho)
theorem ok__law_any {P : Program} {w : World} {K : PySem.W.Frag} {mg : Str → Option Value} {base : Heap} {A : Ad} (T : Txt P K mg A) : FnJ P w K mg base 2 A.f__law_any (sp__law_any A) :=
  FnJ.mkAt T.d__law_any sc__law_any (fun cdv R outer s H E hr tk => bd__law_any T cdv R outer s H E hr tk) (rd__law_any A)
/-! ### like: the same data -/
def sp__law_like (A : Ad) : Nat → SpD
  | 0 => fun _ _ _ _ => False
  | n + 1 => fun ds M Q _ => ∃ d, ds = [d, d] ∧ Nc d n ∧ Q (.bl true) M
def wb__law_like (A : Ad) (n : Nat) : WS :=
  (wSeq (wIf (wTest (wIsT ["list", "tuple"] (wVar 1)))
  (wSeq (wIf (wOrT (wTest (wOp (rEqD true) (wCB rIsD (wCons (wVar 0) (wCons (wC (.ty "list")) wNil))) (wCB rIsD (wCons (wVar 1) (wCons (wC (.ty "list")) wNil))))) (wTest (wOp (rEqD true) (wCB rIsD (wCons (wVar 0) (wCons (wC (.ty "tuple")) wNil))) (wCB rIsD (wCons (wVar 1) (wCons (wC (.ty "tuple")) wNil))))))
  (wRet (wC (.bl false)))
  wNx)
  (wRet (wAndV (wOp (rEqD false) (wCB rLenD (wCons (wVar 0) wNil)) (wCB rLenD (wCons (wVar 1) wNil))) (wCB (rAllD false) (wCons (wLc (wiZip (wCons (wVar 0) (wCons (wVar 1) wNil))) (gT 2 (gCons' (gN 2) (gCons' (gN 3) gNil'))) wYes (wCall (sp__law_like A n) (wCons (wVar 2) (wCons (wVar 3) wNil))) [2, 3]) wNil)))))
  wNx)
  (wSeq (wIf (wTest (wCB rIsD (wCons (wVar 1) (wCons (wC (.ty "dict")) wNil))))
  wNever
  wNx)
  (wSeq (wIf (wOrT (wTest (wOp (rIsND false) (wVar 1) (wC .non))) (wTest (wOp (rIsND false) (wVar 0) (wC .non))))
  (wRet (wAndV (wOp (rIsND false) (wVar 1) (wC .non)) (wOp (rIsND false) (wVar 0) (wC .non))))
  wNx)
  (wSeq (wIf (wOrT (wTest (wOp (rEqD true) (wCB rIsD (wCons (wVar 0) (wCons (wC (.ty "bool")) wNil))) (wCB rIsD (wCons (wVar 1) (wCons (wC (.ty "bool")) wNil))))) (wTest (wOp (rEqD true) (wCB rIsD (wCons (wVar 0) (wCons (wC (.ty "int")) wNil))) (wCB rIsD (wCons (wVar 1) (wCons (wC (.ty "int")) wNil))))))
  (wRet (wC (.bl false)))
  wNx)
  (wRet (wAndV (wOp (rEqD false) (wCB rIsD (wCons (wVar 0) (wCons (wC (.ty "str")) wNil))) (wCB rIsD (wCons (wVar 1) (wCons (wC (.ty "str")) wNil)))) (wOp (rEqD false) (wVar 0) (wVar 1))))))))
theorem bd__law_like {P : Program} {w : World} {K : PySem.W.Frag} {mg : Str → Option Value} {base : Heap} {A : Ad} (T : Txt P K mg A) (n : Nat) (ih : FnJ P w K mg base (1 + n) A.f__law_like (sp__law_like A n)) (cdv : Value) (R : Around) (outer : List Env) (s : Shared) (H : Hp) (E : XK) (hr : Room (1 + n) (R.deeper (envOfC "_law_like" (defScope s__law_like) s.heap.objs.size A.f__law_like cdv)))
    (tk : Takes (cxOf (L2.CX P w) P w K mg base N__law_like "_law_like" (defScope s__law_like) A.f__law_like cdv R outer s H E) (WD E)) : JSs (cxOf (L2.CX P w) P w K mg base N__law_like "_law_like" (defScope s__law_like) A.f__law_like cdv R outer s H E) (WD E) (defBody s__law_like) (wb__law_like A n) :=
  (js_cons (js_if (jt_val (j_isiT T.n_isinstance (jv 1) (pcs_cons (pe_bltn rfl T.n_list bo_list rfl) (pcs_cons (pe_bltn rfl T.n_tuple bo_tuple rfl) pcs_nil))))
  (js_cons (js_if (jt_bool (jt_or (jt_cmp (od_ne hr.units) (j_callB cd_isi T.n_isinstance bo_isinstance (j_cons (jv 0) (j_cons (j_bltn T.n_list bo_list) j_nil))) (j_callB cd_isi T.n_isinstance bo_isinstance (j_cons (jv 1) (j_cons (j_bltn T.n_list bo_list) j_nil)))) (jt_or1 (jt_cmp (od_ne hr.units) (j_callB cd_isi T.n_isinstance bo_isinstance (j_cons (jv 0) (j_cons (j_bltn T.n_tuple bo_tuple) j_nil))) (j_callB cd_isi T.n_isinstance bo_isinstance (j_cons (jv 1) (j_cons (j_bltn T.n_tuple bo_tuple) j_nil)))))))
  (js_one (js_ret j_bl))
  js_nil)
  (js_one (js_ret (j_and (j_cmp (od_eq hr.units) (j_callB cd_len T.n_len bo_len (j_cons (jv 0) j_nil)) (j_callB cd_len T.n_len bo_len (j_cons (jv 1) j_nil))) (j_one (j_callB (cd_all rfl) T.n_all bo_all (j_cons (j_lc (own := [("_law_one", 2), ("_law_other", 3)]) rfl sc__law_like.nd (ji_zip T.n_zip (j_cons (jv 0) (j_cons (jv 1) j_nil))) (blkOk_by (own := [("_law_one", 2), ("_law_other", 3)]) (N := N__law_like) (sc := defScope s__law_like) (by decide +kernel)) (fun _ _ _ _ _ => (jg_tup rfl (jgs_cons (jg_name (i := 2) sc__law_like.nd) (jgs_cons (jg_name (i := 3) sc__law_like.nd) jgs_nil)))) (fun _ _ _ _ _ => jts_nil) (fun _ _ _ _ _ => (j_call ih hr (Nat.le_refl _) T.g__law_like tkF (j_cons (jv 2) (j_cons (jv 3) j_nil))))) j_nil)))))))
  js_nil)
  (js_cons (js_if (jt_val (j_callB cd_isi T.n_isinstance bo_isinstance (j_cons (jv 1) (j_cons (j_bltn T.n_dict bo_dict) j_nil))))
  jss_never
  js_nil)
  (js_cons (js_if (jt_bool (jt_or (jt_cmp od_isN (jv 1) j_non) (jt_or1 (jt_cmp od_isN (jv 0) j_non))))
  (js_one (js_ret (j_and (j_cmp od_isN (jv 1) j_non) (j_one (j_cmp od_isN (jv 0) j_non)))))
  js_nil)
  (js_cons (js_if (jt_bool (jt_or (jt_cmp (od_ne hr.units) (j_callB cd_isi T.n_isinstance bo_isinstance (j_cons (jv 0) (j_cons (j_bltn T.n_bool bo_bool) j_nil))) (j_callB cd_isi T.n_isinstance bo_isinstance (j_cons (jv 1) (j_cons (j_bltn T.n_bool bo_bool) j_nil)))) (jt_or1 (jt_cmp (od_ne hr.units) (j_callB cd_isi T.n_isinstance bo_isinstance (j_cons (jv 0) (j_cons (j_bltn T.n_int bo_int) j_nil))) (j_callB cd_isi T.n_isinstance bo_isinstance (j_cons (jv 1) (j_cons (j_bltn T.n_int bo_int) j_nil)))))))
  (js_one (js_ret j_bl))
  js_nil)
  (js_one (js_ret (j_and (j_cmp (od_eq hr.units) (j_callB cd_isi T.n_isinstance bo_isinstance (j_cons (jv 0) (j_cons (j_bltn T.n_str bo_str) j_nil))) (j_callB cd_isi T.n_isinstance bo_isinstance (j_cons (jv 1) (j_cons (j_bltn T.n_str bo_str) j_nil)))) (j_one (j_cmp (od_eq hr.units) (jv 0) (jv 1))))))))))
theorem zip_same : ∀ xs : List D, zipD xs xs = xs.map fun x => .tup [x, x]
  | [] => rfl
  | x :: xs => by
    show D.tup [x, x] :: zipD xs xs = _
    rw [zip_same xs]
    rfl
theorem rd__law_like (A : Ad) (n : Nat) : ∀ ds M Q Xc, sp__law_like A (n + 1) ds M Q Xc → ds.length = P__law_like.length ∧ RD (wb__law_like A n) Q Xc (startD N__law_like ds) M := by
  rintro _ M Q Xc ⟨d, rfl, hn, q⟩
  refine ⟨rfl, ?_⟩
  rw [st__law_like]
  have big := sizeLine_big
  have hp := hn.pl
  have lc : ∀ (xs : List D) (ds : SD) (k : List D → Mem → Prop) (x y z w v : Option D), Ncs xs (n - 1) → xs.length < 3000 → 0 < n → k (xs.map fun _ => .bl true) M →
      lcR (gT 2 (gCons' (gN 2) (gCons' (gN 3) gNil'))) wYes (wCall (sp__law_like A n) (wCons (wVar 2) (wCons (wVar 3) wNil))) [x, y, z, w, v] (zipD xs xs) [] M k := by
    intro xs ds k x y z w v hx hl h0 hk
    rw [zip_same]
    obtain ⟨m, rfl⟩ : ∃ m, n = m + 1 := ⟨n - 1, by omega⟩
    refine lcR_mapL _ (fun _ => .bl true) (fun x => Nc x m) (fun x acc R hx h => ?_) xs [] (fun x hx' => Ncs_iff.mp hx x hx') (by simp only [List.length_nil]; omega) (by rw [List.nil_append]; exact hk)
    simp only [wipeD, wNx, wSeq_p, seqE_nx, seqE_rt, seqE_bk, seqE_ct, seqE_ex, wIf, wRet, wRetN, wDrop, wAsg, wBrk, wCnt, wVar, wGet, wC, wOp, wUn, wCB, wNil, wCons, wTest, wAndT, wOrT, wNotT, wAndV, wOrV, wNotV, wIfE, wChain, wTup, wLst, wLstO, wCall, wMeth, wFld, wFst, wCv, wProp, wMake, wSl, wNo, wSome, intK, isBl, gN, gT, gCons', gNil', wSub, wAug, wPar, wBM, wIsT, wFor, wLc, wLcO, wYes, wiSeq, wiStr, wiRng1, wiRng2, wiZip, wFz, frz_lst, frz_tup, at1_0, at2_0, at2_1, at3_0, at3_1, at3_2, at4_0, at4_1, at4_2, at4_3, at5_0, at5_1, at5_2, at5_3, at5_4, seqOf_put, ED.xc, rIxD, rLenD, rIsD, rIntCD, rStrCD, rListD, rListO, rTupD, rAddD, rIntD, rInt0D, rEqD, rIsND, rNegD, rSlD, seqOf_lst, seqOf_tup, optK_some, insK_same, tyN_non, tyN_bl, tyN_int, tyN_str, tyN_tup, tyN_lst, tyN_dct, List.getElem?_cons_zero, List.getElem?_cons_succ, List.set_cons_zero, List.set_cons_succ, List.length_cons, List.length_nil, isB_NoneType_bool, isB_NoneType_int, isB_NoneType_str, isB_NoneType_tuple, isB_NoneType_list, isB_NoneType_dict, isB_bool_bool, isB_bool_int, isB_bool_str, isB_bool_tuple, isB_bool_list, isB_bool_dict, isB_int_bool, isB_int_int, isB_int_str, isB_int_tuple, isB_int_list, isB_int_dict, isB_str_bool, isB_str_int, isB_str_str, isB_str_tuple, isB_str_list, isB_str_dict, isB_tuple_bool, isB_tuple_int, isB_tuple_str, isB_tuple_tuple, isB_tuple_list, isB_tuple_dict, isB_list_bool, isB_list_int, isB_list_str, isB_list_tuple, isB_list_list, isB_list_dict, isB_dict_bool, isB_dict_int, isB_dict_str, isB_dict_tuple, isB_dict_list, isB_dict_dict, isC_bool, isC_int, isC_str, isC_tuple, isC_list, isC_dict, isA_list_tuple, isQ_NoneType, isQ_bool, isQ_int, isQ_str, isQ_tuple, isQ_list, isQ_dict, true_and, and_true, ↓reduceIte, Bool.not_true, Bool.not_false, Bool.false_eq_true, Bool.true_xor, Bool.false_xor]
    exact ⟨x, rfl, hx, h⟩
  have e : ∀ xs : List D, (xs.map fun _ => true).all id = true := fun xs => by simp
  cases d <;> try exact absurd hp Bool.false_ne_true
  case tup xs =>
    simp only [RD, wb__law_like, wipeD, wNx, wSeq_p, seqE_nx, seqE_rt, seqE_bk, seqE_ct, seqE_ex, wIf, wRet, wRetN, wDrop, wAsg, wBrk, wCnt, wVar, wGet, wC, wOp, wUn, wCB, wNil, wCons, wTest, wAndT, wOrT, wNotT, wAndV, wOrV, wNotV, wIfE, wChain, wTup, wLst, wLstO, wCall, wMeth, wFld, wFst, wCv, wProp, wMake, wSl, wNo, wSome, intK, isBl, gN, gT, gCons', gNil', wSub, wAug, wPar, wBM, wIsT, wFor, wLc, wLcO, wYes, wiSeq, wiStr, wiRng1, wiRng2, wiZip, wFz, frz_lst, frz_tup, at1_0, at2_0, at2_1, at3_0, at3_1, at3_2, at4_0, at4_1, at4_2, at4_3, at5_0, at5_1, at5_2, at5_3, at5_4, seqOf_put, ED.xc, rIxD, rLenD, rIsD, rIntCD, rStrCD, rListD, rListO, rTupD, rAddD, rIntD, rInt0D, rEqD, rIsND, rNegD, rSlD, seqOf_lst, seqOf_tup, optK_some, insK_same, tyN_non, tyN_bl, tyN_int, tyN_str, tyN_tup, tyN_lst, tyN_dct, List.getElem?_cons_zero, List.getElem?_cons_succ, List.set_cons_zero, List.set_cons_succ, List.length_cons, List.length_nil, isB_NoneType_bool, isB_NoneType_int, isB_NoneType_str, isB_NoneType_tuple, isB_NoneType_list, isB_NoneType_dict, isB_bool_bool, isB_bool_int, isB_bool_str, isB_bool_tuple, isB_bool_list, isB_bool_dict, isB_int_bool, isB_int_int, isB_int_str, isB_int_tuple, isB_int_list, isB_int_dict, isB_str_bool, isB_str_int, isB_str_str, isB_str_tuple, isB_str_list, isB_str_dict, isB_tuple_bool, isB_tuple_int, isB_tuple_str, isB_tuple_tuple, isB_tuple_list, isB_tuple_dict, isB_list_bool, isB_list_int, isB_list_str, isB_list_tuple, isB_list_list, isB_list_dict, isB_dict_bool, isB_dict_int, isB_dict_str, isB_dict_tuple, isB_dict_list, isB_dict_dict, isC_bool, isC_int, isC_str, isC_tuple, isC_list, isC_dict, isA_list_tuple, isQ_NoneType, isQ_bool, isQ_int, isQ_str, isQ_tuple, isQ_list, isQ_dict, true_and, and_true, ↓reduceIte, Bool.not_true, Bool.not_false, Bool.false_eq_true, Bool.true_xor, Bool.false_xor, decide_true]
    refine lc xs [] _ _ _ _ _ _ hn.2 hn.1.2 hn.1.1 ?_
    simp only [rAllD, bools_map, wipeD, wNx, wSeq_p, seqE_nx, seqE_rt, seqE_bk, seqE_ct, seqE_ex, wIf, wRet, wRetN, wDrop, wAsg, wBrk, wCnt, wVar, wGet, wC, wOp, wUn, wCB, wNil, wCons, wTest, wAndT, wOrT, wNotT, wAndV, wOrV, wNotV, wIfE, wChain, wTup, wLst, wLstO, wCall, wMeth, wFld, wFst, wCv, wProp, wMake, wSl, wNo, wSome, intK, isBl, gN, gT, gCons', gNil', wSub, wAug, wPar, wBM, wIsT, wFor, wLc, wLcO, wYes, wiSeq, wiStr, wiRng1, wiRng2, wiZip, wFz, frz_lst, frz_tup, at1_0, at2_0, at2_1, at3_0, at3_1, at3_2, at4_0, at4_1, at4_2, at4_3, at5_0, at5_1, at5_2, at5_3, at5_4, seqOf_put, ED.xc, rIxD, rLenD, rIsD, rIntCD, rStrCD, rListD, rListO, rTupD, rAddD, rIntD, rInt0D, rEqD, rIsND, rNegD, rSlD, seqOf_lst, seqOf_tup, optK_some, insK_same, tyN_non, tyN_bl, tyN_int, tyN_str, tyN_tup, tyN_lst, tyN_dct, List.getElem?_cons_zero, List.getElem?_cons_succ, List.set_cons_zero, List.set_cons_succ, List.length_cons, List.length_nil, isB_NoneType_bool, isB_NoneType_int, isB_NoneType_str, isB_NoneType_tuple, isB_NoneType_list, isB_NoneType_dict, isB_bool_bool, isB_bool_int, isB_bool_str, isB_bool_tuple, isB_bool_list, isB_bool_dict, isB_int_bool, isB_int_int, isB_int_str, isB_int_tuple, isB_int_list, isB_int_dict, isB_str_bool, isB_str_int, isB_str_str, isB_str_tuple, isB_str_list, isB_str_dict, isB_tuple_bool, isB_tuple_int, isB_tuple_str, isB_tuple_tuple, isB_tuple_list, isB_tuple_dict, isB_list_bool, isB_list_int, isB_list_str, isB_list_tuple, isB_list_list, isB_list_dict, isB_dict_bool, isB_dict_int, isB_dict_str, isB_dict_tuple, isB_dict_list, isB_dict_dict, isC_bool, isC_int, isC_str, isC_tuple, isC_list, isC_dict, isA_list_tuple, isQ_NoneType, isQ_bool, isQ_int, isQ_str, isQ_tuple, isQ_list, isQ_dict, true_and, and_true, ↓reduceIte, Bool.not_true, Bool.not_false, Bool.false_eq_true, Bool.true_xor, Bool.false_xor, e]
    exact fin_of q
  case lst xs =>
    simp only [RD, wb__law_like, wipeD, wNx, wSeq_p, seqE_nx, seqE_rt, seqE_bk, seqE_ct, seqE_ex, wIf, wRet, wRetN, wDrop, wAsg, wBrk, wCnt, wVar, wGet, wC, wOp, wUn, wCB, wNil, wCons, wTest, wAndT, wOrT, wNotT, wAndV, wOrV, wNotV, wIfE, wChain, wTup, wLst, wLstO, wCall, wMeth, wFld, wFst, wCv, wProp, wMake, wSl, wNo, wSome, intK, isBl, gN, gT, gCons', gNil', wSub, wAug, wPar, wBM, wIsT, wFor, wLc, wLcO, wYes, wiSeq, wiStr, wiRng1, wiRng2, wiZip, wFz, frz_lst, frz_tup, at1_0, at2_0, at2_1, at3_0, at3_1, at3_2, at4_0, at4_1, at4_2, at4_3, at5_0, at5_1, at5_2, at5_3, at5_4, seqOf_put, ED.xc, rIxD, rLenD, rIsD, rIntCD, rStrCD, rListD, rListO, rTupD, rAddD, rIntD, rInt0D, rEqD, rIsND, rNegD, rSlD, seqOf_lst, seqOf_tup, optK_some, insK_same, tyN_non, tyN_bl, tyN_int, tyN_str, tyN_tup, tyN_lst, tyN_dct, List.getElem?_cons_zero, List.getElem?_cons_succ, List.set_cons_zero, List.set_cons_succ, List.length_cons, List.length_nil, isB_NoneType_bool, isB_NoneType_int, isB_NoneType_str, isB_NoneType_tuple, isB_NoneType_list, isB_NoneType_dict, isB_bool_bool, isB_bool_int, isB_bool_str, isB_bool_tuple, isB_bool_list, isB_bool_dict, isB_int_bool, isB_int_int, isB_int_str, isB_int_tuple, isB_int_list, isB_int_dict, isB_str_bool, isB_str_int, isB_str_str, isB_str_tuple, isB_str_list, isB_str_dict, isB_tuple_bool, isB_tuple_int, isB_tuple_str, isB_tuple_tuple, isB_tuple_list, isB_tuple_dict, isB_list_bool, isB_list_int, isB_list_str, isB_list_tuple, isB_list_list, isB_list_dict, isB_dict_bool, isB_dict_int, isB_dict_str, isB_dict_tuple, isB_dict_list, isB_dict_dict, isC_bool, isC_int, isC_str, isC_tuple, isC_list, isC_dict, isA_list_tuple, isQ_NoneType, isQ_bool, isQ_int, isQ_str, isQ_tuple, isQ_list, isQ_dict, true_and, and_true, ↓reduceIte, Bool.not_true, Bool.not_false, Bool.false_eq_true, Bool.true_xor, Bool.false_xor, decide_true]
    refine lc xs [] _ _ _ _ _ _ hn.2 hn.1.2 hn.1.1 ?_
    simp only [rAllD, bools_map, wipeD, wNx, wSeq_p, seqE_nx, seqE_rt, seqE_bk, seqE_ct, seqE_ex, wIf, wRet, wRetN, wDrop, wAsg, wBrk, wCnt, wVar, wGet, wC, wOp, wUn, wCB, wNil, wCons, wTest, wAndT, wOrT, wNotT, wAndV, wOrV, wNotV, wIfE, wChain, wTup, wLst, wLstO, wCall, wMeth, wFld, wFst, wCv, wProp, wMake, wSl, wNo, wSome, intK, isBl, gN, gT, gCons', gNil', wSub, wAug, wPar, wBM, wIsT, wFor, wLc, wLcO, wYes, wiSeq, wiStr, wiRng1, wiRng2, wiZip, wFz, frz_lst, frz_tup, at1_0, at2_0, at2_1, at3_0, at3_1, at3_2, at4_0, at4_1, at4_2, at4_3, at5_0, at5_1, at5_2, at5_3, at5_4, seqOf_put, ED.xc, rIxD, rLenD, rIsD, rIntCD, rStrCD, rListD, rListO, rTupD, rAddD, rIntD, rInt0D, rEqD, rIsND, rNegD, rSlD, seqOf_lst, seqOf_tup, optK_some, insK_same, tyN_non, tyN_bl, tyN_int, tyN_str, tyN_tup, tyN_lst, tyN_dct, List.getElem?_cons_zero, List.getElem?_cons_succ, List.set_cons_zero, List.set_cons_succ, List.length_cons, List.length_nil, isB_NoneType_bool, isB_NoneType_int, isB_NoneType_str, isB_NoneType_tuple, isB_NoneType_list, isB_NoneType_dict, isB_bool_bool, isB_bool_int, isB_bool_str, isB_bool_tuple, isB_bool_list, isB_bool_dict, isB_int_bool, isB_int_int, isB_int_str, isB_int_tuple, isB_int_list, isB_int_dict, isB_str_bool, isB_str_int, isB_str_str, isB_str_tuple, isB_str_list, isB_str_dict, isB_tuple_bool, isB_tuple_int, isB_tuple_str, isB_tuple_tuple, isB_tuple_list, isB_tuple_dict, isB_list_bool, isB_list_int, isB_list_str, isB_list_tuple, isB_list_list, isB_list_dict, isB_dict_bool, isB_dict_int, isB_dict_str, isB_dict_tuple, isB_dict_list, isB_dict_dict, isC_bool, isC_int, isC_str, isC_tuple, isC_list, isC_dict, isA_list_tuple, isQ_NoneType, isQ_bool, isQ_int, isQ_str, isQ_tuple, isQ_list, isQ_dict, true_and, and_true, ↓reduceIte, Bool.not_true, Bool.not_false, Bool.false_eq_true, Bool.true_xor, Bool.false_xor, e]
    exact fin_of q
  case dct => exact hn.elim
  all_goals simp only [RD, wb__law_like, wipeD, wNx, wSeq_p, seqE_nx, seqE_rt, seqE_bk, seqE_ct, seqE_ex, wIf, wRet, wRetN, wDrop, wAsg, wBrk, wCnt, wVar, wGet, wC, wOp, wUn, wCB, wNil, wCons, wTest, wAndT, wOrT, wNotT, wAndV, wOrV, wNotV, wIfE, wChain, wTup, wLst, wLstO, wCall, wMeth, wFld, wFst, wCv, wProp, wMake, wSl, wNo, wSome, intK, isBl, gN, gT, gCons', gNil', wSub, wAug, wPar, wBM, wIsT, wFor, wLc, wLcO, wYes, wiSeq, wiStr, wiRng1, wiRng2, wiZip, wFz, frz_lst, frz_tup, at1_0, at2_0, at2_1, at3_0, at3_1, at3_2, at4_0, at4_1, at4_2, at4_3, at5_0, at5_1, at5_2, at5_3, at5_4, seqOf_put, ED.xc, rIxD, rLenD, rIsD, rIntCD, rStrCD, rListD, rListO, rTupD, rAddD, rIntD, rInt0D, rEqD, rIsND, rNegD, rSlD, seqOf_lst, seqOf_tup, optK_some, insK_same, tyN_non, tyN_bl, tyN_int, tyN_str, tyN_tup, tyN_lst, tyN_dct, List.getElem?_cons_zero, List.getElem?_cons_succ, List.set_cons_zero, List.set_cons_succ, List.length_cons, List.length_nil, isB_NoneType_bool, isB_NoneType_int, isB_NoneType_str, isB_NoneType_tuple, isB_NoneType_list, isB_NoneType_dict, isB_bool_bool, isB_bool_int, isB_bool_str, isB_bool_tuple, isB_bool_list, isB_bool_dict, isB_int_bool, isB_int_int, isB_int_str, isB_int_tuple, isB_int_list, isB_int_dict, isB_str_bool, isB_str_int, isB_str_str, isB_str_tuple, isB_str_list, isB_str_dict, isB_tuple_bool, isB_tuple_int, isB_tuple_str, isB_tuple_tuple, isB_tuple_list, isB_tuple_dict, isB_list_bool, isB_list_int, isB_list_str, isB_list_tuple, isB_list_list, isB_list_dict, isB_dict_bool, isB_dict_int, isB_dict_str, isB_dict_tuple, isB_dict_list, isB_dict_dict, isC_bool, isC_int, isC_str, isC_tuple, isC_list, isC_dict, isA_list_tuple, isQ_NoneType, isQ_bool, isQ_int, isQ_str, isQ_tuple, isQ_list, isQ_dict, true_and, and_true, ↓reduceIte, Bool.not_true, Bool.not_false, Bool.false_eq_true, Bool.true_xor, Bool.false_xor, decide_true]
  all_goals exact fin_of q
theorem ok__law_like {P : Program} {w : World} {K : PySem.W.Frag} {mg : Str → Option Value} {base : Heap} {A : Ad} (T : Txt P K mg A) : ∀ n, FnJ P w K mg base (1 + n) A.f__law_like (sp__law_like A n)
  | 0 => FnJ.mkAt (k := 0) (wb := wNever) T.d__law_like sc__law_like (fun cdv R outer s H E hr tk => jss_never) (fun _ _ _ _ h => h.elim)
  | n + 1 => FnJ.mkAt (k := 1 + n) T.d__law_like sc__law_like (fun cdv R outer s H E hr tk => bd__law_like T n (ok__law_like T n) cdv R outer s H E hr tk) (rd__law_like A n)

/-! ### texts of signs -/
abbrev sgS (c : Nat) : Str := ⟨#[c]⟩
abbrev sg (c : Nat) : D := .str (sgS c)
theorem cut_take {z : Str} {k : Nat} (h : k ≤ z.length) : cutS z none (some (k : Int)) = ⟨(z.cps.toList.take k).toArray⟩ := by
  unfold cutS
  rw [HT.sIx_none, HT.sIx_nat, Nat.min_eq_left h, List.drop_zero, Nat.sub_zero]
theorem cut_drop {z : Str} {k : Nat} (h : k ≤ z.length) : cutS z (some (k : Int)) none = ⟨(z.cps.toList.drop k).toArray⟩ := by
  unfold cutS
  rw [HT.sIx_none, HT.sIx_nat, Nat.min_eq_left h, List.take_of_length_le]
  rw [List.length_drop]
  exact Nat.le_refl _
theorem len_mk {l : List Nat} : (⟨l.toArray⟩ : Str).length = l.length := List.size_toArray
theorem len_sg {c : Nat} : (sgS c).length = 1 := rfl
theorem app_cps {x y : Str} : (x ++ y).cps.toList = x.cps.toList ++ y.cps.toList := by
  show (x.cps ++ y.cps).toList = _
  rw [Array.toList_append]
theorem app_len {x y : Str} : (x ++ y).length = x.length + y.length := Array.size_append
theorem cps_len {x : Str} : x.cps.toList.length = x.length := Array.length_toList
theorem join_sgs : ∀ cs : List Nat, Txt.join ("" : Str) (cs.map sgS) = ⟨cs.toArray⟩ := by
  have key : ∀ cs : List Nat, Str.join ("" : Str) (cs.map sgS) = ⟨cs.toArray⟩ := by
    intro cs
    induction cs with
    | nil => rfl
    | cons c cs ih =>
      cases cs with
      | nil => rfl
      | cons d ds =>
        have e : Str.join ("" : Str) ((c :: d :: ds).map sgS) = sgS c ++ ("" : Str) ++ Str.join ("" : Str) ((d :: ds).map sgS) := rfl
        rw [e, ih]
        have e0 : ("" : Str) = ⟨#[]⟩ := by decide +kernel
        rw [e0]
        show (⟨(#[c] ++ #[]) ++ (d :: ds).toArray⟩ : Str) = _
        congr 1
        simp
  intro cs
  exact Eq.trans (StrLaws.glued_eq_join _ _) (key cs)
theorem all_in_iff {x L : Str} : allIn x L = true ↔ ∀ c ∈ x.cps.toList, c ∈ L.cps.toList := by
  unfold allIn
  rw [List.all_eq_true]
  exact ⟨fun h c hc => of_decide_eq_true (h c hc), fun h c hc => decide_eq_true (h c hc)⟩
/-- N is M with some bag -/
def Bgd (M : Mem) (b : Addr) (N : Mem) : Prop := ∃ o, Bg o ∧ N = mput M b o
theorem bgd_put {M N : Mem} {b : Addr} {o : MO} (h : Bgd M b N) (g : Bg o) : Bgd M b (mput N b o) := by
  obtain ⟨u, _, e⟩ := h
  exact ⟨o, g, by rw [e, mput_mput]⟩
theorem bgd_at {M N : Mem} {b : Addr} (h : Bgd M b N) : ∃ o, N b = some o ∧ Bg o := by
  obtain ⟨u, g, e⟩ := h
  exact ⟨u, by rw [e, mput_same], g⟩
theorem bgd_rfl {M : Mem} {b : Addr} {o : MO} (h : M b = some o) (g : Bg o) : Bgd M b M := ⟨o, g, by
  funext c
  by_cases e : c = b
  · subst e; rw [mput_same, h]
  · rw [mput_ne e]⟩
theorem bgd_trans {M N N' : Mem} {b : Addr} (h : Bgd M b N) (h' : Bgd N b N') : Bgd M b N' := by
  obtain ⟨u, _, e⟩ := h
  obtain ⟨u', g, e'⟩ := h'
  exact ⟨u', g, by rw [e', e, mput_mput]⟩
/-- pull, with the memory behind it -/
theorem pull_b (A : Ad) {b : Addr} {many : Int} {M N : Mem} {Q : KN} {Xc : KX} (hb : Bgd M b N) (h1 : 0 < many) (h2 : many < 1000000)
    (q : ∀ v : Nat, (v : Int) < many → ∀ N', Bgd M b N' → Bgd N b N' → Q (.int v) N') : sp__law_pull A [.ref b, .int many] N Q Xc := by
  obtain ⟨o, e, g⟩ := bgd_at hb
  exact pull_of A e g h1 h2 fun v hv o' ho => q v hv _ (bgd_put hb ho) ⟨o', ho, rfl⟩
theorem rng_len (lo : Int) (n : Nat) : (rngD lo n).length = n := by unfold rngD; rw [List.length_map, List.length_range]
/-- the signs popped: unlike ones of the letters -/
theorem pops (A : Ad) {b al : Addr} {M N : Mem} {ds : SD} {k p : Nat} {ls : List Nat} {K : List D → Mem → Prop} (hab : al ≠ b) (hb : Bgd M b N) (hal : N al = some (.lst (ls.map sg))) (hnd : ls.Nodup) (hlen : ls.length < 100)
    (h0 : ∀ x : D, (ds.set k (some x))[0]? = some (some (.ref b))) (hp : ∀ x : D, (ds.set k (some x))[p]? = some (some (.ref al))) (items : List D) (hit : items.length ≤ ls.length)
    (q : ∀ (cs ls' : List Nat) N', cs.length = items.length → cs.Nodup → (∀ c ∈ cs, c ∈ ls) → (∃ o u, Bg o ∧ N' = mput (mput M b o) al u) → K (cs.map sg) N') :
    lcR (gN k) wYes (wBM "list" rPopD (wVar p) (wCons (wCall (sp__law_pull A) (wCons (wVar 0) (wCons (wCB rLenD (wCons (wVar p) wNil)) wNil))) wNil)) ds items [] N K := by
  have big := sizeLine_big
  refine lcR_ind (fun its acc N' => ∃ (cs ls' : List Nat) (o : MO), acc = cs.map sg ∧ N' al = some (.lst (ls'.map sg)) ∧ N' b = some o ∧ Bg o ∧ (∀ c, c ≠ al → c ≠ b → N' c = M c) ∧ (cs ++ ls').Perm ls ∧ cs.length + its.length = items.length) ?_ ?_ items [] N ?_
  · rintro acc N' ⟨cs, ls', o, rfl, h1, h2, g, h3, hpm, hl⟩
    have nd : (cs ++ ls').Nodup := hpm.nodup_iff.mpr hnd
    refine q cs ls' N' (by simpa using hl) (List.nodup_append.mp nd).1 (fun c hc => hpm.mem_iff.mp (List.mem_append_left _ hc)) ⟨o, .lst (ls'.map sg), g, ?_⟩
    funext c
    by_cases e : c = al
    · subst e; rw [mput_same, h1]
    · rw [mput_ne e]
      by_cases e2 : c = b
      · subst e2; rw [mput_same, h2]
      · rw [mput_ne e2, h3 c e e2]
  · rintro d its acc N' R hR ⟨cs, ls', o, rfl, h1, h2, g, h3, hpm, hl⟩
    have hl' : cs.length + ls'.length = ls.length := by rw [← hpm.length_eq, List.length_append]
    rw [List.length_cons] at hl
    simp only [gN, wYes, wBM, wVar, h0, hp, wGet, wCons, wNil, wCall, wCB, rLenD, seqOf_own h1, optK_some, ↓reduceIte]
    refine ⟨tyD_own h1, pull_of A h2 g (by rw [List.length_map]; omega) (by rw [List.length_map]; omega) fun v hv o' ho => ?_⟩
    rw [List.length_map] at hv
    have hv' : v < ls'.length := by omega
    have h1' : mput N' b o' al = some (.lst (ls'.map sg)) := by rw [mput_ne hab]; exact h1
    refine popAt_own h1' (y := sg ls'[v]) (by rw [List.getElem?_map, List.getElem?_eq_getElem hv']; rfl) (by rw [List.length_map]; omega) ⟨by rw [List.length_map]; omega, hR _ _ ⟨cs ++ [ls'[v]], ls'.eraseIdx v, o', ?_, ?_, ?_, ho, fun c c1 c2 => ?_, ?_, ?_⟩⟩
    · rw [List.map_append]; rfl
    · rw [mput_same, List.eraseIdx_eq_take_drop_succ, List.eraseIdx_eq_take_drop_succ, List.map_append, List.map_take, List.map_drop]
    · rw [mput_ne hab.symm, mput_same]
    · rw [mput_ne c1, mput_ne c2]; exact h3 c c1 c2
    · refine List.Perm.trans ?_ hpm
      rw [List.append_assoc]
      refine List.Perm.append_left _ ?_
      have e : ls' = ls'.take v ++ ls'[v] :: ls'.drop (v + 1) := by rw [List.getElem_cons_drop, List.take_append_drop]
      rw [List.eraseIdx_eq_take_drop_succ]
      conv => rhs; rw [e]
      exact (List.perm_middle (l₁ := ls'.take v) (a := ls'[v]) (l₂ := ls'.drop (v + 1))).symm
    · rw [List.length_append, List.length_singleton]; omega
  · obtain ⟨o, e, g⟩ := bgd_at hb
    refine ⟨[], ls, o, rfl, hal, e, g, fun c c1 c2 => ?_, by rw [List.nil_append], by simp⟩
    obtain ⟨u, _, eq⟩ := hb
    rw [eq, mput_ne c2]
/-- ''.join([letters[pull(..)] ..]): some letters -/
theorem stems_b (A : Ad) {b : Addr} {M N : Mem} {ds : SD} {k p : Nat} {L : Str} {n : Nat} {K : List D → Mem → Prop} (hb : Bgd M b N) (hL : L.length = n) (h0n : 0 < n) (hn : n < 100)
    (h0 : ∀ x : D, (ds.set k (some x))[0]? = some (some (.ref b))) (hp : ∀ x : D, (ds.set k (some x))[p]? = some (some (.str L))) (items : List D) (hit : items.length < 90000)
    (q : ∀ (cs : List Nat) N', cs.length = items.length → (∀ c ∈ cs, c ∈ L.cps.toList) → Bgd M b N' → K (cs.map sg) N') :
    lcR (gN k) wYes (wOp rIxD (wVar p) (wCall (sp__law_pull A) (wCons (wVar 0) (wCons (wC (.int n)) wNil)))) ds items [] N K := by
  have big := sizeLine_big
  refine lcR_ind (fun its acc N' => ∃ cs : List Nat, acc = cs.map sg ∧ Bgd M b N' ∧ (∀ c ∈ cs, c ∈ L.cps.toList) ∧ cs.length + its.length = items.length) ?_ ?_ items [] N ⟨[], rfl, hb, by simp, by simp⟩
  · rintro acc N' ⟨cs, rfl, h1, h2, h3⟩
    exact q cs N' (by simpa using h3) h2 h1
  · rintro d its acc N' R hR ⟨cs, rfl, h1, h2, h3⟩
    rw [List.length_cons] at h3
    simp only [gN, wYes, wOp, wVar, h0, hp, wGet, wCons, wNil, wCall, wC, ↓reduceIte]
    refine pull_b A h1 (by omega) (by omega) fun v hv N2 g _ => ?_
    have hv' : v < L.cps.toList.length := by rw [cps_len]; omega
    simp only [rIxD, atI_nat, List.getElem?_eq_getElem hv', optK_some]
    refine ⟨by omega, by rw [List.length_map]; omega, hR _ _ ⟨cs ++ [L.cps.toList[v]], by rw [List.map_append]; rfl, g, fun c hc => ?_, by rw [List.length_append, List.length_singleton]; omega⟩⟩
    rcases List.mem_append.mp hc with hc | hc
    · exact h2 c hc
    · rw [List.mem_singleton.mp hc]; exact List.getElem_mem hv'
/-- x has the sign c at its place -/
structure Sig (L : Str) (k c : Nat) (x : Str) : Prop where
  at_ : x.cps.toList[k]? = some c
  len : x.length ≤ 8
  ok : allIn x L = true
theorem Sig.made {L : Str} {k c : Nat} {x : Str} (h : Sig L k c x) : madeOf L 8 (.str x) = true := by
  have e : madeOf L 8 (.str x) = (decide ((1 : Int) ≤ x.length) && (decide ((x.length : Int) ≤ 8) && allIn x L)) := rfl
  have h1 : 1 ≤ x.length := by
    rw [← cps_len]
    have := (List.getElem?_eq_some_iff.mp h.at_).1
    omega
  have h2 := h.len
  rw [e, h.ok, decide_eq_true (by omega), decide_eq_true (by omega)]
  rfl
theorem sig_of {L : Str} {pre rest : List Nat} {c : Nat} (h1 : ∀ z ∈ pre, z ∈ L.cps.toList) (h2 : c ∈ L.cps.toList) (h3 : ∀ z ∈ rest, z ∈ L.cps.toList) (hl : pre.length + 1 + rest.length ≤ 8) :
    Sig L pre.length c (⟨pre.toArray⟩ ++ sgS c ++ ⟨rest.toArray⟩) := by
  have e : ((⟨pre.toArray⟩ ++ sgS c ++ ⟨rest.toArray⟩ : Str)).cps.toList = pre ++ [c] ++ rest := by rw [app_cps, app_cps]
  refine ⟨?_, ?_, ?_⟩
  · rw [e, List.append_assoc, List.getElem?_append_right (Nat.le_refl _), Nat.sub_self]
    rfl
  · rw [app_len, app_len, len_mk, len_sg, len_mk]
    omega
  · rw [all_in_iff, e]
    intro z hz
    rcases List.mem_append.mp hz with hz | hz
    · rcases List.mem_append.mp hz with hz | hz
      · exact h1 z hz
      · rw [List.mem_singleton.mp hz]; exact h2
    · exact h3 z hz
/-- the names: each with its own sign at the same place -/
theorem found_b (A : Ad) {b : Addr} {M N : Mem} {ds : SD} {kv ps pa pt pe : Nat} {L : Str} {stem : List Nat} {at' : Nat} {ev : Int} {cs : List Nat} {K : List D → Mem → Prop} (hb : Bgd M b N)
    (hst : ∀ c ∈ stem, c ∈ L.cps.toList) (hsl : stem.length ≤ 7) (hat : at' ≤ stem.length) (hcs : ∀ c ∈ cs, c ∈ L.cps.toList) (hcl : cs.length < 1000)
    (h0 : ∀ x : D, (ds.set kv (some x))[0]? = some (some (.ref b))) (hk : ∀ x : D, (ds.set kv (some x))[kv]? = some (some x)) (h1 : ∀ x : D, (ds.set kv (some x))[ps]? = some (some (.str ⟨stem.toArray⟩)))
    (h2 : ∀ x : D, (ds.set kv (some x))[pa]? = some (some (.int (at' : Int)))) (h3 : ∀ x : D, (ds.set kv (some x))[pt]? = some (some (.str ⟨(stem.drop at').toArray⟩))) (h4 : ∀ x : D, (ds.set kv (some x))[pe]? = some (some (.int ev)))
    (q : ∀ (pr : List (Nat × Str)) N', pr.map (·.1) = cs → (∀ p ∈ pr, Sig L at' p.1 p.2) → Bgd M b N' → K (pr.map fun p => .str p.2) N') :
    lcR (gN kv) wYes (wOp rAddD (wOp rAddD (wSl (wVar ps) wNo (wSome (wVar pa))) (wVar kv)) (wIfE (wTest (wOp (rEqD false) (wVar pe) (wC (.int 0)))) (wVar pt) (wSl (wVar pt) wNo (wSome (wCall (sp__law_pull A) (wCons (wVar 0) (wCons (wOp rAddD (wCB rLenD (wCons (wVar pt) wNil)) (wC (.int 1))) wNil))))))) ds (cs.map sg) [] N K := by
  have big := sizeLine_big
  refine lcR_ind (fun its acc N' => ∃ (pr : List (Nat × Str)) (r : List Nat), acc = (pr.map fun p => D.str p.2) ∧ its = r.map sg ∧ pr.map (·.1) ++ r = cs ∧ (∀ p ∈ pr, Sig L at' p.1 p.2) ∧ Bgd M b N') ?_ ?_ (cs.map sg) [] N ⟨[], cs, rfl, rfl, rfl, by simp, hb⟩
  · rintro acc N' ⟨pr, r, rfl, e, e2, g1, g2⟩
    have e3 : r = [] := List.map_eq_nil_iff.mp e.symm
    subst e3
    exact q pr N' (by rw [← e2, List.append_nil]) g1 g2
  · rintro d its acc N' R hR ⟨pr, r, rfl, e, e2, g1, g2⟩
    cases r with
    | nil => cases e
    | cons c r =>
      cases e
      have hc : c ∈ L.cps.toList := hcs c (by rw [← e2]; simp)
      have hl : (pr.map fun p => D.str p.2).length < sizeLine := by
        have e5 := congrArg List.length e2
        rw [List.length_append, List.length_map] at e5
        rw [List.length_map]
        omega
      have c1 : cutS ⟨stem.toArray⟩ none (some (at' : Int)) = ⟨(stem.take at').toArray⟩ := cut_take (by rw [len_mk]; exact hat)
      have tl : (stem.take at').length = at' := List.length_take_of_le hat
      have dl : (stem.drop at').length = stem.length - at' := List.length_drop
      have l1 : (⟨(stem.take at').toArray⟩ : Str).length + (sgS c).length ≤ sizeLine := by rw [len_mk, len_sg, tl]; omega
      have fin : ∀ (rest : List Nat) N2, (∀ z ∈ rest, z ∈ L.cps.toList) → at' + 1 + rest.length ≤ 8 → Bgd M b N2 → ((⟨(stem.take at').toArray⟩ ++ sgS c : Str).length + (⟨rest.toArray⟩ : Str).length ≤ sizeLine ∧
          (pr.map fun p => D.str p.2).length < sizeLine ∧ R ((pr.map fun p => D.str p.2) ++ [D.str (⟨(stem.take at').toArray⟩ ++ sgS c ++ ⟨rest.toArray⟩)]) N2) := fun rest N2 hr hl2 g => by
        refine ⟨by rw [app_len, len_mk, len_sg, len_mk, tl]; omega, hl, hR _ _ ⟨pr ++ [(c, ⟨(stem.take at').toArray⟩ ++ sgS c ++ ⟨rest.toArray⟩)], r, by rw [List.map_append]; rfl, rfl, by rw [List.map_append, ← e2]; simp, fun p hp => ?_, g⟩⟩
        rcases List.mem_append.mp hp with hp | hp
        · exact g1 p hp
        · rw [List.mem_singleton.mp hp]
          have s := sig_of (L := L) (pre := stem.take at') (rest := rest) (c := c) (fun z hz => hst z (List.mem_of_mem_take hz)) hc hr (by rw [tl]; omega)
          rw [tl] at s
          exact s
      simp only [gN, wYes, wOp, wSl, wNo, wSome, intK, wIfE, wTest, isBl, wVar, h0, h1, h2, h3, h4, hk, wGet, wCons, wNil, wCall, wC, wCB, rSlD, c1, rAddD, rEqD, rLenD, ↓reduceIte, Bool.false_xor]
      refine ⟨by rw [len_mk]; omega, l1, ?_⟩
      by_cases hev : ev = 0
      · rw [if_pos (decide_eq_true hev)]
        exact fin _ _ (fun z hz => hst z (List.mem_of_mem_drop hz)) (by omega) g2
      · rw [if_neg (by simp [hev])]
        refine ⟨by rw [len_mk]; omega, pull_b A g2 (by omega) (by rw [len_mk]; omega) fun v hv N2 g _ => ?_⟩
        rw [len_mk] at hv
        have c2 : cutS ⟨(stem.drop at').toArray⟩ none (some (v : Int)) = ⟨((stem.drop at').take v).toArray⟩ := cut_take (by rw [len_mk]; omega)
        simp only [c2]
        refine ⟨by rw [len_mk]; omega, fin _ _ (fun z hz => hst z (List.mem_of_mem_drop (List.mem_of_mem_take hz))) ?_ g⟩
        rw [List.length_take]
        omega
theorem strs_sg (cs : List Nat) : strsD (cs.map sg) = some (cs.map sgS) := strsD_map sgS cs
theorem sum_sg : ∀ cs : List Nat, ((cs.map sgS).map (·.length)).sum = cs.length
  | [] => rfl
  | c :: cs => by
    simp only [List.map_cons, List.sum_cons, List.length_cons]
    rw [sum_sg cs, len_sg]
    omega

end DL.K03
namespace DL.K03
open PySem PySem.Spec PyProof.Rows L2 RZ
/-- names, up to eight -/
structure NamesK (xs : List Str) : Prop where
  lo : 1 ≤ xs.length
  hi : xs.length ≤ 8
  nd : xs.Nodup
  ok : ∀ x ∈ xs, madeOf LET 8 (.str x) = true
theorem NamesK.to5 {xs : List Str} (h : NamesK xs) (l : xs.length ≤ 5) : NamesOk xs := ⟨h.lo, l, h.nd, h.ok⟩
theorem let_len : LET.cps.toList.length = 26 := by decide +kernel
theorem let_nd : LET.cps.toList.Nodup := by decide +kernel
theorem l36_len : L36.cps.toList.length = 36 := by decide +kernel
theorem l36_nd : L36.cps.toList.Nodup := by decide +kernel
def sp__law_stems (A : Ad) : SpD := fun ds M Q _ => ∃ b many o, ds = [.ref b, .int many, .int 8] ∧ M b = some o ∧ Bg o ∧ 1 ≤ many ∧ many ≤ 8 ∧ ∀ names, NamesK names → (names.length : Int) = many → OwnOk names → ∀ o', Bg o' → Q (.lst (names.map D.str)) (mput M b o')
def wb__law_stems_c3 (A : Ad) : WS :=
  (wRet (wLc (wiSeq (wVar 10)) (gN 13) wYes (wIfE (wTest (wOp (rInD false) (wVar 13) (wTup (wCons (wC (.str "moment")) (wCons (wC (.str "source")) wNil))))) (wOp rAddD (wVar 13) (wC (.str "a"))) (wVar 13)) [13]))
def wb__law_stems_c2 (A : Ad) : WS :=
  (wSeq (wAsg (wLc (wiSeq (wVar 5)) (gN 11) wYes (wOp rAddD (wOp rAddD (wSl (wVar 6) wNo (wSome (wVar 7))) (wVar 11)) (wIfE (wTest (wOp (rEqD false) (wVar 9) (wC (.int 0)))) (wVar 8) (wSl (wVar 8) wNo (wSome (wCall (sp__law_pull A) (wCons (wVar 0) (wCons (wOp rAddD (wCB rLenD (wCons (wVar 8) wNil)) (wC (.int 1))) wNil))))))) [11]) (gN 10))
  (wb__law_stems_c3 A))
def wb__law_stems_c1 (A : Ad) : WS :=
  (wSeq (wAsg (wCall (sp__law_pull A) (wCons (wVar 0) (wCons (wOp rAddD (wCB rLenD (wCons (wVar 6) wNil)) (wC (.int 1))) wNil))) (gN 7))
  (wSeq (wAsg (wTup (wCons (wSl (wVar 6) (wSome (wVar 7)) wNo) (wCons (wCall (sp__law_pull A) (wCons (wVar 0) (wCons (wC (.int 2)) wNil))) wNil))) (gT 2 (gCons' (gN 8) (gCons' (gN 9) gNil'))))
  (wb__law_stems_c2 A)))
def wb__law_stems_c0 (A : Ad) : WS :=
  (wSeq (wAsg (wBM "str" rJoinD (wC (.str "")) (wCons (wLc (wiRng1 (wCons (wCall (sp__law_pull A) (wCons (wVar 0) (wCons (wVar 2) wNil))) wNil)) (gN 12) wYes (wOp rIxD (wVar 3) (wCall (sp__law_pull A) (wCons (wVar 0) (wCons (wC (.int 26)) wNil)))) [12]) wNil)) (gN 6))
  (wb__law_stems_c1 A))
def wb__law_stems_c4 (A : Ad) : WS :=
  (wSeq (wAsg (wLcO (wiStr (wVar 3)) (gN 11) wYes (wVar 11) [11]) (gN 4))
  (wSeq (wAsg (wLc (wiRng1 (wCons (wVar 1) wNil)) (gN 12) wYes (wBM "list" rPopD (wVar 4) (wCons (wCall (sp__law_pull A) (wCons (wVar 0) (wCons (wCB rLenD (wCons (wVar 4) wNil)) wNil))) wNil)) [12]) (gN 5))
  (wb__law_stems_c0 A)))
def wb__law_stems (A : Ad) : WS :=
  (wSeq (wAsg (wC (.str "abcdefghijklmnopqrstuvwxyz")) (gN 3))
  (wb__law_stems_c4 A))
theorem bd__law_stems {P : Program} {w : World} {K : PySem.W.Frag} {mg : Str → Option Value} {base : Heap} {A : Ad} (T : Txt P K mg A) (cdv : Value) (R : Around) (outer : List Env) (s : Shared) (H : Hp) (E : XK) (hr : Room 1 (R.deeper (envOfC "_law_stems" (defScope s__law_stems) s.heap.objs.size A.f__law_stems cdv)))
    (tk : Takes (cxOf (L2.CX P w) P w K mg base N__law_stems "_law_stems" (defScope s__law_stems) A.f__law_stems cdv R outer s H E) (WD E)) : JSs (cxOf (L2.CX P w) P w K mg base N__law_stems "_law_stems" (defScope s__law_stems) A.f__law_stems cdv R outer s H E) (WD E) (defBody s__law_stems) (wb__law_stems A) :=
  (js_cons (js_set (i := 3) sc__law_stems.nd j_str)
  (js_cons (js_set (i := 4) sc__law_stems.nd (j_lcO (own := [("_law_sign", 11)]) rfl sc__law_stems.nd (ji_str (jv 3)) (blkOk_by (own := [("_law_sign", 11)]) (N := N__law_stems) (sc := defScope s__law_stems) (by decide +kernel)) (fun _ _ _ _ _ => (jg_name (i := 11) sc__law_stems.nd)) (fun _ _ _ _ _ => jts_nil) (fun _ _ _ _ _ => (jv 11))))
  (js_cons (js_setLc (own := [("_law_k", 12)]) rfl sc__law_stems.nd (ji_rng1 T.n_range (j_cons (jv 1) j_nil)) (blkOk_by (own := [("_law_k", 12)]) (N := N__law_stems) (sc := defScope s__law_stems) (by decide +kernel)) (fun _ _ _ _ _ => (jg_name (i := 12) sc__law_stems.nd)) (fun _ _ _ _ _ => jts_nil) (fun _ _ _ _ _ => (j_bm PySem.F.plainAttrs_list PySem.F.slot_list_pop PySem.F.type_list_pop md_pop (jv 4) (j_cons (j_call (ok__law_pull T) hr (by decide) T.g__law_pull tkF (j_cons (jv 0) (j_cons (j_callB cd_len T.n_len bo_len (j_cons (jv 4) j_nil)) j_nil))) j_nil))))
  (js_cons (js_set (i := 6) sc__law_stems.nd (j_bm PySem.F.plainAttrs_str PySem.F.slot_str_join PySem.F.type_str_join md_join j_str (j_cons (j_lc (own := [("_law_k", 12)]) rfl sc__law_stems.nd (ji_rng1 T.n_range (j_cons (j_call (ok__law_pull T) hr (by decide) T.g__law_pull tk (j_cons (jv 0) (j_cons (jv 2) j_nil))) j_nil)) (blkOk_by (own := [("_law_k", 12)]) (N := N__law_stems) (sc := defScope s__law_stems) (by decide +kernel)) (fun _ _ _ _ _ => (jg_name (i := 12) sc__law_stems.nd)) (fun _ _ _ _ _ => jts_nil) (fun _ _ _ _ _ => (j_ix id_ix (jv 3) (j_call (ok__law_pull T) hr (by decide) T.g__law_pull tkF (j_cons (jv 0) (j_cons j_int j_nil)))))) j_nil)))
  (js_cons (js_set (i := 7) sc__law_stems.nd (j_call (ok__law_pull T) hr (by decide) T.g__law_pull tk (j_cons (jv 0) (j_cons (j_op od_add (j_callB cd_len T.n_len bo_len (j_cons (jv 6) j_nil)) j_int) j_nil))))
  (js_cons (js_asg (j_tup (j_cons (j_sl (jv 6) (jo_some (jv 7)) jo_none) (j_cons (j_call (ok__law_pull T) hr (by decide) T.g__law_pull tk (j_cons (jv 0) (j_cons j_int j_nil))) j_nil))) (jg_tup rfl (jgs_cons (jg_name (i := 8) sc__law_stems.nd) (jgs_cons (jg_name (i := 9) sc__law_stems.nd) jgs_nil))))
  (js_cons (js_setLc (own := [("_law_sign", 11)]) rfl sc__law_stems.nd (ji_seq (jv 5)) (blkOk_by (own := [("_law_sign", 11)]) (N := N__law_stems) (sc := defScope s__law_stems) (by decide +kernel)) (fun _ _ _ _ _ => (jg_name (i := 11) sc__law_stems.nd)) (fun _ _ _ _ _ => jts_nil) (fun _ _ _ _ _ => (j_op od_add (j_op od_add (j_sl (jv 6) jo_none (jo_some (jv 7))) (jv 11)) (j_if (jt_cmp (od_eq hr.units) (jv 9) j_int) (jv 8) (j_sl (jv 8) jo_none (jo_some (j_call (ok__law_pull T) hr (by decide) T.g__law_pull tkF (j_cons (jv 0) (j_cons (j_op od_add (j_callB cd_len T.n_len bo_len (j_cons (jv 8) j_nil)) j_int) j_nil)))))))))
  (js_one (js_ret (j_lc (own := [("_law_name", 13)]) rfl sc__law_stems.nd (ji_seq (jv 10)) (blkOk_by (own := [("_law_name", 13)]) (N := N__law_stems) (sc := defScope s__law_stems) (by decide +kernel)) (fun _ _ _ _ _ => (jg_name (i := 13) sc__law_stems.nd)) (fun _ _ _ _ _ => jts_nil) (fun _ _ _ _ _ => (j_if (jt_cmp od_in (jv 13) (j_tup (j_cons j_str (j_cons j_str j_nil)))) (j_op od_add (jv 13) j_str) (jv 13)))))))))))))
/-- names told apart by their sign at one place -/
structure Nms (n k : Nat) (pr : List (Nat × Str)) : Prop where
  nd : (pr.map (·.1)).Nodup
  ok : ∀ p ∈ pr, Sig LET k p.1 p.2
  len : pr.length = n
theorem sig_inj {L : Str} {k : Nat} {pr : List (Nat × Str)} (nd : (pr.map (·.1)).Nodup) (ok : ∀ p ∈ pr, Sig L k p.1 p.2) : (pr.map (·.2)).Nodup := by
  have key : (pr.map (·.2)).map (fun x => x.cps.toList[k]?) = (pr.map (·.1)).map some := by
    rw [List.map_map, List.map_map]
    exact List.map_congr_left fun p hp => (ok p hp).at_
  have h2 : ((pr.map (·.1)).map some).Nodup := List.Pairwise.map _ (fun a b h e => h (Option.some.inj e)) nd
  rw [← key] at h2
  exact List.Pairwise.of_map _ (fun a b h e => h (by rw [e])) h2
/-- a name that a sheet's own columns have gets one more sign -/
def fixN (x : Str) : Str := if x = ("moment" : Str) ∨ x = ("source" : Str) then x ++ ("a" : Str) else x
theorem fix_sig {k c : Nat} {x : Str} (h : Sig LET k c x) : Sig LET k c (fixN x) ∧ fixN x ≠ ("moment" : Str) ∧ fixN x ≠ ("source" : Str) := by
  unfold fixN
  by_cases e : x = ("moment" : Str) ∨ x = ("source" : Str)
  · rw [if_pos e]
    have hl : x.length = 6 := by rcases e with e | e <;> rw [e] <;> decide +kernel
    have hk := (List.getElem?_eq_some_iff.mp h.at_).1
    refine ⟨⟨?_, ?_, ?_⟩, ?_⟩
    · rw [app_cps, List.getElem?_append_left hk]; exact h.at_
    · rw [app_len, hl]; decide +kernel
    · rw [all_in_iff, app_cps]
      intro z hz
      rcases List.mem_append.mp hz with hz | hz
      · exact all_in_iff.mp h.ok z hz
      · have e2 : (("a" : Str)).cps.toList = [97] := by decide +kernel
        rw [e2] at hz
        rw [List.mem_singleton.mp hz]
        decide +kernel
    · rcases e with e | e <;> rw [e] <;> exact ⟨by decide +kernel, by decide +kernel⟩
  · rw [if_neg e]
    exact ⟨h, fun q => e (.inl q), fun q => e (.inr q)⟩
theorem stems_c3 (A : Ad) {b : Addr} {N : Mem} {E : ED} {ds : SD} {k n : Nat} {pr : List (Nat × Str)} (hd : ds.length = 14) (h10 : ds[10]? = some (some (.lst (pr.map fun p => D.str p.2)))) (hp : Nms n k pr) (h1 : 1 ≤ n) (h5 : n ≤ 8)
    (q : ∀ names, NamesK names → names.length = n → OwnOk names → E.rt (.lst (names.map D.str)) N) : wb__law_stems_c3 A E ds N := by
  have big := sizeLine_big
  simp only [wb__law_stems_c3, wRet, wLc, wiSeq, wVar, h10, wGet, frz_lst, optK_some]
  refine lcR_mapL (fun p : Nat × Str => D.str p.2) (fun p => D.str (fixN p.2)) (fun _ => True) (fun p acc R _ h => ?_) pr [] (fun _ _ => trivial) (by rw [hp.len]; simp only [List.length_nil]; omega) ?_
  · have hk : (((wipeD ds [13]).set 13 (some (.str p.2))))[13]? = some (some (.str p.2)) := by
      rw [List.getElem?_set_self]
      rw [wipeD_len, hd]
      decide
    have e : inD (.str p.2) [.str "moment", .str "source"] = decide (p.2 = ("moment" : Str) ∨ p.2 = ("source" : Str)) := by
      have e2 := inD_strs (x := p.2) [("moment" : Str), ("source" : Str)]
      rw [show inD (.str p.2) [.str "moment", .str "source"] = inD (.str p.2) ([("moment" : Str), ("source" : Str)].map D.str) from rfl, e2]
      simp only [List.any_cons, List.any_nil, Bool.or_false, Bool.decide_or, eq_comm]
    simp only [gN, wYes, wIfE, wTest, wOp, wVar, hk, wGet, wTup, wCons, wNil, wC, rInD, seqOf_tup, optK_some, e, isBl, ↓reduceIte, Bool.false_xor]
    refine ⟨by simp only [List.length_cons, List.length_nil]; omega, rfl, rfl, ?_⟩
    unfold fixN at h
    by_cases c : p.2 = ("moment" : Str) ∨ p.2 = ("source" : Str)
    · rw [if_pos (decide_eq_true c)]
      rw [if_pos c] at h
      simp only [rAddD]
      have hl : p.2.length = 6 := by rcases c with e | e <;> rw [e] <;> decide +kernel
      refine ⟨?_, h⟩
      rw [hl]
      have : (("a" : Str)).length = 1 := by decide +kernel
      omega
    · rw [if_neg (by simpa using c)]
      rw [if_neg c] at h
      exact h
  · rw [List.nil_append]
    have e : (pr.map fun p => D.str (fixN p.2)) = ((pr.map fun p => (p.1, fixN p.2)).map (·.2)).map D.str := by rw [List.map_map, List.map_map]; rfl
    rw [e]
    have hs : ∀ p ∈ pr.map (fun p => (p.1, fixN p.2)), Sig LET k p.1 p.2 := fun p hp' => by
      obtain ⟨r, hr, rfl⟩ := List.mem_map.mp hp'
      exact (fix_sig (hp.ok r hr)).1
    have hf : ((pr.map fun p => (p.1, fixN p.2)).map (·.1)) = pr.map (·.1) := by rw [List.map_map]; rfl
    refine q _ ⟨?_, ?_, sig_inj (k := k) (by rw [hf]; exact hp.nd) hs, fun x hx => ?_⟩ ?_ ⟨fun hm => ?_, fun hm => ?_⟩
    · rw [List.length_map, List.length_map, hp.len]; exact h1
    · rw [List.length_map, List.length_map, hp.len]; exact h5
    · obtain ⟨r, hr, rfl⟩ := List.mem_map.mp hx
      exact (hs r hr).made
    · rw [List.length_map, List.length_map, hp.len]
    · rw [List.map_map] at hm
      obtain ⟨r, hr, e⟩ := List.mem_map.mp hm
      exact (fix_sig (hp.ok r hr)).2.1 e
    · rw [List.map_map] at hm
      obtain ⟨r, hr, e⟩ := List.mem_map.mp hm
      exact (fix_sig (hp.ok r hr)).2.2 e
theorem stems_c2 (A : Ad) {b : Addr} {M N : Mem} {E : ED} {cs stem : List Nat} {at' : Nat} {ev : Int} {s1 s2 s3 s4 s10 s11 s12 s13 : Option D} (hb : Bgd M b N)
    (hst : ∀ c ∈ stem, c ∈ LET.cps.toList) (hsl : stem.length ≤ 7) (hat : at' ≤ stem.length) (hcs : ∀ c ∈ cs, c ∈ LET.cps.toList) (hnd : cs.Nodup) (h1 : 1 ≤ cs.length) (h5 : cs.length ≤ 8)
    (q : ∀ names, NamesK names → names.length = cs.length → OwnOk names → ∀ N', Bgd M b N' → E.rt (.lst (names.map D.str)) N') :
    wb__law_stems_c2 A E [some (.ref b), s1, s2, s3, s4, some (.lst (cs.map sg)), some (.str ⟨stem.toArray⟩), some (.int (at' : Int)), some (.str ⟨(stem.drop at').toArray⟩), some (.int ev), s10, s11, s12, s13] N := by
  simp only [wb__law_stems_c2, wSeq_p, seqE_nx, seqE_rt, wAsg, wLc, wiSeq, wVar, wGet, List.getElem?_cons_zero, List.getElem?_cons_succ, frz_lst, optK_some]
  refine found_b A (L := LET) (stem := stem) (at' := at') (ev := ev) hb hst hsl hat hcs (by omega) (fun _ => rfl) (fun _ => rfl) (fun _ => rfl) (fun _ => rfl) (fun _ => rfl) (fun _ => rfl) fun pr N' e hs g => ?_
  exact stems_c3 A (b := b) (k := at') (n := cs.length) (pr := pr) rfl rfl ⟨by rw [e]; exact hnd, hs, by rw [← e, List.length_map]⟩ h1 h5 fun names o1 o2 o3 => q names o1 o2 o3 N' g
theorem stems_c1 (A : Ad) {b : Addr} {M N : Mem} {E : ED} {cs stem : List Nat} {s1 s2 s3 s4 s7 s8 s9 s10 s11 s12 s13 : Option D} (hb : Bgd M b N)
    (hst : ∀ c ∈ stem, c ∈ LET.cps.toList) (hsl : stem.length ≤ 7) (hcs : ∀ c ∈ cs, c ∈ LET.cps.toList) (hnd : cs.Nodup) (h1 : 1 ≤ cs.length) (h5 : cs.length ≤ 8)
    (q : ∀ names, NamesK names → names.length = cs.length → OwnOk names → ∀ N', Bgd M b N' → E.rt (.lst (names.map D.str)) N') :
    wb__law_stems_c1 A E [some (.ref b), s1, s2, s3, s4, some (.lst (cs.map sg)), some (.str ⟨stem.toArray⟩), s7, s8, s9, s10, s11, s12, s13] N := by
  have big := sizeLine_big
  simp only [wb__law_stems_c1, wipeD, wNx, wSeq_p, seqE_nx, seqE_rt, seqE_bk, seqE_ct, seqE_ex, wIf, wRet, wRetN, wDrop, wAsg, wBrk, wCnt, wVar, wGet, wC, wOp, wUn, wCB, wNil, wCons, wTest, wAndT, wOrT, wNotT, wAndV, wOrV, wNotV, wIfE, wChain, wTup, wLst, wLstO, wCall, wMeth, wFld, wFst, wCv, wProp, wMake, wSl, wNo, wSome, intK, isBl, gN, gT, gCons', gNil', wSub, wAug, wPar, wBM, wIsT, wFor, wLc, wLcO, wYes, wiSeq, wiStr, wiRng1, wiRng2, wiZip, wFz, frz_lst, frz_tup, at1_0, at2_0, at2_1, at3_0, at3_1, at3_2, at4_0, at4_1, at4_2, at4_3, at5_0, at5_1, at5_2, at5_3, at5_4, seqOf_put, ED.xc, rIxD, rLenD, rIsD, rIntCD, rStrCD, rListD, rListO, rTupD, rAddD, rIntD, rInt0D, rEqD, rIsND, rNegD, rSlD, seqOf_lst, seqOf_tup, optK_some, insK_same, tyN_non, tyN_bl, tyN_int, tyN_str, tyN_tup, tyN_lst, tyN_dct, List.getElem?_cons_zero, List.getElem?_cons_succ, List.set_cons_zero, List.set_cons_succ, List.length_cons, List.length_nil, isB_NoneType_bool, isB_NoneType_int, isB_NoneType_str, isB_NoneType_tuple, isB_NoneType_list, isB_NoneType_dict, isB_bool_bool, isB_bool_int, isB_bool_str, isB_bool_tuple, isB_bool_list, isB_bool_dict, isB_int_bool, isB_int_int, isB_int_str, isB_int_tuple, isB_int_list, isB_int_dict, isB_str_bool, isB_str_int, isB_str_str, isB_str_tuple, isB_str_list, isB_str_dict, isB_tuple_bool, isB_tuple_int, isB_tuple_str, isB_tuple_tuple, isB_tuple_list, isB_tuple_dict, isB_list_bool, isB_list_int, isB_list_str, isB_list_tuple, isB_list_list, isB_list_dict, isB_dict_bool, isB_dict_int, isB_dict_str, isB_dict_tuple, isB_dict_list, isB_dict_dict, isC_bool, isC_int, isC_str, isC_tuple, isC_list, isC_dict, isA_list_tuple, isQ_NoneType, isQ_bool, isQ_int, isQ_str, isQ_tuple, isQ_list, isQ_dict, true_and, and_true, ↓reduceIte, Bool.not_true, Bool.not_false, Bool.false_eq_true, Bool.true_xor, Bool.false_xor]
  refine ⟨by rw [len_mk]; omega, pull_b A hb (by omega) (by rw [len_mk]; omega) fun v hv N1 g1 _ => ?_⟩
  rw [len_mk] at hv
  have c1 : cutS ⟨stem.toArray⟩ (some (v : Int)) none = ⟨(stem.drop v).toArray⟩ := cut_drop (by rw [len_mk]; omega)
  simp only [wipeD, wNx, wSeq_p, seqE_nx, seqE_rt, seqE_bk, seqE_ct, seqE_ex, wIf, wRet, wRetN, wDrop, wAsg, wBrk, wCnt, wVar, wGet, wC, wOp, wUn, wCB, wNil, wCons, wTest, wAndT, wOrT, wNotT, wAndV, wOrV, wNotV, wIfE, wChain, wTup, wLst, wLstO, wCall, wMeth, wFld, wFst, wCv, wProp, wMake, wSl, wNo, wSome, intK, isBl, gN, gT, gCons', gNil', wSub, wAug, wPar, wBM, wIsT, wFor, wLc, wLcO, wYes, wiSeq, wiStr, wiRng1, wiRng2, wiZip, wFz, frz_lst, frz_tup, at1_0, at2_0, at2_1, at3_0, at3_1, at3_2, at4_0, at4_1, at4_2, at4_3, at5_0, at5_1, at5_2, at5_3, at5_4, seqOf_put, ED.xc, rIxD, rLenD, rIsD, rIntCD, rStrCD, rListD, rListO, rTupD, rAddD, rIntD, rInt0D, rEqD, rIsND, rNegD, rSlD, seqOf_lst, seqOf_tup, optK_some, insK_same, tyN_non, tyN_bl, tyN_int, tyN_str, tyN_tup, tyN_lst, tyN_dct, List.getElem?_cons_zero, List.getElem?_cons_succ, List.set_cons_zero, List.set_cons_succ, List.length_cons, List.length_nil, isB_NoneType_bool, isB_NoneType_int, isB_NoneType_str, isB_NoneType_tuple, isB_NoneType_list, isB_NoneType_dict, isB_bool_bool, isB_bool_int, isB_bool_str, isB_bool_tuple, isB_bool_list, isB_bool_dict, isB_int_bool, isB_int_int, isB_int_str, isB_int_tuple, isB_int_list, isB_int_dict, isB_str_bool, isB_str_int, isB_str_str, isB_str_tuple, isB_str_list, isB_str_dict, isB_tuple_bool, isB_tuple_int, isB_tuple_str, isB_tuple_tuple, isB_tuple_list, isB_tuple_dict, isB_list_bool, isB_list_int, isB_list_str, isB_list_tuple, isB_list_list, isB_list_dict, isB_dict_bool, isB_dict_int, isB_dict_str, isB_dict_tuple, isB_dict_list, isB_dict_dict, isC_bool, isC_int, isC_str, isC_tuple, isC_list, isC_dict, isA_list_tuple, isQ_NoneType, isQ_bool, isQ_int, isQ_str, isQ_tuple, isQ_list, isQ_dict, true_and, and_true, ↓reduceIte, Bool.not_true, Bool.not_false, Bool.false_eq_true, Bool.true_xor, Bool.false_xor, c1]
  refine ⟨by rw [len_mk]; omega, pull_b A g1 (by omega) (by omega) fun ev hev N2 g2 _ => ?_⟩
  refine ⟨by omega, ?_⟩
  exact stems_c2 A (at' := v) (ev := ev) g2 hst hsl (by omega) hcs hnd h1 h5 q
theorem sgn_sg (x : Str) : sgnD x = x.cps.toList.map sg := rfl
theorem stems_c0 (A : Ad) {b : Addr} {M N : Mem} {E : ED} {cs : List Nat} {s1 s4 s6 s7 s8 s9 s10 s11 s12 s13 : Option D} (hb : Bgd M b N)
    (hcs : ∀ c ∈ cs, c ∈ LET.cps.toList) (hnd : cs.Nodup) (h1 : 1 ≤ cs.length) (h5 : cs.length ≤ 8)
    (q : ∀ names, NamesK names → names.length = cs.length → OwnOk names → ∀ N', Bgd M b N' → E.rt (.lst (names.map D.str)) N') :
    wb__law_stems_c0 A E [some (.ref b), s1, some (.int 8), some (.str LET), s4, some (.lst (cs.map sg)), s6, s7, s8, s9, s10, s11, s12, s13] N := by
  simp only [wb__law_stems_c0, wipeD, wNx, wSeq_p, seqE_nx, seqE_rt, seqE_bk, seqE_ct, seqE_ex, wIf, wRet, wRetN, wDrop, wAsg, wBrk, wCnt, wVar, wGet, wC, wOp, wUn, wCB, wNil, wCons, wTest, wAndT, wOrT, wNotT, wAndV, wOrV, wNotV, wIfE, wChain, wTup, wLst, wLstO, wCall, wMeth, wFld, wFst, wCv, wProp, wMake, wSl, wNo, wSome, intK, isBl, gN, gT, gCons', gNil', wSub, wAug, wPar, wBM, wIsT, wFor, wLc, wLcO, wYes, wiSeq, wiStr, wiRng1, wiRng2, wiZip, wFz, frz_lst, frz_tup, at1_0, at2_0, at2_1, at3_0, at3_1, at3_2, at4_0, at4_1, at4_2, at4_3, at5_0, at5_1, at5_2, at5_3, at5_4, seqOf_put, ED.xc, rIxD, rLenD, rIsD, rIntCD, rStrCD, rListD, rListO, rTupD, rAddD, rIntD, rInt0D, rEqD, rIsND, rNegD, rSlD, seqOf_lst, seqOf_tup, optK_some, insK_same, tyN_non, tyN_bl, tyN_int, tyN_str, tyN_tup, tyN_lst, tyN_dct, List.getElem?_cons_zero, List.getElem?_cons_succ, List.set_cons_zero, List.set_cons_succ, List.length_cons, List.length_nil, isB_NoneType_bool, isB_NoneType_int, isB_NoneType_str, isB_NoneType_tuple, isB_NoneType_list, isB_NoneType_dict, isB_bool_bool, isB_bool_int, isB_bool_str, isB_bool_tuple, isB_bool_list, isB_bool_dict, isB_int_bool, isB_int_int, isB_int_str, isB_int_tuple, isB_int_list, isB_int_dict, isB_str_bool, isB_str_int, isB_str_str, isB_str_tuple, isB_str_list, isB_str_dict, isB_tuple_bool, isB_tuple_int, isB_tuple_str, isB_tuple_tuple, isB_tuple_list, isB_tuple_dict, isB_list_bool, isB_list_int, isB_list_str, isB_list_tuple, isB_list_list, isB_list_dict, isB_dict_bool, isB_dict_int, isB_dict_str, isB_dict_tuple, isB_dict_list, isB_dict_dict, isC_bool, isC_int, isC_str, isC_tuple, isC_list, isC_dict, isA_list_tuple, isQ_NoneType, isQ_bool, isQ_int, isQ_str, isQ_tuple, isQ_list, isQ_dict, true_and, and_true, ↓reduceIte, Bool.not_true, Bool.not_false, Bool.false_eq_true, Bool.true_xor, Bool.false_xor, tyD]
  refine pull_b A hb (by omega) (by omega) fun v hv N1 g1 _ => ?_
  refine ⟨⟨by omega, by omega⟩, stems_b A (L := LET) (n := 26) g1 (by decide +kernel) (by decide) (by decide) (fun _ => rfl) (fun _ => rfl) _ (by rw [rng_len]; omega) fun ls N2 l1 l2 g2 => ?_⟩
  rw [rng_len] at l1
  simp only [rJoinD, strs_sg, optK_some, join_sgs]
  have e0 : (("" : Str)).length = 0 := by decide +kernel
  refine ⟨by rw [sum_sg, e0]; omega, ?_⟩
  exact stems_c1 A (stem := ls) g2 l2 (by omega) hcs hnd h1 h5 q
/-- the letters as a list of signs -/
theorem signs_b {ds : SD} {kv : Nat} {L : Str} {k : List D → Mem → Prop} {M : Mem} (hl : L.length < 90000) (hk : ∀ x : D, (ds.set kv (some x))[kv]? = some (some x)) (q : k (L.cps.toList.map sg) M) :
    lcR (gN kv) wYes (wVar kv) ds (sgnD L) [] M k := by
  have big := sizeLine_big
  rw [sgn_sg]
  refine lcR_mapL sg sg (fun _ => True) (fun c acc R _ h => ?_) L.cps.toList [] (fun _ _ => trivial) (by rw [cps_len]; simp only [List.length_nil]; omega) (by rw [List.nil_append]; exact q)
  simp only [gN, wYes, wVar, hk, wGet, ↓reduceIte]
  exact h
theorem stems_c4 (A : Ad) {b : Addr} {M : Mem} {E : ED} {L : Str} {many : Int} {o : MO} {s4 s5 s6 s7 s8 s9 s10 s11 s12 s13 : Option D} (hb : M b = some o) (g : Bg o) (hL : L = LET) (m1 : 1 ≤ many) (m5 : many ≤ 8)
    (q : ∀ names, NamesK names → (names.length : Int) = many → OwnOk names → ∀ N' al, M al = none → (∃ o' u, Bg o' ∧ N' = mput (mput M al u) b o') → E.rt (.lst (names.map D.str)) N') :
    wb__law_stems_c4 A E [some (.ref b), some (.int many), some (.int 8), some (.str L), s4, s5, s6, s7, s8, s9, s10, s11, s12, s13] M := by
  have e26 : L.cps.toList.length = 26 := by rw [hL]; exact let_len
  have end_ : L.cps.toList.Nodup := by rw [hL]; exact let_nd
  simp only [wb__law_stems_c4, wSeq_p, seqE_nx, seqE_rt, wAsg, wLcO, wiStr, wVar, wGet, List.getElem?_cons_zero, List.getElem?_cons_succ, wipeD, List.set_cons_zero, List.set_cons_succ]
  refine signs_b (by rw [← cps_len, e26]; decide) (fun _ => rfl) fun al hal => ?_
  have hab : al ≠ b := fun e => by subst e; rw [hal] at hb; cases hb
  simp only [wLc, wiRng1, wCons, wNil, wVar, wGet, gN, List.getElem?_cons_zero, List.getElem?_cons_succ, wipeD, List.set_cons_zero, List.set_cons_succ]
  refine ⟨⟨by omega, by omega⟩, pops A (M := mput M al (.lst (L.cps.toList.map sg))) hab (bgd_rfl (by rw [mput_ne hab.symm]; exact hb) g) mput_same end_ (by rw [e26]; decide) (fun _ => rfl) (fun _ => rfl) _ (by rw [rng_len, e26]; omega) fun cs ls' N hcl hcn hcm hN => ?_⟩
  rw [rng_len] at hcl
  obtain ⟨o1, u1, g1, rfl⟩ := hN
  subst hL
  refine stems_c0 A (M := mput (mput (mput M al (.lst (LET.cps.toList.map sg))) b o1) al u1) (bgd_rfl (by rw [mput_ne hab.symm, mput_same]) g1) hcm hcn (by omega) (by omega) fun names n1 n2 n3 N' hN' => ?_
  obtain ⟨o2, g2, rfl⟩ := hN'
  refine q names n1 (by omega) n3 _ al hal ⟨o2, u1, g2, ?_⟩
  funext c
  by_cases e : c = b
  · subst e; rw [mput_same, mput_same]
  · rw [mput_ne e, mput_ne e]
    by_cases e2 : c = al
    · subst e2; rw [mput_same, mput_same]
    · rw [mput_ne e2, mput_ne e, mput_ne e2, mput_ne e2]
theorem fin_own {Q : KN} {d : D} {M : Mem} {al b : Addr} {o : MO} {u : MO} (hal : M al = none) (hb : al ≠ b) (q : Q d (mput M b o)) : Fin Q d (mput (mput M al u) b o) := by
  refine fin_dn (M' := mput M b o) (fun c u hc => ?_) q
  by_cases e : c = b
  · subst e; rw [mput_same] at hc ⊢; exact hc
  · rw [mput_ne e] at hc ⊢
    have e2 : c ≠ al := fun e2 => by subst e2; rw [hal] at hc; cases hc
    rw [mput_ne e2]
    exact hc
theorem rd__law_stems (A : Ad) : ∀ ds M Q Xc, sp__law_stems A ds M Q Xc → ds.length = P__law_stems.length ∧ RD (wb__law_stems A) Q Xc (startD N__law_stems ds) M := by
  rintro _ M Q Xc ⟨b, many, o, rfl, hb, g, m1, m5, q⟩
  refine ⟨rfl, ?_⟩
  rw [st__law_stems]
  simp only [RD, wb__law_stems, wSeq_p, seqE_nx, seqE_rt, wAsg, wC, gN, List.set_cons_zero, List.set_cons_succ]
  refine stems_c4 A (L := Str.ofString "abcdefghijklmnopqrstuvwxyz") hb g rfl m1 m5 fun names n1 n2 n3 N' al hal hN => ?_
  obtain ⟨o', u, g', rfl⟩ := hN
  exact fin_own hal (fun e => by subst e; rw [hal] at hb; cases hb) (q names n1 n2 n3 o' g')
theorem ok__law_stems {P : Program} {w : World} {K : PySem.W.Frag} {mg : Str → Option Value} {base : Heap} {A : Ad} (T : Txt P K mg A) : FnJ P w K mg base 2 A.f__law_stems (sp__law_stems A) :=
  FnJ.mkAt T.d__law_stems sc__law_stems (fun cdv R outer s H E hr tk => bd__law_stems T cdv R outer s H E hr tk) (rd__law_stems A)

structure WordsOk (n : Nat) (ws : List Str) : Prop where
  len : ws.length = n
  ok : ∀ x ∈ ws, madeOf L36 8 (.str x) = true
  nd : ws.Nodup
def sp__law_words (A : Ad) : SpD := fun ds M Q _ => ∃ b many o, ds = [.ref b, .int many] ∧ M b = some o ∧ Bg o ∧ 1 ≤ many ∧ many ≤ 30 ∧ ∀ ws, WordsOk many.toNat ws → ∀ o', Bg o' → Q (.lst (ws.map D.str)) (mput M b o')
def wb__law_words_c2 (A : Ad) : WS :=
  (wRet (wLc (wiSeq (wVar 4)) (gN 9) wYes (wOp rAddD (wOp rAddD (wSl (wVar 5) wNo (wSome (wVar 6))) (wVar 9)) (wIfE (wTest (wOp (rEqD false) (wVar 8) (wC (.int 0)))) (wVar 7) (wSl (wVar 7) wNo (wSome (wCall (sp__law_pull A) (wCons (wVar 0) (wCons (wOp rAddD (wCB rLenD (wCons (wVar 7) wNil)) (wC (.int 1))) wNil))))))) [9]))
def wb__law_words_c1 (A : Ad) : WS :=
  (wSeq (wAsg (wCall (sp__law_pull A) (wCons (wVar 0) (wCons (wOp rAddD (wCB rLenD (wCons (wVar 5) wNil)) (wC (.int 1))) wNil))) (gN 6))
  (wSeq (wAsg (wTup (wCons (wSl (wVar 5) (wSome (wVar 6)) wNo) (wCons (wCall (sp__law_pull A) (wCons (wVar 0) (wCons (wC (.int 2)) wNil))) wNil))) (gT 2 (gCons' (gN 7) (gCons' (gN 8) gNil'))))
  (wb__law_words_c2 A)))
def wb__law_words_c0 (A : Ad) : WS :=
  (wSeq (wAsg (wBM "str" rJoinD (wC (.str "")) (wCons (wLc (wiRng1 (wCons (wCall (sp__law_pull A) (wCons (wVar 0) (wCons (wC (.int 8)) wNil))) wNil)) (gN 10) wYes (wOp rIxD (wVar 2) (wCall (sp__law_pull A) (wCons (wVar 0) (wCons (wC (.int 36)) wNil)))) [10]) wNil)) (gN 5))
  (wb__law_words_c1 A))
def wb__law_words_c3 (A : Ad) : WS :=
  (wSeq (wAsg (wLcO (wiStr (wVar 2)) (gN 9) wYes (wVar 9) [9]) (gN 3))
  (wSeq (wAsg (wLc (wiRng1 (wCons (wVar 1) wNil)) (gN 10) wYes (wBM "list" rPopD (wVar 3) (wCons (wCall (sp__law_pull A) (wCons (wVar 0) (wCons (wCB rLenD (wCons (wVar 3) wNil)) wNil))) wNil)) [10]) (gN 4))
  (wb__law_words_c0 A)))
def wb__law_words (A : Ad) : WS :=
  (wSeq (wAsg (wC (.str "abcdefghijklmnopqrstuvwxyz0123456789")) (gN 2))
  (wb__law_words_c3 A))
theorem bd__law_words {P : Program} {w : World} {K : PySem.W.Frag} {mg : Str → Option Value} {base : Heap} {A : Ad} (T : Txt P K mg A) (cdv : Value) (R : Around) (outer : List Env) (s : Shared) (H : Hp) (E : XK) (hr : Room 1 (R.deeper (envOfC "_law_words" (defScope s__law_words) s.heap.objs.size A.f__law_words cdv)))
    (tk : Takes (cxOf (L2.CX P w) P w K mg base N__law_words "_law_words" (defScope s__law_words) A.f__law_words cdv R outer s H E) (WD E)) : JSs (cxOf (L2.CX P w) P w K mg base N__law_words "_law_words" (defScope s__law_words) A.f__law_words cdv R outer s H E) (WD E) (defBody s__law_words) (wb__law_words A) :=
  (js_cons (js_set (i := 2) sc__law_words.nd j_str)
  (js_cons (js_set (i := 3) sc__law_words.nd (j_lcO (own := [("_law_sign", 9)]) rfl sc__law_words.nd (ji_str (jv 2)) (blkOk_by (own := [("_law_sign", 9)]) (N := N__law_words) (sc := defScope s__law_words) (by decide +kernel)) (fun _ _ _ _ _ => (jg_name (i := 9) sc__law_words.nd)) (fun _ _ _ _ _ => jts_nil) (fun _ _ _ _ _ => (jv 9))))
  (js_cons (js_setLc (own := [("_law_k", 10)]) rfl sc__law_words.nd (ji_rng1 T.n_range (j_cons (jv 1) j_nil)) (blkOk_by (own := [("_law_k", 10)]) (N := N__law_words) (sc := defScope s__law_words) (by decide +kernel)) (fun _ _ _ _ _ => (jg_name (i := 10) sc__law_words.nd)) (fun _ _ _ _ _ => jts_nil) (fun _ _ _ _ _ => (j_bm PySem.F.plainAttrs_list PySem.F.slot_list_pop PySem.F.type_list_pop md_pop (jv 3) (j_cons (j_call (ok__law_pull T) hr (by decide) T.g__law_pull tkF (j_cons (jv 0) (j_cons (j_callB cd_len T.n_len bo_len (j_cons (jv 3) j_nil)) j_nil))) j_nil))))
  (js_cons (js_set (i := 5) sc__law_words.nd (j_bm PySem.F.plainAttrs_str PySem.F.slot_str_join PySem.F.type_str_join md_join j_str (j_cons (j_lc (own := [("_law_k", 10)]) rfl sc__law_words.nd (ji_rng1 T.n_range (j_cons (j_call (ok__law_pull T) hr (by decide) T.g__law_pull tk (j_cons (jv 0) (j_cons j_int j_nil))) j_nil)) (blkOk_by (own := [("_law_k", 10)]) (N := N__law_words) (sc := defScope s__law_words) (by decide +kernel)) (fun _ _ _ _ _ => (jg_name (i := 10) sc__law_words.nd)) (fun _ _ _ _ _ => jts_nil) (fun _ _ _ _ _ => (j_ix id_ix (jv 2) (j_call (ok__law_pull T) hr (by decide) T.g__law_pull tkF (j_cons (jv 0) (j_cons j_int j_nil)))))) j_nil)))
  (js_cons (js_set (i := 6) sc__law_words.nd (j_call (ok__law_pull T) hr (by decide) T.g__law_pull tk (j_cons (jv 0) (j_cons (j_op od_add (j_callB cd_len T.n_len bo_len (j_cons (jv 5) j_nil)) j_int) j_nil))))
  (js_cons (js_asg (j_tup (j_cons (j_sl (jv 5) (jo_some (jv 6)) jo_none) (j_cons (j_call (ok__law_pull T) hr (by decide) T.g__law_pull tk (j_cons (jv 0) (j_cons j_int j_nil))) j_nil))) (jg_tup rfl (jgs_cons (jg_name (i := 7) sc__law_words.nd) (jgs_cons (jg_name (i := 8) sc__law_words.nd) jgs_nil))))
  (js_one (js_ret (j_lc (own := [("_law_sign", 9)]) rfl sc__law_words.nd (ji_seq (jv 4)) (blkOk_by (own := [("_law_sign", 9)]) (N := N__law_words) (sc := defScope s__law_words) (by decide +kernel)) (fun _ _ _ _ _ => (jg_name (i := 9) sc__law_words.nd)) (fun _ _ _ _ _ => jts_nil) (fun _ _ _ _ _ => (j_op od_add (j_op od_add (j_sl (jv 5) jo_none (jo_some (jv 6))) (jv 9)) (j_if (jt_cmp (od_eq hr.units) (jv 8) j_int) (jv 7) (j_sl (jv 7) jo_none (jo_some (j_call (ok__law_pull T) hr (by decide) T.g__law_pull tkF (j_cons (jv 0) (j_cons (j_op od_add (j_callB cd_len T.n_len bo_len (j_cons (jv 7) j_nil)) j_int) j_nil)))))))))))))))))
theorem words_c2 (A : Ad) {b : Addr} {M N : Mem} {E : ED} {cs stem : List Nat} {at' : Nat} {ev : Int} {s1 s2 s3 s9 s10 : Option D} (hb : Bgd M b N)
    (hst : ∀ c ∈ stem, c ∈ L36.cps.toList) (hsl : stem.length ≤ 7) (hat : at' ≤ stem.length) (hcs : ∀ c ∈ cs, c ∈ L36.cps.toList) (hnd : cs.Nodup) (h5 : cs.length ≤ 30)
    (q : ∀ ws, WordsOk cs.length ws → ∀ N', Bgd M b N' → E.rt (.lst (ws.map D.str)) N') :
    wb__law_words_c2 A E [some (.ref b), s1, s2, s3, some (.lst (cs.map sg)), some (.str ⟨stem.toArray⟩), some (.int (at' : Int)), some (.str ⟨(stem.drop at').toArray⟩), some (.int ev), s9, s10] N := by
  simp only [wb__law_words_c2, wRet, wLc, wiSeq, wVar, wGet, List.getElem?_cons_zero, List.getElem?_cons_succ, frz_lst, optK_some]
  refine found_b A (L := L36) (stem := stem) (at' := at') (ev := ev) hb hst hsl hat hcs (by omega) (fun _ => rfl) (fun _ => rfl) (fun _ => rfl) (fun _ => rfl) (fun _ => rfl) (fun _ => rfl) fun pr N' e hs g => ?_
  have e2 : (pr.map fun p => D.str p.2) = (pr.map (·.2)).map D.str := by rw [List.map_map]; rfl
  rw [e2]
  refine q _ ⟨by rw [← e, List.length_map, List.length_map], fun x hx => ?_, sig_inj (k := at') (by rw [e]; exact hnd) hs⟩ N' g
  obtain ⟨r, hr, rfl⟩ := List.mem_map.mp hx
  exact (hs r hr).made
theorem words_c1 (A : Ad) {b : Addr} {M N : Mem} {E : ED} {cs stem : List Nat} {s1 s2 s3 s6 s7 s8 s9 s10 : Option D} (hb : Bgd M b N)
    (hst : ∀ c ∈ stem, c ∈ L36.cps.toList) (hsl : stem.length ≤ 7) (hcs : ∀ c ∈ cs, c ∈ L36.cps.toList) (hnd : cs.Nodup) (h5 : cs.length ≤ 30)
    (q : ∀ ws, WordsOk cs.length ws → ∀ N', Bgd M b N' → E.rt (.lst (ws.map D.str)) N') :
    wb__law_words_c1 A E [some (.ref b), s1, s2, s3, some (.lst (cs.map sg)), some (.str ⟨stem.toArray⟩), s6, s7, s8, s9, s10] N := by
  have big := sizeLine_big
  simp only [wb__law_words_c1, wipeD, wNx, wSeq_p, seqE_nx, seqE_rt, seqE_bk, seqE_ct, seqE_ex, wIf, wRet, wRetN, wDrop, wAsg, wBrk, wCnt, wVar, wGet, wC, wOp, wUn, wCB, wNil, wCons, wTest, wAndT, wOrT, wNotT, wAndV, wOrV, wNotV, wIfE, wChain, wTup, wLst, wLstO, wCall, wMeth, wFld, wFst, wCv, wProp, wMake, wSl, wNo, wSome, intK, isBl, gN, gT, gCons', gNil', wSub, wAug, wPar, wBM, wIsT, wFor, wLc, wLcO, wYes, wiSeq, wiStr, wiRng1, wiRng2, wiZip, wFz, frz_lst, frz_tup, at1_0, at2_0, at2_1, at3_0, at3_1, at3_2, at4_0, at4_1, at4_2, at4_3, at5_0, at5_1, at5_2, at5_3, at5_4, seqOf_put, ED.xc, rIxD, rLenD, rIsD, rIntCD, rStrCD, rListD, rListO, rTupD, rAddD, rIntD, rInt0D, rEqD, rIsND, rNegD, rSlD, seqOf_lst, seqOf_tup, optK_some, insK_same, tyN_non, tyN_bl, tyN_int, tyN_str, tyN_tup, tyN_lst, tyN_dct, List.getElem?_cons_zero, List.getElem?_cons_succ, List.set_cons_zero, List.set_cons_succ, List.length_cons, List.length_nil, isB_NoneType_bool, isB_NoneType_int, isB_NoneType_str, isB_NoneType_tuple, isB_NoneType_list, isB_NoneType_dict, isB_bool_bool, isB_bool_int, isB_bool_str, isB_bool_tuple, isB_bool_list, isB_bool_dict, isB_int_bool, isB_int_int, isB_int_str, isB_int_tuple, isB_int_list, isB_int_dict, isB_str_bool, isB_str_int, isB_str_str, isB_str_tuple, isB_str_list, isB_str_dict, isB_tuple_bool, isB_tuple_int, isB_tuple_str, isB_tuple_tuple, isB_tuple_list, isB_tuple_dict, isB_list_bool, isB_list_int, isB_list_str, isB_list_tuple, isB_list_list, isB_list_dict, isB_dict_bool, isB_dict_int, isB_dict_str, isB_dict_tuple, isB_dict_list, isB_dict_dict, isC_bool, isC_int, isC_str, isC_tuple, isC_list, isC_dict, isA_list_tuple, isQ_NoneType, isQ_bool, isQ_int, isQ_str, isQ_tuple, isQ_list, isQ_dict, true_and, and_true, ↓reduceIte, Bool.not_true, Bool.not_false, Bool.false_eq_true, Bool.true_xor, Bool.false_xor]
  refine ⟨by rw [len_mk]; omega, pull_b A hb (by omega) (by rw [len_mk]; omega) fun v hv N1 g1 _ => ?_⟩
  rw [len_mk] at hv
  have c1 : cutS ⟨stem.toArray⟩ (some (v : Int)) none = ⟨(stem.drop v).toArray⟩ := cut_drop (by rw [len_mk]; omega)
  simp only [wipeD, wNx, wSeq_p, seqE_nx, seqE_rt, seqE_bk, seqE_ct, seqE_ex, wIf, wRet, wRetN, wDrop, wAsg, wBrk, wCnt, wVar, wGet, wC, wOp, wUn, wCB, wNil, wCons, wTest, wAndT, wOrT, wNotT, wAndV, wOrV, wNotV, wIfE, wChain, wTup, wLst, wLstO, wCall, wMeth, wFld, wFst, wCv, wProp, wMake, wSl, wNo, wSome, intK, isBl, gN, gT, gCons', gNil', wSub, wAug, wPar, wBM, wIsT, wFor, wLc, wLcO, wYes, wiSeq, wiStr, wiRng1, wiRng2, wiZip, wFz, frz_lst, frz_tup, at1_0, at2_0, at2_1, at3_0, at3_1, at3_2, at4_0, at4_1, at4_2, at4_3, at5_0, at5_1, at5_2, at5_3, at5_4, seqOf_put, ED.xc, rIxD, rLenD, rIsD, rIntCD, rStrCD, rListD, rListO, rTupD, rAddD, rIntD, rInt0D, rEqD, rIsND, rNegD, rSlD, seqOf_lst, seqOf_tup, optK_some, insK_same, tyN_non, tyN_bl, tyN_int, tyN_str, tyN_tup, tyN_lst, tyN_dct, List.getElem?_cons_zero, List.getElem?_cons_succ, List.set_cons_zero, List.set_cons_succ, List.length_cons, List.length_nil, isB_NoneType_bool, isB_NoneType_int, isB_NoneType_str, isB_NoneType_tuple, isB_NoneType_list, isB_NoneType_dict, isB_bool_bool, isB_bool_int, isB_bool_str, isB_bool_tuple, isB_bool_list, isB_bool_dict, isB_int_bool, isB_int_int, isB_int_str, isB_int_tuple, isB_int_list, isB_int_dict, isB_str_bool, isB_str_int, isB_str_str, isB_str_tuple, isB_str_list, isB_str_dict, isB_tuple_bool, isB_tuple_int, isB_tuple_str, isB_tuple_tuple, isB_tuple_list, isB_tuple_dict, isB_list_bool, isB_list_int, isB_list_str, isB_list_tuple, isB_list_list, isB_list_dict, isB_dict_bool, isB_dict_int, isB_dict_str, isB_dict_tuple, isB_dict_list, isB_dict_dict, isC_bool, isC_int, isC_str, isC_tuple, isC_list, isC_dict, isA_list_tuple, isQ_NoneType, isQ_bool, isQ_int, isQ_str, isQ_tuple, isQ_list, isQ_dict, true_and, and_true, ↓reduceIte, Bool.not_true, Bool.not_false, Bool.false_eq_true, Bool.true_xor, Bool.false_xor, c1]
  refine ⟨by rw [len_mk]; omega, pull_b A g1 (by omega) (by omega) fun ev hev N2 g2 _ => ?_⟩
  refine ⟨by omega, ?_⟩
  exact words_c2 A (at' := v) (ev := ev) g2 hst hsl (by omega) hcs hnd h5 q
theorem words_c0 (A : Ad) {b : Addr} {M N : Mem} {E : ED} {L : Str} (hL : L = L36) {cs : List Nat} {s1 s3 s5 s6 s7 s8 s9 s10 : Option D} (hb : Bgd M b N)
    (hcs : ∀ c ∈ cs, c ∈ L36.cps.toList) (hnd : cs.Nodup) (h5 : cs.length ≤ 30)
    (q : ∀ ws, WordsOk cs.length ws → ∀ N', Bgd M b N' → E.rt (.lst (ws.map D.str)) N') :
    wb__law_words_c0 A E [some (.ref b), s1, some (.str L), s3, some (.lst (cs.map sg)), s5, s6, s7, s8, s9, s10] N := by
  simp only [wb__law_words_c0, wipeD, wNx, wSeq_p, seqE_nx, seqE_rt, seqE_bk, seqE_ct, seqE_ex, wIf, wRet, wRetN, wDrop, wAsg, wBrk, wCnt, wVar, wGet, wC, wOp, wUn, wCB, wNil, wCons, wTest, wAndT, wOrT, wNotT, wAndV, wOrV, wNotV, wIfE, wChain, wTup, wLst, wLstO, wCall, wMeth, wFld, wFst, wCv, wProp, wMake, wSl, wNo, wSome, intK, isBl, gN, gT, gCons', gNil', wSub, wAug, wPar, wBM, wIsT, wFor, wLc, wLcO, wYes, wiSeq, wiStr, wiRng1, wiRng2, wiZip, wFz, frz_lst, frz_tup, at1_0, at2_0, at2_1, at3_0, at3_1, at3_2, at4_0, at4_1, at4_2, at4_3, at5_0, at5_1, at5_2, at5_3, at5_4, seqOf_put, ED.xc, rIxD, rLenD, rIsD, rIntCD, rStrCD, rListD, rListO, rTupD, rAddD, rIntD, rInt0D, rEqD, rIsND, rNegD, rSlD, seqOf_lst, seqOf_tup, optK_some, insK_same, tyN_non, tyN_bl, tyN_int, tyN_str, tyN_tup, tyN_lst, tyN_dct, List.getElem?_cons_zero, List.getElem?_cons_succ, List.set_cons_zero, List.set_cons_succ, List.length_cons, List.length_nil, isB_NoneType_bool, isB_NoneType_int, isB_NoneType_str, isB_NoneType_tuple, isB_NoneType_list, isB_NoneType_dict, isB_bool_bool, isB_bool_int, isB_bool_str, isB_bool_tuple, isB_bool_list, isB_bool_dict, isB_int_bool, isB_int_int, isB_int_str, isB_int_tuple, isB_int_list, isB_int_dict, isB_str_bool, isB_str_int, isB_str_str, isB_str_tuple, isB_str_list, isB_str_dict, isB_tuple_bool, isB_tuple_int, isB_tuple_str, isB_tuple_tuple, isB_tuple_list, isB_tuple_dict, isB_list_bool, isB_list_int, isB_list_str, isB_list_tuple, isB_list_list, isB_list_dict, isB_dict_bool, isB_dict_int, isB_dict_str, isB_dict_tuple, isB_dict_list, isB_dict_dict, isC_bool, isC_int, isC_str, isC_tuple, isC_list, isC_dict, isA_list_tuple, isQ_NoneType, isQ_bool, isQ_int, isQ_str, isQ_tuple, isQ_list, isQ_dict, true_and, and_true, ↓reduceIte, Bool.not_true, Bool.not_false, Bool.false_eq_true, Bool.true_xor, Bool.false_xor, tyD]
  refine pull_b A hb (by omega) (by omega) fun v hv N1 g1 _ => ?_
  refine ⟨⟨by omega, by omega⟩, stems_b A (L := L) (n := 36) g1 (by rw [hL]; decide +kernel) (by decide) (by decide) (fun _ => rfl) (fun _ => rfl) _ (by rw [rng_len]; omega) fun ls N2 l1 l2 g2 => ?_⟩
  rw [rng_len] at l1
  simp only [rJoinD, strs_sg, optK_some, join_sgs]
  have e0 : (("" : Str)).length = 0 := by decide +kernel
  refine ⟨by rw [sum_sg, e0]; omega, ?_⟩
  exact words_c1 A (stem := ls) g2 (by rw [← hL]; exact l2) (by omega) hcs hnd h5 q
theorem words_c3 (A : Ad) {b : Addr} {M : Mem} {E : ED} {L : Str} {many : Int} {o : MO} {s3 s4 s5 s6 s7 s8 s9 s10 : Option D} (hb : M b = some o) (g : Bg o) (hL : L = L36) (m1 : 1 ≤ many) (m5 : many ≤ 30)
    (q : ∀ ws, WordsOk many.toNat ws → ∀ N' al, M al = none → (∃ o' u, Bg o' ∧ N' = mput (mput M al u) b o') → E.rt (.lst (ws.map D.str)) N') :
    wb__law_words_c3 A E [some (.ref b), some (.int many), some (.str L), s3, s4, s5, s6, s7, s8, s9, s10] M := by
  have e36 : L.cps.toList.length = 36 := by rw [hL]; exact l36_len
  have end_ : L.cps.toList.Nodup := by rw [hL]; exact l36_nd
  simp only [wb__law_words_c3, wSeq_p, seqE_nx, seqE_rt, wAsg, wLcO, wiStr, wVar, wGet, List.getElem?_cons_zero, List.getElem?_cons_succ, wipeD, List.set_cons_zero, List.set_cons_succ]
  refine signs_b (by rw [← cps_len, e36]; decide) (fun _ => rfl) fun al hal => ?_
  have hab : al ≠ b := fun e => by subst e; rw [hal] at hb; cases hb
  simp only [wLc, wiRng1, wCons, wNil, wVar, wGet, gN, List.getElem?_cons_zero, List.getElem?_cons_succ, wipeD, List.set_cons_zero, List.set_cons_succ]
  refine ⟨⟨by omega, by omega⟩, pops A (M := mput M al (.lst (L.cps.toList.map sg))) hab (bgd_rfl (by rw [mput_ne hab.symm]; exact hb) g) mput_same end_ (by rw [e36]; decide) (fun _ => rfl) (fun _ => rfl) _ (by rw [rng_len, e36]; omega) fun cs ls' N hcl hcn hcm hN => ?_⟩
  rw [rng_len] at hcl
  obtain ⟨o1, u1, g1, rfl⟩ := hN
  refine words_c0 A (M := mput (mput (mput M al (.lst (L.cps.toList.map sg))) b o1) al u1) hL (bgd_rfl (by rw [mput_ne hab.symm, mput_same]) g1) (by rw [← hL]; exact hcm) hcn (by omega) fun ws n1 N' hN' => ?_
  obtain ⟨o2, g2, rfl⟩ := hN'
  refine q ws (by rw [← hcl]; exact n1) _ al hal ⟨o2, u1, g2, ?_⟩
  funext c
  by_cases e : c = b
  · subst e; rw [mput_same, mput_same]
  · rw [mput_ne e, mput_ne e]
    by_cases e2 : c = al
    · subst e2; rw [mput_same, mput_same]
    · rw [mput_ne e2, mput_ne e, mput_ne e2, mput_ne e2]
theorem rd__law_words (A : Ad) : ∀ ds M Q Xc, sp__law_words A ds M Q Xc → ds.length = P__law_words.length ∧ RD (wb__law_words A) Q Xc (startD N__law_words ds) M := by
  rintro _ M Q Xc ⟨b, many, o, rfl, hb, g, m1, m5, q⟩
  refine ⟨rfl, ?_⟩
  rw [st__law_words]
  simp only [RD, wb__law_words, wSeq_p, seqE_nx, wAsg, wC, gN, List.set_cons_zero, List.set_cons_succ]
  refine words_c3 A (L := Str.ofString "abcdefghijklmnopqrstuvwxyz0123456789") hb g (by decide +kernel) m1 m5 fun ws n1 N' al hal hN => ?_
  obtain ⟨o', u, g', rfl⟩ := hN
  exact fin_own hal (fun e => by subst e; rw [hal] at hb; cases hb) (q ws n1 o' g')
theorem ok__law_words {P : Program} {w : World} {K : PySem.W.Frag} {mg : Str → Option Value} {base : Heap} {A : Ad} (T : Txt P K mg A) : FnJ P w K mg base 2 A.f__law_words (sp__law_words A) :=
  FnJ.mkAt T.d__law_words sc__law_words (fun cdv R outer s H E hr tk => bd__law_words T cdv R outer s H E hr tk) (rd__law_words A)
/-! ### the ground, the shape -/
structure GrOk (nf ns : Int) (fs ss ws : List Str) : Prop where
  f : NamesOk fs
  s : NamesOk ss
  w : WordsOk 5 ws
  o : OwnOk fs
  fl : (fs.length : Int) ≤ nf
  sl : (ss.length : Int) ≤ ns
def grD (fs ss ws : List Str) : D := .tup [.lst (fs.map D.str), .lst (ss.map D.str), .lst (ws.map D.str)]
def sp__law_ground (A : Ad) : SpD := fun ds M Q _ => ∃ b nf ns o, ds = [.ref b, .int nf, .int ns] ∧ M b = some o ∧ Bg o ∧ 1 ≤ nf ∧ nf ≤ 5 ∧ 1 ≤ ns ∧ ns ≤ 5 ∧ ∀ fs ss ws, GrOk nf ns fs ss ws → ∀ o', Bg o' → Q (grD fs ss ws) (mput M b o')
def wb__law_ground (A : Ad) : WS :=
  (wRet (wTup (wCons (wCall (sp__law_stems A) (wCons (wVar 0) (wCons (wOp rAddD (wC (.int 1)) (wCall (sp__law_pull A) (wCons (wVar 0) (wCons (wVar 1) wNil)))) (wCons (wC (.int 8)) wNil)))) (wCons (wCall (sp__law_stems A) (wCons (wVar 0) (wCons (wOp rAddD (wC (.int 1)) (wCall (sp__law_pull A) (wCons (wVar 0) (wCons (wVar 2) wNil)))) (wCons (wC (.int 8)) wNil)))) (wCons (wCall (sp__law_words A) (wCons (wVar 0) (wCons (wC (.int 5)) wNil))) wNil)))))
theorem bd__law_ground {P : Program} {w : World} {K : PySem.W.Frag} {mg : Str → Option Value} {base : Heap} {A : Ad} (T : Txt P K mg A) (cdv : Value) (R : Around) (outer : List Env) (s : Shared) (H : Hp) (E : XK) (hr : Room 2 (R.deeper (envOfC "_law_ground" (defScope s__law_ground) s.heap.objs.size A.f__law_ground cdv)))
    (tk : Takes (cxOf (L2.CX P w) P w K mg base N__law_ground "_law_ground" (defScope s__law_ground) A.f__law_ground cdv R outer s H E) (WD E)) : JSs (cxOf (L2.CX P w) P w K mg base N__law_ground "_law_ground" (defScope s__law_ground) A.f__law_ground cdv R outer s H E) (WD E) (defBody s__law_ground) (wb__law_ground A) :=
  (js_one (js_ret (j_tup (j_cons (j_call (ok__law_stems T) hr (by decide) T.g__law_stems tk (j_cons (jv 0) (j_cons (j_op od_add j_int (j_call (ok__law_pull T) hr (by decide) T.g__law_pull tk (j_cons (jv 0) (j_cons (jv 1) j_nil)))) (j_cons j_int j_nil)))) (j_cons (j_call (ok__law_stems T) hr (by decide) T.g__law_stems tk (j_cons (jv 0) (j_cons (j_op od_add j_int (j_call (ok__law_pull T) hr (by decide) T.g__law_pull tk (j_cons (jv 0) (j_cons (jv 2) j_nil)))) (j_cons j_int j_nil)))) (j_cons (j_call (ok__law_words T) hr (by decide) T.g__law_words tk (j_cons (jv 0) (j_cons j_int j_nil))) j_nil))))))
theorem rd__law_ground (A : Ad) : ∀ ds M Q Xc, sp__law_ground A ds M Q Xc → ds.length = P__law_ground.length ∧ RD (wb__law_ground A) Q Xc (startD N__law_ground ds) M := by
  rintro _ M Q Xc ⟨b, nf, ns, o, rfl, hb, g, f1, f5, s1, s5, q⟩
  refine ⟨rfl, ?_⟩
  rw [st__law_ground]
  have big := sizeLine_big
  simp only [RD, wb__law_ground, wipeD, wNx, wSeq_p, seqE_nx, seqE_rt, seqE_bk, seqE_ct, seqE_ex, wIf, wRet, wRetN, wDrop, wAsg, wBrk, wCnt, wVar, wGet, wC, wOp, wUn, wCB, wNil, wCons, wTest, wAndT, wOrT, wNotT, wAndV, wOrV, wNotV, wIfE, wChain, wTup, wLst, wLstO, wCall, wMeth, wFld, wFst, wCv, wProp, wMake, wSl, wNo, wSome, intK, isBl, gN, gT, gCons', gNil', wSub, wAug, wPar, wBM, wIsT, wFor, wLc, wLcO, wYes, wiSeq, wiStr, wiRng1, wiRng2, wiZip, wFz, frz_lst, frz_tup, at1_0, at2_0, at2_1, at3_0, at3_1, at3_2, at4_0, at4_1, at4_2, at4_3, at5_0, at5_1, at5_2, at5_3, at5_4, seqOf_put, ED.xc, rIxD, rLenD, rIsD, rIntCD, rStrCD, rListD, rListO, rTupD, rAddD, rIntD, rInt0D, rEqD, rIsND, rNegD, rSlD, seqOf_lst, seqOf_tup, optK_some, insK_same, tyN_non, tyN_bl, tyN_int, tyN_str, tyN_tup, tyN_lst, tyN_dct, List.getElem?_cons_zero, List.getElem?_cons_succ, List.set_cons_zero, List.set_cons_succ, List.length_cons, List.length_nil, isB_NoneType_bool, isB_NoneType_int, isB_NoneType_str, isB_NoneType_tuple, isB_NoneType_list, isB_NoneType_dict, isB_bool_bool, isB_bool_int, isB_bool_str, isB_bool_tuple, isB_bool_list, isB_bool_dict, isB_int_bool, isB_int_int, isB_int_str, isB_int_tuple, isB_int_list, isB_int_dict, isB_str_bool, isB_str_int, isB_str_str, isB_str_tuple, isB_str_list, isB_str_dict, isB_tuple_bool, isB_tuple_int, isB_tuple_str, isB_tuple_tuple, isB_tuple_list, isB_tuple_dict, isB_list_bool, isB_list_int, isB_list_str, isB_list_tuple, isB_list_list, isB_list_dict, isB_dict_bool, isB_dict_int, isB_dict_str, isB_dict_tuple, isB_dict_list, isB_dict_dict, isC_bool, isC_int, isC_str, isC_tuple, isC_list, isC_dict, isA_list_tuple, isQ_NoneType, isQ_bool, isQ_int, isQ_str, isQ_tuple, isQ_list, isQ_dict, true_and, and_true, ↓reduceIte, Bool.not_true, Bool.not_false, Bool.false_eq_true, Bool.true_xor, Bool.false_xor]
  refine pull_of A hb g (by omega) (by omega) fun v hv o1 g1 => ?_
  refine ⟨b, _, o1, rfl, mput_same, g1, by omega, by omega, fun fs a1 a2 a3 o2 g2 => ?_⟩
  simp only [wipeD, wNx, wSeq_p, seqE_nx, seqE_rt, seqE_bk, seqE_ct, seqE_ex, wIf, wRet, wRetN, wDrop, wAsg, wBrk, wCnt, wVar, wGet, wC, wOp, wUn, wCB, wNil, wCons, wTest, wAndT, wOrT, wNotT, wAndV, wOrV, wNotV, wIfE, wChain, wTup, wLst, wLstO, wCall, wMeth, wFld, wFst, wCv, wProp, wMake, wSl, wNo, wSome, intK, isBl, gN, gT, gCons', gNil', wSub, wAug, wPar, wBM, wIsT, wFor, wLc, wLcO, wYes, wiSeq, wiStr, wiRng1, wiRng2, wiZip, wFz, frz_lst, frz_tup, at1_0, at2_0, at2_1, at3_0, at3_1, at3_2, at4_0, at4_1, at4_2, at4_3, at5_0, at5_1, at5_2, at5_3, at5_4, seqOf_put, ED.xc, rIxD, rLenD, rIsD, rIntCD, rStrCD, rListD, rListO, rTupD, rAddD, rIntD, rInt0D, rEqD, rIsND, rNegD, rSlD, seqOf_lst, seqOf_tup, optK_some, insK_same, tyN_non, tyN_bl, tyN_int, tyN_str, tyN_tup, tyN_lst, tyN_dct, List.getElem?_cons_zero, List.getElem?_cons_succ, List.set_cons_zero, List.set_cons_succ, List.length_cons, List.length_nil, isB_NoneType_bool, isB_NoneType_int, isB_NoneType_str, isB_NoneType_tuple, isB_NoneType_list, isB_NoneType_dict, isB_bool_bool, isB_bool_int, isB_bool_str, isB_bool_tuple, isB_bool_list, isB_bool_dict, isB_int_bool, isB_int_int, isB_int_str, isB_int_tuple, isB_int_list, isB_int_dict, isB_str_bool, isB_str_int, isB_str_str, isB_str_tuple, isB_str_list, isB_str_dict, isB_tuple_bool, isB_tuple_int, isB_tuple_str, isB_tuple_tuple, isB_tuple_list, isB_tuple_dict, isB_list_bool, isB_list_int, isB_list_str, isB_list_tuple, isB_list_list, isB_list_dict, isB_dict_bool, isB_dict_int, isB_dict_str, isB_dict_tuple, isB_dict_list, isB_dict_dict, isC_bool, isC_int, isC_str, isC_tuple, isC_list, isC_dict, isA_list_tuple, isQ_NoneType, isQ_bool, isQ_int, isQ_str, isQ_tuple, isQ_list, isQ_dict, true_and, and_true, ↓reduceIte, Bool.not_true, Bool.not_false, Bool.false_eq_true, Bool.true_xor, Bool.false_xor, mput_mput]
  refine pull_of A mput_same g2 (by omega) (by omega) fun v2 hv2 o3 g3 => ?_
  refine ⟨b, _, o3, rfl, mput_same, g3, by omega, by omega, fun ss b1 b2 b3 o4 g4 => ?_⟩
  simp only [wipeD, wNx, wSeq_p, seqE_nx, seqE_rt, seqE_bk, seqE_ct, seqE_ex, wIf, wRet, wRetN, wDrop, wAsg, wBrk, wCnt, wVar, wGet, wC, wOp, wUn, wCB, wNil, wCons, wTest, wAndT, wOrT, wNotT, wAndV, wOrV, wNotV, wIfE, wChain, wTup, wLst, wLstO, wCall, wMeth, wFld, wFst, wCv, wProp, wMake, wSl, wNo, wSome, intK, isBl, gN, gT, gCons', gNil', wSub, wAug, wPar, wBM, wIsT, wFor, wLc, wLcO, wYes, wiSeq, wiStr, wiRng1, wiRng2, wiZip, wFz, frz_lst, frz_tup, at1_0, at2_0, at2_1, at3_0, at3_1, at3_2, at4_0, at4_1, at4_2, at4_3, at5_0, at5_1, at5_2, at5_3, at5_4, seqOf_put, ED.xc, rIxD, rLenD, rIsD, rIntCD, rStrCD, rListD, rListO, rTupD, rAddD, rIntD, rInt0D, rEqD, rIsND, rNegD, rSlD, seqOf_lst, seqOf_tup, optK_some, insK_same, tyN_non, tyN_bl, tyN_int, tyN_str, tyN_tup, tyN_lst, tyN_dct, List.getElem?_cons_zero, List.getElem?_cons_succ, List.set_cons_zero, List.set_cons_succ, List.length_cons, List.length_nil, isB_NoneType_bool, isB_NoneType_int, isB_NoneType_str, isB_NoneType_tuple, isB_NoneType_list, isB_NoneType_dict, isB_bool_bool, isB_bool_int, isB_bool_str, isB_bool_tuple, isB_bool_list, isB_bool_dict, isB_int_bool, isB_int_int, isB_int_str, isB_int_tuple, isB_int_list, isB_int_dict, isB_str_bool, isB_str_int, isB_str_str, isB_str_tuple, isB_str_list, isB_str_dict, isB_tuple_bool, isB_tuple_int, isB_tuple_str, isB_tuple_tuple, isB_tuple_list, isB_tuple_dict, isB_list_bool, isB_list_int, isB_list_str, isB_list_tuple, isB_list_list, isB_list_dict, isB_dict_bool, isB_dict_int, isB_dict_str, isB_dict_tuple, isB_dict_list, isB_dict_dict, isC_bool, isC_int, isC_str, isC_tuple, isC_list, isC_dict, isA_list_tuple, isQ_NoneType, isQ_bool, isQ_int, isQ_str, isQ_tuple, isQ_list, isQ_dict, true_and, and_true, ↓reduceIte, Bool.not_true, Bool.not_false, Bool.false_eq_true, Bool.true_xor, Bool.false_xor, mput_mput]
  refine ⟨b, 5, o4, rfl, mput_same, g4, by omega, by omega, fun ws c1 o5 g5 => ?_⟩
  simp only [wipeD, wNx, wSeq_p, seqE_nx, seqE_rt, seqE_bk, seqE_ct, seqE_ex, wIf, wRet, wRetN, wDrop, wAsg, wBrk, wCnt, wVar, wGet, wC, wOp, wUn, wCB, wNil, wCons, wTest, wAndT, wOrT, wNotT, wAndV, wOrV, wNotV, wIfE, wChain, wTup, wLst, wLstO, wCall, wMeth, wFld, wFst, wCv, wProp, wMake, wSl, wNo, wSome, intK, isBl, gN, gT, gCons', gNil', wSub, wAug, wPar, wBM, wIsT, wFor, wLc, wLcO, wYes, wiSeq, wiStr, wiRng1, wiRng2, wiZip, wFz, frz_lst, frz_tup, at1_0, at2_0, at2_1, at3_0, at3_1, at3_2, at4_0, at4_1, at4_2, at4_3, at5_0, at5_1, at5_2, at5_3, at5_4, seqOf_put, ED.xc, rIxD, rLenD, rIsD, rIntCD, rStrCD, rListD, rListO, rTupD, rAddD, rIntD, rInt0D, rEqD, rIsND, rNegD, rSlD, seqOf_lst, seqOf_tup, optK_some, insK_same, tyN_non, tyN_bl, tyN_int, tyN_str, tyN_tup, tyN_lst, tyN_dct, List.getElem?_cons_zero, List.getElem?_cons_succ, List.set_cons_zero, List.set_cons_succ, List.length_cons, List.length_nil, isB_NoneType_bool, isB_NoneType_int, isB_NoneType_str, isB_NoneType_tuple, isB_NoneType_list, isB_NoneType_dict, isB_bool_bool, isB_bool_int, isB_bool_str, isB_bool_tuple, isB_bool_list, isB_bool_dict, isB_int_bool, isB_int_int, isB_int_str, isB_int_tuple, isB_int_list, isB_int_dict, isB_str_bool, isB_str_int, isB_str_str, isB_str_tuple, isB_str_list, isB_str_dict, isB_tuple_bool, isB_tuple_int, isB_tuple_str, isB_tuple_tuple, isB_tuple_list, isB_tuple_dict, isB_list_bool, isB_list_int, isB_list_str, isB_list_tuple, isB_list_list, isB_list_dict, isB_dict_bool, isB_dict_int, isB_dict_str, isB_dict_tuple, isB_dict_list, isB_dict_dict, isC_bool, isC_int, isC_str, isC_tuple, isC_list, isC_dict, isA_list_tuple, isQ_NoneType, isQ_bool, isQ_int, isQ_str, isQ_tuple, isQ_list, isQ_dict, true_and, and_true, ↓reduceIte, Bool.not_true, Bool.not_false, Bool.false_eq_true, Bool.true_xor, Bool.false_xor, mput_mput]
  exact ⟨by omega, fin_of (q fs ss ws ⟨a1.to5 (by omega), b1.to5 (by omega), c1, a3, by omega, by omega⟩ o5 g5)⟩
theorem ok__law_ground {P : Program} {w : World} {K : PySem.W.Frag} {mg : Str → Option Value} {base : Heap} {A : Ad} (T : Txt P K mg A) : FnJ P w K mg base 3 A.f__law_ground (sp__law_ground A) :=
  FnJ.mkAt T.d__law_ground sc__law_ground (fun cdv R outer s H E hr tk => bd__law_ground T cdv R outer s H E hr tk) (rd__law_ground A)

end DL.K03
namespace DL.K03
open PySem PySem.Spec PyProof.Rows L2 RZ
theorem lnames_mem {xs : List D} {x : D} (hx : x ∈ xs) (h : madeOf LET 8 x = false) : lnames xs = false := by
  cases e : lnames xs with
  | false => rfl
  | true =>
    obtain ⟨zs, rfl, hn⟩ := lnames_of e
    obtain ⟨z, hz, rfl⟩ := List.mem_map.mp hx
    rw [hn.ok z hz] at h
    cases h
theorem bad0_mem {xs : List D} {x : D} (hx : x ∈ xs) (h : madeOf LET 8 x = false ∨ x = .str "moment" ∨ x = .str "source") : Bad0 (.lst xs) := by
  cases e : lnames xs with
  | false => exact .inl e
  | true =>
    rcases h with h | h
    · rw [lnames_mem hx h] at e
      cases e
    · obtain ⟨zs, rfl, hn⟩ := lnames_of e
      obtain ⟨z, hz, rfl⟩ := List.mem_map.mp hx
      refine .inr ⟨zs, .inl rfl, hn, List.any_eq_true.mpr ⟨z, hz, decide_eq_true ?_⟩⟩
      rcases h with h | h
      · exact .inl (by cases h; rfl)
      · exact .inr (by cases h; rfl)
/-- what one may put among the names -/
def Odd (own : Bool) (x : D) : Prop := (pl x = true ∧ short x) ∧ (madeOf LET 8 x = false ∨ (own = true ∧ (x = .str "moment" ∨ x = .str "source")))
def BadV (own : Bool) (v : D) : Prop := if own = true then Bad0 v else areN v = false
theorem badV_of {own : Bool} {v : D} (h : areN v = false) : BadV own v := by
  unfold BadV
  by_cases e : own = true
  · rw [if_pos e]; exact .inl h
  · rw [if_neg e]; exact h
theorem odd1 : ∀ own, ∀ x ∈ ([.str "", .str "A", .str "ab1", .str "abcdefghi", .str "a b", .non, .int 7, .bl true, .tup [.str "a"], .str "a-b", .str "a\n"] : List D), Odd own x := by
  intro own x hx
  have st : ∀ y : Str, y.length < 90000 → madeOf LET 8 (.str y) = false → Odd own (.str y) := fun y h1 h2 => ⟨⟨rfl, h1⟩, .inl h2⟩
  simp only [List.mem_cons, List.not_mem_nil, or_false] at hx
  rcases hx with rfl | rfl | rfl | rfl | rfl | rfl | rfl | rfl | rfl | rfl | rfl
  · exact st _ (by decide +kernel) (by decide +kernel)
  · exact st _ (by decide +kernel) (by decide +kernel)
  · exact st _ (by decide +kernel) (by decide +kernel)
  · exact st _ (by decide +kernel) (by decide +kernel)
  · exact st _ (by decide +kernel) (by decide +kernel)
  · exact ⟨⟨rfl, trivial⟩, .inl rfl⟩
  · exact ⟨⟨rfl, trivial⟩, .inl rfl⟩
  · exact ⟨⟨rfl, trivial⟩, .inl rfl⟩
  · exact ⟨⟨rfl, by show 1 < 3000; decide⟩, .inl rfl⟩
  · exact st _ (by decide +kernel) (by decide +kernel)
  · exact st _ (by decide +kernel) (by decide +kernel)
theorem odd2 : ∀ x ∈ ([.str "moment", .str "source"] : List D), Odd true x := by
  intro x hx
  simp only [List.mem_cons, List.not_mem_nil, or_false] at hx
  rcases hx with rfl | rfl
  · exact ⟨⟨rfl, by show (("moment" : Str)).length < 90000; decide +kernel⟩, .inr ⟨rfl, .inl rfl⟩⟩
  · exact ⟨⟨rfl, by show (("source" : Str)).length < 90000; decide +kernel⟩, .inr ⟨rfl, .inr rfl⟩⟩
abbrev putAt (ns : List Str) (i : Nat) (x : D) : List D := (ns.map D.str).take i ++ [x] ++ (ns.map D.str).drop i
theorem put_ok {ns : List Str} {i : Nat} {x : D} (hn : NamesOk ns) (hx : pl x = true ∧ short x) : OkV (.lst (putAt ns i x)) := by
  have key : ∀ y ∈ ns.map D.str, pl y = true ∧ short y := fun y hy => by
    obtain ⟨z, hz, rfl⟩ := List.mem_map.mp hy
    have := (made_len (hn.ok z hz)).2.1
    exact ⟨rfl, by show z.length < 90000; omega⟩
  refine .lst fun y hy => ?_
  rcases List.mem_append.mp hy with hy | hy
  · rcases List.mem_append.mp hy with hy | hy
    · exact key y (List.mem_of_mem_take hy)
    · rw [List.mem_singleton.mp hy]; exact hx
  · exact key y (List.mem_of_mem_drop hy)
theorem put_in {ns : List Str} {i : Nat} {x : D} : x ∈ putAt ns i x := List.mem_append_left _ (List.mem_append_right _ List.mem_cons_self)
theorem put_badV {own : Bool} {ns : List Str} {i : Nat} {x : D} (h : Odd own x) : BadV own (.lst (putAt ns i x)) := by
  rcases h.2 with h2 | ⟨h1, h2⟩
  · exact badV_of (lnames_mem put_in h2)
  · subst h1
    exact bad0_mem put_in (.inr h2)
theorem put_dup {own : Bool} {n0 : Str} {ns : List Str} {i : Nat} : BadV own (.lst (putAt (n0 :: ns) i (.str n0))) := by
  refine badV_of ?_
  show lnames _ = false
  cases e : lnames (putAt (n0 :: ns) i (.str n0)) with
  | false => rfl
  | true =>
    exfalso
    obtain ⟨zs, hz, hn⟩ := lnames_of e
    have e2 : zs = (n0 :: ns).take i ++ [n0] ++ (n0 :: ns).drop i := by
      have h1 : putAt (n0 :: ns) i (.str n0) = ((n0 :: ns).take i ++ [n0] ++ (n0 :: ns).drop i).map D.str := by
        unfold putAt
        rw [List.map_append, List.map_append, List.map_take, List.map_drop]
        rfl
      rw [h1] at hz
      exact (List.map_inj_right (fun a b h => by cases h; rfl)).mp hz.symm
    have nd := hn.nd
    rw [e2, List.append_assoc] at nd
    have hm : n0 ∈ (n0 :: ns).take i ++ (n0 :: ns).drop i := by rw [List.take_append_drop]; exact List.mem_cons_self
    obtain ⟨h1, h2, h3⟩ := List.nodup_append.mp nd
    rcases List.mem_append.mp hm with h | h
    · exact h3 n0 h n0 (List.mem_append_left _ List.mem_cons_self) rfl
    · exact (List.nodup_cons.mp h2).1 h
theorem any_b' (A : Ad) {b : Addr} {M N : Mem} {xs : List D} {Q : KN} {Xc : KX} (hb : Bgd M b N) (h1 : xs ≠ []) (h2 : xs.length < 900000) (q : ∀ x ∈ xs, ∀ N', Bgd M b N' → Bgd N b N' → Q x N') : sp__law_any A [.ref b, .lst xs] N Q Xc := by
  obtain ⟨o, e, g⟩ := bgd_at hb
  exact ⟨b, xs, o, rfl, e, g, h1, h2, fun x hx o' ho => q x hx _ (bgd_put hb ho) ⟨o', ho, rfl⟩⟩
def sp__law_spoilt (A : Ad) : SpD := fun ds M Q _ => ∃ b ns own o, ds = [.ref b, .lst (ns.map D.str), .bl own] ∧ NamesOk ns ∧ M b = some o ∧ Bg o ∧ ∀ v, OkV v → BadV own v → ∀ o', Bg o' → Q v (mput M b o')
def wb__law_spoilt_c0 (A : Ad) : WS :=
  (wSeq (wAsg (wCall (sp__law_pull A) (wCons (wVar 0) (wCons (wC (.int 5)) wNil))) (gN 5))
  (wSeq (wIf (wTest (wOp (rEqD false) (wVar 5) (wC (.int 0))))
  (wRet (wOp rAddD (wOp rAddD (wSl (wVar 1) wNo (wSome (wVar 3))) (wLst (wCons (wOp rIxD (wVar 1) (wC (.int 0))) wNil))) (wSl (wVar 1) (wSome (wVar 3)) wNo)))
  wNx)
  (wSeq (wIf (wTest (wOp (rEqD false) (wVar 5) (wC (.int 1))))
  (wRet (wCall (sp__law_any A) (wCons (wVar 0) (wCons (wLst (wCons (wLst wNil) (wCons (wC .non) (wCons (wC (.str "abc")) (wCons (wC (.int 5)) (wCons (wTup wNil) wNil)))))) wNil))))
  wNx)
  (wSeq (wIf (wTest (wOp (rEqD false) (wVar 5) (wC (.int 2))))
  (wRet (wCall (sp__law_stems A) (wCons (wVar 0) (wCons (wOp rAddD (wC (.int 6)) (wCall (sp__law_pull A) (wCons (wVar 0) (wCons (wC (.int 3)) wNil)))) (wCons (wC (.int 8)) wNil)))))
  wNx)
  (wRet (wOp rAddD (wOp rAddD (wSl (wVar 1) wNo (wSome (wVar 3))) (wLst (wCons (wCall (sp__law_any A) (wCons (wVar 0) (wCons (wVar 4) wNil))) wNil))) (wSl (wVar 1) (wSome (wVar 3)) wNo)))))))
def wb__law_spoilt (A : Ad) : WS :=
  (wSeq (wAsg (wCall (sp__law_pull A) (wCons (wVar 0) (wCons (wOp rAddD (wCB rLenD (wCons (wVar 1) wNil)) (wC (.int 1))) wNil))) (gN 3))
  (wSeq (wAsg (wLst (wCons (wC (.str "")) (wCons (wC (.str "A")) (wCons (wC (.str "ab1")) (wCons (wC (.str "abcdefghi")) (wCons (wC (.str "a b")) (wCons (wC .non) (wCons (wC (.int 7)) (wCons (wC (.bl true)) (wCons (wTup (wCons (wC (.str "a")) wNil)) (wCons (wC (.str "a-b")) (wCons (wC (.str "a\n")) wNil)))))))))))) (gN 4))
  (wSeq (wIf (wTest (wVar 2))
  (wAsg (wOp rAddD (wVar 4) (wLst (wCons (wC (.str "moment")) (wCons (wC (.str "source")) wNil)))) (gN 4))
  wNx)
  (wb__law_spoilt_c0 A))))
theorem bd__law_spoilt {P : Program} {w : World} {K : PySem.W.Frag} {mg : Str → Option Value} {base : Heap} {A : Ad} (T : Txt P K mg A) (cdv : Value) (R : Around) (outer : List Env) (s : Shared) (H : Hp) (E : XK) (hr : Room 2 (R.deeper (envOfC "_law_spoilt" (defScope s__law_spoilt) s.heap.objs.size A.f__law_spoilt cdv)))
    (tk : Takes (cxOf (L2.CX P w) P w K mg base N__law_spoilt "_law_spoilt" (defScope s__law_spoilt) A.f__law_spoilt cdv R outer s H E) (WD E)) : JSs (cxOf (L2.CX P w) P w K mg base N__law_spoilt "_law_spoilt" (defScope s__law_spoilt) A.f__law_spoilt cdv R outer s H E) (WD E) (defBody s__law_spoilt) (wb__law_spoilt A) :=
  (js_cons (js_set (i := 3) sc__law_spoilt.nd (j_call (ok__law_pull T) hr (by decide) T.g__law_pull tk (j_cons (jv 0) (j_cons (j_op od_add (j_callB cd_len T.n_len bo_len (j_cons (jv 1) j_nil)) j_int) j_nil))))
  (js_cons (js_set (i := 4) sc__law_spoilt.nd (j_lst (j_cons j_str (j_cons j_str (j_cons j_str (j_cons j_str (j_cons j_str (j_cons j_non (j_cons j_int (j_cons j_bl (j_cons (j_tup (j_cons j_str j_nil)) (j_cons j_str (j_cons j_str j_nil)))))))))))))
  (js_cons (js_if (jt_val (jv 2))
  (js_one (js_set (i := 4) sc__law_spoilt.nd (j_op od_add (jv 4) (j_lst (j_cons j_str (j_cons j_str j_nil))))))
  js_nil)
  (js_cons (js_set (i := 5) sc__law_spoilt.nd (j_call (ok__law_pull T) hr (by decide) T.g__law_pull tk (j_cons (jv 0) (j_cons j_int j_nil))))
  (js_cons (js_if (jt_cmp (od_eq hr.units) (jv 5) j_int)
  (js_one (js_ret (j_op od_add (j_op od_add (j_sl (jv 1) jo_none (jo_some (jv 3))) (j_lst (j_cons (j_ix id_ix (jv 1) j_int) j_nil))) (j_sl (jv 1) (jo_some (jv 3)) jo_none))))
  js_nil)
  (js_cons (js_if (jt_cmp (od_eq hr.units) (jv 5) j_int)
  (js_one (js_ret (j_call (ok__law_any T) hr (by decide) T.g__law_any tk (j_cons (jv 0) (j_cons (j_lst (j_cons (j_lst j_nil) (j_cons j_non (j_cons j_str (j_cons j_int (j_cons (j_tup j_nil) j_nil)))))) j_nil)))))
  js_nil)
  (js_cons (js_if (jt_cmp (od_eq hr.units) (jv 5) j_int)
  (js_one (js_ret (j_call (ok__law_stems T) hr (by decide) T.g__law_stems tk (j_cons (jv 0) (j_cons (j_op od_add j_int (j_call (ok__law_pull T) hr (by decide) T.g__law_pull tk (j_cons (jv 0) (j_cons j_int j_nil)))) (j_cons j_int j_nil))))))
  js_nil)
  (js_one (js_ret (j_op od_add (j_op od_add (j_sl (jv 1) jo_none (jo_some (jv 3))) (j_lst (j_cons (j_call (ok__law_any T) hr (by decide) T.g__law_any tk (j_cons (jv 0) (j_cons (jv 4) j_nil))) j_nil))) (j_sl (jv 1) (jo_some (jv 3)) jo_none)))))))))))
theorem ways5 : ∀ v ∈ ([.lst [], .non, .str "abc", .int 5, .tup []] : List D), OkV v ∧ areN v = false := by
  intro v hv
  simp only [List.mem_cons, List.not_mem_nil, or_false] at hv
  rcases hv with rfl | rfl | rfl | rfl | rfl
  · exact ⟨.lst nofun, rfl⟩
  · exact ⟨.non, rfl⟩
  · exact ⟨.str, rfl⟩
  · exact ⟨.int, rfl⟩
  · exact ⟨.tup nofun, rfl⟩
theorem six_bad {xs : List Str} {own : Bool} (h : 6 ≤ xs.length) (hk : NamesK xs) : OkV (.lst (xs.map D.str)) ∧ BadV own (.lst (xs.map D.str)) := by
  refine ⟨.lst fun y hy => ?_, badV_of ?_⟩
  · obtain ⟨z, hz, rfl⟩ := List.mem_map.mp hy
    have := (made_len (hk.ok z hz)).2.1
    exact ⟨rfl, by show z.length < 90000; omega⟩
  · show lnames _ = false
    unfold lnames
    rw [List.length_map, decide_eq_false (by omega : ¬ xs.length ≤ 5), Bool.false_and, Bool.and_false]
theorem spoilt_c0 (A : Ad) {b : Addr} {ns : List Str} {own : Bool} {i : Nat} {os : List D} {E : ED} {M N : Mem} {x5 : Option D} (hn : NamesOk ns) (hb : Bgd M b N) (il : i ≤ ns.length) (ho : ∀ x ∈ os, Odd own x) (h1 : os ≠ []) (h2 : os.length ≤ 20)
    (q : ∀ v, OkV v → BadV own v → ∀ N', Bgd M b N' → E.rt v N') :
    wb__law_spoilt_c0 A E [some (.ref b), some (.lst (ns.map D.str)), some (.bl own), some (.int (i : Int)), some (.lst os), x5] N := by
  have big := sizeLine_big
  have n5 := hn.hi
  have il2 : i ≤ (ns.map D.str).length := by rw [List.length_map]; omega
  have tl : ((ns.map D.str).take i).length = i := List.length_take_of_le il2
  have dl : ((ns.map D.str).drop i).length = ns.length - i := by rw [List.length_drop, List.length_map]
  obtain ⟨n0, ns', rfl⟩ : ∃ n0 ns', ns = n0 :: ns' := by
    rcases ns with _ | ⟨n0, ns'⟩
    · exact absurd hn.lo (by decide)
    · exact ⟨n0, ns', rfl⟩
  have at0 : atI (List.map D.str (n0 :: ns')) 0 = some (.str n0) := (atI_nat (xs := List.map D.str (n0 :: ns')) (k := 0)).trans rfl
  have n0ok : pl (.str n0) = true ∧ short (.str n0) := by
    have := (made_len (hn.ok n0 List.mem_cons_self)).2.1
    exact ⟨rfl, by show n0.length < 90000; omega⟩
  simp only [wb__law_spoilt_c0, ↓pFau, ↓pFst, ↓pRaise, ↓pPar3, ↓pParK3, ↓rMulS_p, ↓pFmt, ↓pFmtS, ↓pFmtI, ↓pJs0, ↓pJs1, ↓pStrKD, ↓pVar, ↓pGet, ↓pC, ↓pOp, ↓pUn, ↓pCB, ↓pNil, ↓pCons, ↓pTest, ↓pBl, ↓pAndT, ↓pOrT, ↓pNotT, ↓pAndV, ↓pOrV, ↓pNotV, ↓pIfE, ↓pTup, ↓pLst, ↓pLstO, ↓pCall, ↓pMeth, ↓pFld, ↓pProp, ↓pMake, ↓pCv, ↓pSl, ↓pNo, ↓pSome, ↓pIntK, ↓pN, ↓pT, ↓pGC, ↓pGN, ↓pIf, ↓pRet, ↓pRetN, ↓pDrop, ↓pAsg, ↓pNx, ↓pBrk, ↓pCnt, ↓pNever, ↓pSub, ↓pAug, ↓pPar, ↓pParK, ↓pBM, ↓pFor, ↓pLc, ↓pLcO, ↓pYes, ↓piSeq, ↓piStr, ↓pStrK, ↓piRng1, ↓pRng1K, ↓piRng2, ↓pRng2K, ↓piEnum, ↓pEnumK, ↓piZip, ↓pZipL, ↓pZipT, ↓pFz, ↓pLenSet, ↓pIsT, ↓rIx_lst, ↓rIx_tup, ↓rIx_ref, ↓rIx_str, ↓rLen_str, ↓rLen_lst, ↓rLen_tup, ↓rLen_ref, ↓rIs_p, ↓rInt_int, ↓rInt_bl, ↓rStr_int, ↓rList_p, ↓rListO_p, ↓rTup_p, ↓rAdd_int, ↓rAdd_str, ↓rAdd_tup, ↓rAdd_lst, ↓rIntD_p, ↓rInt0_p, ↓rEq_int, ↓rEq_str, ↓rEq_bl, ↓rEq_lst, ↓rEq_tup, ↓rIsN_non, ↓rIsN_bl, ↓rIsN_int, ↓rIsN_str, ↓rIsN_tup, ↓rIsN_lst, ↓rNeg_p, ↓rSl_str, ↓rSl_tup, ↓rSl_lst, ↓rSl_scr, ↓rRep_p, ↓pOptK, ↓pChain, ↓piEnumA, ↓pEnumA_tup, ↓pEnumA_lst, ↓rInV_tup, ↓rInV_lst, ↓rSlN_p, ↓pSlN, ↓pTn, ↓pTnK, ↓pTM, ↓rTidx_p, ↓rLidx_p, ↓rGtL_p, ↓pStar, ↓pIfT, ↓pCallK, ↓pDzip, ↓pDzipK, ↓pDzipO, ↓pDzipKO, ↓rIsB_bl, ↓rDix_str, ↓rDix_int, ↓rIn_tup, ↓rIn_lst, ↓rEq_ns, ↓rEq_sn, ↓rRepT_p, ↓rAll_f, ↓rAll_t, ↓wSeq_p, ↓seqE_nx, ↓reduceIte, at_0, at_1, at_2, at_3, cut_1, cut_2, dl_0_0, dl_0_1, dl_0_2, dl_0_3, dl_0_4, dl_0_5, dl_1_0, dl_1_1, dl_1_2, dl_1_3, dl_1_4, dl_1_5, dl_2_0, dl_2_1, dl_2_2, dl_2_3, dl_2_4, dl_2_5, dl_3_0, dl_3_1, dl_3_2, dl_3_3, dl_3_4, dl_3_5, dl_4_0, dl_4_1, dl_4_2, dl_4_3, dl_4_4, dl_4_5, dn_1_0, dn_2_0, dn_2_1, dn_3_0, dn_3_1, dn_3_2, dn_4_0, dn_4_1, dn_4_2, dn_4_3, seqE_rt, seqE_bk, seqE_ct, seqE_ex, wipeD, frz_lst, frz_tup, at1_0, at2_0, at2_1, at3_0, at3_1, at3_2, at4_0, at4_1, at4_2, at4_3, at5_0, at5_1, at5_2, at5_3, at5_4, seqOf_put, seqOf_lst, seqOf_tup, insK_same, tyN_non, tyN_bl, tyN_int, tyN_str, tyN_tup, tyN_lst, tyN_dct, List.getElem?_cons_zero, List.getElem?_cons_succ, List.set_cons_zero, List.set_cons_succ, List.length_cons, List.length_nil, isB_NoneType_bool, isB_NoneType_int, isB_NoneType_str, isB_NoneType_tuple, isB_NoneType_list, isB_NoneType_dict, isB_bool_bool, isB_bool_int, isB_bool_str, isB_bool_tuple, isB_bool_list, isB_bool_dict, isB_int_bool, isB_int_int, isB_int_str, isB_int_tuple, isB_int_list, isB_int_dict, isB_str_bool, isB_str_int, isB_str_str, isB_str_tuple, isB_str_list, isB_str_dict, isB_tuple_bool, isB_tuple_int, isB_tuple_str, isB_tuple_tuple, isB_tuple_list, isB_tuple_dict, isB_list_bool, isB_list_int, isB_list_str, isB_list_tuple, isB_list_list, isB_list_dict, isB_dict_bool, isB_dict_int, isB_dict_str, isB_dict_tuple, isB_dict_list, isB_dict_dict, isC_bool, isC_int, isC_str, isC_tuple, isC_list, isC_dict, isA_list_tuple, isQ_NoneType, isQ_bool, isQ_int, isQ_str, isQ_tuple, isQ_list, isQ_dict, true_and, and_true, Bool.not_true, Bool.not_false, Bool.false_eq_true, Bool.true_xor, Bool.false_xor]
  refine pull_b A hb (by omega) (by omega) fun v hv N2 g2 _ => ?_
  rcases (by omega : v = 0 ∨ v = 1 ∨ v = 2 ∨ 3 ≤ v) with rfl | rfl | rfl | h3
  · simp only [↓pFau, ↓pFst, ↓pRaise, ↓pPar3, ↓pParK3, ↓rMulS_p, ↓pFmt, ↓pFmtS, ↓pFmtI, ↓pJs0, ↓pJs1, ↓pStrKD, ↓pVar, ↓pGet, ↓pC, ↓pOp, ↓pUn, ↓pCB, ↓pNil, ↓pCons, ↓pTest, ↓pBl, ↓pAndT, ↓pOrT, ↓pNotT, ↓pAndV, ↓pOrV, ↓pNotV, ↓pIfE, ↓pTup, ↓pLst, ↓pLstO, ↓pCall, ↓pMeth, ↓pFld, ↓pProp, ↓pMake, ↓pCv, ↓pSl, ↓pNo, ↓pSome, ↓pIntK, ↓pN, ↓pT, ↓pGC, ↓pGN, ↓pIf, ↓pRet, ↓pRetN, ↓pDrop, ↓pAsg, ↓pNx, ↓pBrk, ↓pCnt, ↓pNever, ↓pSub, ↓pAug, ↓pPar, ↓pParK, ↓pBM, ↓pFor, ↓pLc, ↓pLcO, ↓pYes, ↓piSeq, ↓piStr, ↓pStrK, ↓piRng1, ↓pRng1K, ↓piRng2, ↓pRng2K, ↓piEnum, ↓pEnumK, ↓piZip, ↓pZipL, ↓pZipT, ↓pFz, ↓pLenSet, ↓pIsT, ↓rIx_lst, ↓rIx_tup, ↓rIx_ref, ↓rIx_str, ↓rLen_str, ↓rLen_lst, ↓rLen_tup, ↓rLen_ref, ↓rIs_p, ↓rInt_int, ↓rInt_bl, ↓rStr_int, ↓rList_p, ↓rListO_p, ↓rTup_p, ↓rAdd_int, ↓rAdd_str, ↓rAdd_tup, ↓rAdd_lst, ↓rIntD_p, ↓rInt0_p, ↓rEq_int, ↓rEq_str, ↓rEq_bl, ↓rEq_lst, ↓rEq_tup, ↓rIsN_non, ↓rIsN_bl, ↓rIsN_int, ↓rIsN_str, ↓rIsN_tup, ↓rIsN_lst, ↓rNeg_p, ↓rSl_str, ↓rSl_tup, ↓rSl_lst, ↓rSl_scr, ↓rRep_p, ↓pOptK, ↓pChain, ↓piEnumA, ↓pEnumA_tup, ↓pEnumA_lst, ↓rInV_tup, ↓rInV_lst, ↓rSlN_p, ↓pSlN, ↓pTn, ↓pTnK, ↓pTM, ↓rTidx_p, ↓rLidx_p, ↓rGtL_p, ↓pStar, ↓pIfT, ↓pCallK, ↓pDzip, ↓pDzipK, ↓pDzipO, ↓pDzipKO, ↓rIsB_bl, ↓rDix_str, ↓rDix_int, ↓rIn_tup, ↓rIn_lst, ↓rEq_ns, ↓rEq_sn, ↓rRepT_p, ↓rAll_f, ↓rAll_t, ↓wSeq_p, ↓seqE_nx, ↓reduceIte, at_0, at_1, at_2, at_3, cut_1, cut_2, dl_0_0, dl_0_1, dl_0_2, dl_0_3, dl_0_4, dl_0_5, dl_1_0, dl_1_1, dl_1_2, dl_1_3, dl_1_4, dl_1_5, dl_2_0, dl_2_1, dl_2_2, dl_2_3, dl_2_4, dl_2_5, dl_3_0, dl_3_1, dl_3_2, dl_3_3, dl_3_4, dl_3_5, dl_4_0, dl_4_1, dl_4_2, dl_4_3, dl_4_4, dl_4_5, dn_1_0, dn_2_0, dn_2_1, dn_3_0, dn_3_1, dn_3_2, dn_4_0, dn_4_1, dn_4_2, dn_4_3, seqE_rt, seqE_bk, seqE_ct, seqE_ex, wipeD, frz_lst, frz_tup, at1_0, at2_0, at2_1, at3_0, at3_1, at3_2, at4_0, at4_1, at4_2, at4_3, at5_0, at5_1, at5_2, at5_3, at5_4, seqOf_put, seqOf_lst, seqOf_tup, insK_same, tyN_non, tyN_bl, tyN_int, tyN_str, tyN_tup, tyN_lst, tyN_dct, List.getElem?_cons_zero, List.getElem?_cons_succ, List.set_cons_zero, List.set_cons_succ, List.length_cons, List.length_nil, isB_NoneType_bool, isB_NoneType_int, isB_NoneType_str, isB_NoneType_tuple, isB_NoneType_list, isB_NoneType_dict, isB_bool_bool, isB_bool_int, isB_bool_str, isB_bool_tuple, isB_bool_list, isB_bool_dict, isB_int_bool, isB_int_int, isB_int_str, isB_int_tuple, isB_int_list, isB_int_dict, isB_str_bool, isB_str_int, isB_str_str, isB_str_tuple, isB_str_list, isB_str_dict, isB_tuple_bool, isB_tuple_int, isB_tuple_str, isB_tuple_tuple, isB_tuple_list, isB_tuple_dict, isB_list_bool, isB_list_int, isB_list_str, isB_list_tuple, isB_list_list, isB_list_dict, isB_dict_bool, isB_dict_int, isB_dict_str, isB_dict_tuple, isB_dict_list, isB_dict_dict, isC_bool, isC_int, isC_str, isC_tuple, isC_list, isC_dict, isA_list_tuple, isQ_NoneType, isQ_bool, isQ_int, isQ_str, isQ_tuple, isQ_list, isQ_dict, true_and, and_true, Bool.not_true, Bool.not_false, Bool.false_eq_true, Bool.true_xor, Bool.false_xor, at0, cut_to il2, cut_from il2]
    refine ⟨by omega, by rw [tl]; omega, by rw [List.length_append, tl, dl]; simp only [List.length_singleton]; omega, q _ (put_ok hn n0ok) put_dup _ g2⟩
  · simp only [↓pFau, ↓pFst, ↓pRaise, ↓pPar3, ↓pParK3, ↓rMulS_p, ↓pFmt, ↓pFmtS, ↓pFmtI, ↓pJs0, ↓pJs1, ↓pStrKD, ↓pVar, ↓pGet, ↓pC, ↓pOp, ↓pUn, ↓pCB, ↓pNil, ↓pCons, ↓pTest, ↓pBl, ↓pAndT, ↓pOrT, ↓pNotT, ↓pAndV, ↓pOrV, ↓pNotV, ↓pIfE, ↓pTup, ↓pLst, ↓pLstO, ↓pCall, ↓pMeth, ↓pFld, ↓pProp, ↓pMake, ↓pCv, ↓pSl, ↓pNo, ↓pSome, ↓pIntK, ↓pN, ↓pT, ↓pGC, ↓pGN, ↓pIf, ↓pRet, ↓pRetN, ↓pDrop, ↓pAsg, ↓pNx, ↓pBrk, ↓pCnt, ↓pNever, ↓pSub, ↓pAug, ↓pPar, ↓pParK, ↓pBM, ↓pFor, ↓pLc, ↓pLcO, ↓pYes, ↓piSeq, ↓piStr, ↓pStrK, ↓piRng1, ↓pRng1K, ↓piRng2, ↓pRng2K, ↓piEnum, ↓pEnumK, ↓piZip, ↓pZipL, ↓pZipT, ↓pFz, ↓pLenSet, ↓pIsT, ↓rIx_lst, ↓rIx_tup, ↓rIx_ref, ↓rIx_str, ↓rLen_str, ↓rLen_lst, ↓rLen_tup, ↓rLen_ref, ↓rIs_p, ↓rInt_int, ↓rInt_bl, ↓rStr_int, ↓rList_p, ↓rListO_p, ↓rTup_p, ↓rAdd_int, ↓rAdd_str, ↓rAdd_tup, ↓rAdd_lst, ↓rIntD_p, ↓rInt0_p, ↓rEq_int, ↓rEq_str, ↓rEq_bl, ↓rEq_lst, ↓rEq_tup, ↓rIsN_non, ↓rIsN_bl, ↓rIsN_int, ↓rIsN_str, ↓rIsN_tup, ↓rIsN_lst, ↓rNeg_p, ↓rSl_str, ↓rSl_tup, ↓rSl_lst, ↓rSl_scr, ↓rRep_p, ↓pOptK, ↓pChain, ↓piEnumA, ↓pEnumA_tup, ↓pEnumA_lst, ↓rInV_tup, ↓rInV_lst, ↓rSlN_p, ↓pSlN, ↓pTn, ↓pTnK, ↓pTM, ↓rTidx_p, ↓rLidx_p, ↓rGtL_p, ↓pStar, ↓pIfT, ↓pCallK, ↓pDzip, ↓pDzipK, ↓pDzipO, ↓pDzipKO, ↓rIsB_bl, ↓rDix_str, ↓rDix_int, ↓rIn_tup, ↓rIn_lst, ↓rEq_ns, ↓rEq_sn, ↓rRepT_p, ↓rAll_f, ↓rAll_t, ↓wSeq_p, ↓seqE_nx, ↓reduceIte, at_0, at_1, at_2, at_3, cut_1, cut_2, dl_0_0, dl_0_1, dl_0_2, dl_0_3, dl_0_4, dl_0_5, dl_1_0, dl_1_1, dl_1_2, dl_1_3, dl_1_4, dl_1_5, dl_2_0, dl_2_1, dl_2_2, dl_2_3, dl_2_4, dl_2_5, dl_3_0, dl_3_1, dl_3_2, dl_3_3, dl_3_4, dl_3_5, dl_4_0, dl_4_1, dl_4_2, dl_4_3, dl_4_4, dl_4_5, dn_1_0, dn_2_0, dn_2_1, dn_3_0, dn_3_1, dn_3_2, dn_4_0, dn_4_1, dn_4_2, dn_4_3, seqE_rt, seqE_bk, seqE_ct, seqE_ex, wipeD, frz_lst, frz_tup, at1_0, at2_0, at2_1, at3_0, at3_1, at3_2, at4_0, at4_1, at4_2, at4_3, at5_0, at5_1, at5_2, at5_3, at5_4, seqOf_put, seqOf_lst, seqOf_tup, insK_same, tyN_non, tyN_bl, tyN_int, tyN_str, tyN_tup, tyN_lst, tyN_dct, List.getElem?_cons_zero, List.getElem?_cons_succ, List.set_cons_zero, List.set_cons_succ, List.length_cons, List.length_nil, isB_NoneType_bool, isB_NoneType_int, isB_NoneType_str, isB_NoneType_tuple, isB_NoneType_list, isB_NoneType_dict, isB_bool_bool, isB_bool_int, isB_bool_str, isB_bool_tuple, isB_bool_list, isB_bool_dict, isB_int_bool, isB_int_int, isB_int_str, isB_int_tuple, isB_int_list, isB_int_dict, isB_str_bool, isB_str_int, isB_str_str, isB_str_tuple, isB_str_list, isB_str_dict, isB_tuple_bool, isB_tuple_int, isB_tuple_str, isB_tuple_tuple, isB_tuple_list, isB_tuple_dict, isB_list_bool, isB_list_int, isB_list_str, isB_list_tuple, isB_list_list, isB_list_dict, isB_dict_bool, isB_dict_int, isB_dict_str, isB_dict_tuple, isB_dict_list, isB_dict_dict, isC_bool, isC_int, isC_str, isC_tuple, isC_list, isC_dict, isA_list_tuple, isQ_NoneType, isQ_bool, isQ_int, isQ_str, isQ_tuple, isQ_list, isQ_dict, true_and, and_true, Bool.not_true, Bool.not_false, Bool.false_eq_true, Bool.true_xor, Bool.false_xor]
    refine ⟨by omega, by omega, by omega, any_b' A g2 (by simp) (by simp) fun x hx N3 g3 _ => ?_⟩
    obtain ⟨o1, o2⟩ := ways5 x hx
    exact q _ o1 (badV_of o2) _ g3
  · simp only [↓pFau, ↓pFst, ↓pRaise, ↓pPar3, ↓pParK3, ↓rMulS_p, ↓pFmt, ↓pFmtS, ↓pFmtI, ↓pJs0, ↓pJs1, ↓pStrKD, ↓pVar, ↓pGet, ↓pC, ↓pOp, ↓pUn, ↓pCB, ↓pNil, ↓pCons, ↓pTest, ↓pBl, ↓pAndT, ↓pOrT, ↓pNotT, ↓pAndV, ↓pOrV, ↓pNotV, ↓pIfE, ↓pTup, ↓pLst, ↓pLstO, ↓pCall, ↓pMeth, ↓pFld, ↓pProp, ↓pMake, ↓pCv, ↓pSl, ↓pNo, ↓pSome, ↓pIntK, ↓pN, ↓pT, ↓pGC, ↓pGN, ↓pIf, ↓pRet, ↓pRetN, ↓pDrop, ↓pAsg, ↓pNx, ↓pBrk, ↓pCnt, ↓pNever, ↓pSub, ↓pAug, ↓pPar, ↓pParK, ↓pBM, ↓pFor, ↓pLc, ↓pLcO, ↓pYes, ↓piSeq, ↓piStr, ↓pStrK, ↓piRng1, ↓pRng1K, ↓piRng2, ↓pRng2K, ↓piEnum, ↓pEnumK, ↓piZip, ↓pZipL, ↓pZipT, ↓pFz, ↓pLenSet, ↓pIsT, ↓rIx_lst, ↓rIx_tup, ↓rIx_ref, ↓rIx_str, ↓rLen_str, ↓rLen_lst, ↓rLen_tup, ↓rLen_ref, ↓rIs_p, ↓rInt_int, ↓rInt_bl, ↓rStr_int, ↓rList_p, ↓rListO_p, ↓rTup_p, ↓rAdd_int, ↓rAdd_str, ↓rAdd_tup, ↓rAdd_lst, ↓rIntD_p, ↓rInt0_p, ↓rEq_int, ↓rEq_str, ↓rEq_bl, ↓rEq_lst, ↓rEq_tup, ↓rIsN_non, ↓rIsN_bl, ↓rIsN_int, ↓rIsN_str, ↓rIsN_tup, ↓rIsN_lst, ↓rNeg_p, ↓rSl_str, ↓rSl_tup, ↓rSl_lst, ↓rSl_scr, ↓rRep_p, ↓pOptK, ↓pChain, ↓piEnumA, ↓pEnumA_tup, ↓pEnumA_lst, ↓rInV_tup, ↓rInV_lst, ↓rSlN_p, ↓pSlN, ↓pTn, ↓pTnK, ↓pTM, ↓rTidx_p, ↓rLidx_p, ↓rGtL_p, ↓pStar, ↓pIfT, ↓pCallK, ↓pDzip, ↓pDzipK, ↓pDzipO, ↓pDzipKO, ↓rIsB_bl, ↓rDix_str, ↓rDix_int, ↓rIn_tup, ↓rIn_lst, ↓rEq_ns, ↓rEq_sn, ↓rRepT_p, ↓rAll_f, ↓rAll_t, ↓wSeq_p, ↓seqE_nx, ↓reduceIte, at_0, at_1, at_2, at_3, cut_1, cut_2, dl_0_0, dl_0_1, dl_0_2, dl_0_3, dl_0_4, dl_0_5, dl_1_0, dl_1_1, dl_1_2, dl_1_3, dl_1_4, dl_1_5, dl_2_0, dl_2_1, dl_2_2, dl_2_3, dl_2_4, dl_2_5, dl_3_0, dl_3_1, dl_3_2, dl_3_3, dl_3_4, dl_3_5, dl_4_0, dl_4_1, dl_4_2, dl_4_3, dl_4_4, dl_4_5, dn_1_0, dn_2_0, dn_2_1, dn_3_0, dn_3_1, dn_3_2, dn_4_0, dn_4_1, dn_4_2, dn_4_3, seqE_rt, seqE_bk, seqE_ct, seqE_ex, wipeD, frz_lst, frz_tup, at1_0, at2_0, at2_1, at3_0, at3_1, at3_2, at4_0, at4_1, at4_2, at4_3, at5_0, at5_1, at5_2, at5_3, at5_4, seqOf_put, seqOf_lst, seqOf_tup, insK_same, tyN_non, tyN_bl, tyN_int, tyN_str, tyN_tup, tyN_lst, tyN_dct, List.getElem?_cons_zero, List.getElem?_cons_succ, List.set_cons_zero, List.set_cons_succ, List.length_cons, List.length_nil, isB_NoneType_bool, isB_NoneType_int, isB_NoneType_str, isB_NoneType_tuple, isB_NoneType_list, isB_NoneType_dict, isB_bool_bool, isB_bool_int, isB_bool_str, isB_bool_tuple, isB_bool_list, isB_bool_dict, isB_int_bool, isB_int_int, isB_int_str, isB_int_tuple, isB_int_list, isB_int_dict, isB_str_bool, isB_str_int, isB_str_str, isB_str_tuple, isB_str_list, isB_str_dict, isB_tuple_bool, isB_tuple_int, isB_tuple_str, isB_tuple_tuple, isB_tuple_list, isB_tuple_dict, isB_list_bool, isB_list_int, isB_list_str, isB_list_tuple, isB_list_list, isB_list_dict, isB_dict_bool, isB_dict_int, isB_dict_str, isB_dict_tuple, isB_dict_list, isB_dict_dict, isC_bool, isC_int, isC_str, isC_tuple, isC_list, isC_dict, isA_list_tuple, isQ_NoneType, isQ_bool, isQ_int, isQ_str, isQ_tuple, isQ_list, isQ_dict, true_and, and_true, Bool.not_true, Bool.not_false, Bool.false_eq_true, Bool.true_xor, Bool.false_xor]
    refine pull_b A g2 (by omega) (by omega) fun u hu N3 g3 _ => ?_
    obtain ⟨o3, e3, b3⟩ := bgd_at g3
    simp only [↓pFau, ↓pFst, ↓pRaise, ↓pPar3, ↓pParK3, ↓rMulS_p, ↓pFmt, ↓pFmtS, ↓pFmtI, ↓pJs0, ↓pJs1, ↓pStrKD, ↓pVar, ↓pGet, ↓pC, ↓pOp, ↓pUn, ↓pCB, ↓pNil, ↓pCons, ↓pTest, ↓pBl, ↓pAndT, ↓pOrT, ↓pNotT, ↓pAndV, ↓pOrV, ↓pNotV, ↓pIfE, ↓pTup, ↓pLst, ↓pLstO, ↓pCall, ↓pMeth, ↓pFld, ↓pProp, ↓pMake, ↓pCv, ↓pSl, ↓pNo, ↓pSome, ↓pIntK, ↓pN, ↓pT, ↓pGC, ↓pGN, ↓pIf, ↓pRet, ↓pRetN, ↓pDrop, ↓pAsg, ↓pNx, ↓pBrk, ↓pCnt, ↓pNever, ↓pSub, ↓pAug, ↓pPar, ↓pParK, ↓pBM, ↓pFor, ↓pLc, ↓pLcO, ↓pYes, ↓piSeq, ↓piStr, ↓pStrK, ↓piRng1, ↓pRng1K, ↓piRng2, ↓pRng2K, ↓piEnum, ↓pEnumK, ↓piZip, ↓pZipL, ↓pZipT, ↓pFz, ↓pLenSet, ↓pIsT, ↓rIx_lst, ↓rIx_tup, ↓rIx_ref, ↓rIx_str, ↓rLen_str, ↓rLen_lst, ↓rLen_tup, ↓rLen_ref, ↓rIs_p, ↓rInt_int, ↓rInt_bl, ↓rStr_int, ↓rList_p, ↓rListO_p, ↓rTup_p, ↓rAdd_int, ↓rAdd_str, ↓rAdd_tup, ↓rAdd_lst, ↓rIntD_p, ↓rInt0_p, ↓rEq_int, ↓rEq_str, ↓rEq_bl, ↓rEq_lst, ↓rEq_tup, ↓rIsN_non, ↓rIsN_bl, ↓rIsN_int, ↓rIsN_str, ↓rIsN_tup, ↓rIsN_lst, ↓rNeg_p, ↓rSl_str, ↓rSl_tup, ↓rSl_lst, ↓rSl_scr, ↓rRep_p, ↓pOptK, ↓pChain, ↓piEnumA, ↓pEnumA_tup, ↓pEnumA_lst, ↓rInV_tup, ↓rInV_lst, ↓rSlN_p, ↓pSlN, ↓pTn, ↓pTnK, ↓pTM, ↓rTidx_p, ↓rLidx_p, ↓rGtL_p, ↓pStar, ↓pIfT, ↓pCallK, ↓pDzip, ↓pDzipK, ↓pDzipO, ↓pDzipKO, ↓rIsB_bl, ↓rDix_str, ↓rDix_int, ↓rIn_tup, ↓rIn_lst, ↓rEq_ns, ↓rEq_sn, ↓rRepT_p, ↓rAll_f, ↓rAll_t, ↓wSeq_p, ↓seqE_nx, ↓reduceIte, at_0, at_1, at_2, at_3, cut_1, cut_2, dl_0_0, dl_0_1, dl_0_2, dl_0_3, dl_0_4, dl_0_5, dl_1_0, dl_1_1, dl_1_2, dl_1_3, dl_1_4, dl_1_5, dl_2_0, dl_2_1, dl_2_2, dl_2_3, dl_2_4, dl_2_5, dl_3_0, dl_3_1, dl_3_2, dl_3_3, dl_3_4, dl_3_5, dl_4_0, dl_4_1, dl_4_2, dl_4_3, dl_4_4, dl_4_5, dn_1_0, dn_2_0, dn_2_1, dn_3_0, dn_3_1, dn_3_2, dn_4_0, dn_4_1, dn_4_2, dn_4_3, seqE_rt, seqE_bk, seqE_ct, seqE_ex, wipeD, frz_lst, frz_tup, at1_0, at2_0, at2_1, at3_0, at3_1, at3_2, at4_0, at4_1, at4_2, at4_3, at5_0, at5_1, at5_2, at5_3, at5_4, seqOf_put, seqOf_lst, seqOf_tup, insK_same, tyN_non, tyN_bl, tyN_int, tyN_str, tyN_tup, tyN_lst, tyN_dct, List.getElem?_cons_zero, List.getElem?_cons_succ, List.set_cons_zero, List.set_cons_succ, List.length_cons, List.length_nil, isB_NoneType_bool, isB_NoneType_int, isB_NoneType_str, isB_NoneType_tuple, isB_NoneType_list, isB_NoneType_dict, isB_bool_bool, isB_bool_int, isB_bool_str, isB_bool_tuple, isB_bool_list, isB_bool_dict, isB_int_bool, isB_int_int, isB_int_str, isB_int_tuple, isB_int_list, isB_int_dict, isB_str_bool, isB_str_int, isB_str_str, isB_str_tuple, isB_str_list, isB_str_dict, isB_tuple_bool, isB_tuple_int, isB_tuple_str, isB_tuple_tuple, isB_tuple_list, isB_tuple_dict, isB_list_bool, isB_list_int, isB_list_str, isB_list_tuple, isB_list_list, isB_list_dict, isB_dict_bool, isB_dict_int, isB_dict_str, isB_dict_tuple, isB_dict_list, isB_dict_dict, isC_bool, isC_int, isC_str, isC_tuple, isC_list, isC_dict, isA_list_tuple, isQ_NoneType, isQ_bool, isQ_int, isQ_str, isQ_tuple, isQ_list, isQ_dict, true_and, and_true, Bool.not_true, Bool.not_false, Bool.false_eq_true, Bool.true_xor, Bool.false_xor]
    refine ⟨b, _, o3, rfl, e3, b3, by omega, by omega, fun names k1 k2 k3 o4 b4 => ?_⟩
    obtain ⟨o1, o2⟩ := six_bad (own := own) (by omega) k1
    exact q _ o1 o2 _ (bgd_put g3 b4)
  · have e0 : decide ((v : Int) = 0) = false := decide_eq_false (by omega)
    have e1 : decide ((v : Int) = 1) = false := decide_eq_false (by omega)
    have e2 : decide ((v : Int) = 2) = false := decide_eq_false (by omega)
    simp only [↓pFau, ↓pFst, ↓pRaise, ↓pPar3, ↓pParK3, ↓rMulS_p, ↓pFmt, ↓pFmtS, ↓pFmtI, ↓pJs0, ↓pJs1, ↓pStrKD, ↓pVar, ↓pGet, ↓pC, ↓pOp, ↓pUn, ↓pCB, ↓pNil, ↓pCons, ↓pTest, ↓pBl, ↓pAndT, ↓pOrT, ↓pNotT, ↓pAndV, ↓pOrV, ↓pNotV, ↓pIfE, ↓pTup, ↓pLst, ↓pLstO, ↓pCall, ↓pMeth, ↓pFld, ↓pProp, ↓pMake, ↓pCv, ↓pSl, ↓pNo, ↓pSome, ↓pIntK, ↓pN, ↓pT, ↓pGC, ↓pGN, ↓pIf, ↓pRet, ↓pRetN, ↓pDrop, ↓pAsg, ↓pNx, ↓pBrk, ↓pCnt, ↓pNever, ↓pSub, ↓pAug, ↓pPar, ↓pParK, ↓pBM, ↓pFor, ↓pLc, ↓pLcO, ↓pYes, ↓piSeq, ↓piStr, ↓pStrK, ↓piRng1, ↓pRng1K, ↓piRng2, ↓pRng2K, ↓piEnum, ↓pEnumK, ↓piZip, ↓pZipL, ↓pZipT, ↓pFz, ↓pLenSet, ↓pIsT, ↓rIx_lst, ↓rIx_tup, ↓rIx_ref, ↓rIx_str, ↓rLen_str, ↓rLen_lst, ↓rLen_tup, ↓rLen_ref, ↓rIs_p, ↓rInt_int, ↓rInt_bl, ↓rStr_int, ↓rList_p, ↓rListO_p, ↓rTup_p, ↓rAdd_int, ↓rAdd_str, ↓rAdd_tup, ↓rAdd_lst, ↓rIntD_p, ↓rInt0_p, ↓rEq_int, ↓rEq_str, ↓rEq_bl, ↓rEq_lst, ↓rEq_tup, ↓rIsN_non, ↓rIsN_bl, ↓rIsN_int, ↓rIsN_str, ↓rIsN_tup, ↓rIsN_lst, ↓rNeg_p, ↓rSl_str, ↓rSl_tup, ↓rSl_lst, ↓rSl_scr, ↓rRep_p, ↓pOptK, ↓pChain, ↓piEnumA, ↓pEnumA_tup, ↓pEnumA_lst, ↓rInV_tup, ↓rInV_lst, ↓rSlN_p, ↓pSlN, ↓pTn, ↓pTnK, ↓pTM, ↓rTidx_p, ↓rLidx_p, ↓rGtL_p, ↓pStar, ↓pIfT, ↓pCallK, ↓pDzip, ↓pDzipK, ↓pDzipO, ↓pDzipKO, ↓rIsB_bl, ↓rDix_str, ↓rDix_int, ↓rIn_tup, ↓rIn_lst, ↓rEq_ns, ↓rEq_sn, ↓rRepT_p, ↓rAll_f, ↓rAll_t, ↓wSeq_p, ↓seqE_nx, ↓reduceIte, at_0, at_1, at_2, at_3, cut_1, cut_2, dl_0_0, dl_0_1, dl_0_2, dl_0_3, dl_0_4, dl_0_5, dl_1_0, dl_1_1, dl_1_2, dl_1_3, dl_1_4, dl_1_5, dl_2_0, dl_2_1, dl_2_2, dl_2_3, dl_2_4, dl_2_5, dl_3_0, dl_3_1, dl_3_2, dl_3_3, dl_3_4, dl_3_5, dl_4_0, dl_4_1, dl_4_2, dl_4_3, dl_4_4, dl_4_5, dn_1_0, dn_2_0, dn_2_1, dn_3_0, dn_3_1, dn_3_2, dn_4_0, dn_4_1, dn_4_2, dn_4_3, seqE_rt, seqE_bk, seqE_ct, seqE_ex, wipeD, frz_lst, frz_tup, at1_0, at2_0, at2_1, at3_0, at3_1, at3_2, at4_0, at4_1, at4_2, at4_3, at5_0, at5_1, at5_2, at5_3, at5_4, seqOf_put, seqOf_lst, seqOf_tup, insK_same, tyN_non, tyN_bl, tyN_int, tyN_str, tyN_tup, tyN_lst, tyN_dct, List.getElem?_cons_zero, List.getElem?_cons_succ, List.set_cons_zero, List.set_cons_succ, List.length_cons, List.length_nil, isB_NoneType_bool, isB_NoneType_int, isB_NoneType_str, isB_NoneType_tuple, isB_NoneType_list, isB_NoneType_dict, isB_bool_bool, isB_bool_int, isB_bool_str, isB_bool_tuple, isB_bool_list, isB_bool_dict, isB_int_bool, isB_int_int, isB_int_str, isB_int_tuple, isB_int_list, isB_int_dict, isB_str_bool, isB_str_int, isB_str_str, isB_str_tuple, isB_str_list, isB_str_dict, isB_tuple_bool, isB_tuple_int, isB_tuple_str, isB_tuple_tuple, isB_tuple_list, isB_tuple_dict, isB_list_bool, isB_list_int, isB_list_str, isB_list_tuple, isB_list_list, isB_list_dict, isB_dict_bool, isB_dict_int, isB_dict_str, isB_dict_tuple, isB_dict_list, isB_dict_dict, isC_bool, isC_int, isC_str, isC_tuple, isC_list, isC_dict, isA_list_tuple, isQ_NoneType, isQ_bool, isQ_int, isQ_str, isQ_tuple, isQ_list, isQ_dict, true_and, and_true, Bool.not_true, Bool.not_false, Bool.false_eq_true, Bool.true_xor, Bool.false_xor, e0, e1, e2, cut_to il2, cut_from il2]
    refine any_b' A g2 h1 (by omega) fun x hx N3 g3 _ => ?_
    refine ⟨by omega, by rw [tl]; omega, by rw [List.length_append, tl, dl]; simp only [List.length_singleton]; omega, q _ (put_ok hn (ho x hx).1) (put_badV (ho x hx)) _ g3⟩
theorem rd__law_spoilt (A : Ad) : ∀ ds M Q Xc, sp__law_spoilt A ds M Q Xc → ds.length = P__law_spoilt.length ∧ RD (wb__law_spoilt A) Q Xc (startD N__law_spoilt ds) M := by
  rintro _ M Q Xc ⟨b, ns, own, o, rfl, hn, hb, g, q⟩
  refine ⟨rfl, ?_⟩
  rw [st__law_spoilt]
  have big := sizeLine_big
  have n5 := hn.hi
  have fin : ∀ v, OkV v → BadV own v → ∀ N, Bgd M b N → Fin Q v N := fun v h1 h2 N hN => by
    obtain ⟨o2, g2, rfl⟩ := hN
    exact fin_of (q v h1 h2 o2 g2)
  simp only [RD, wb__law_spoilt, ↓pFau, ↓pFst, ↓pRaise, ↓pPar3, ↓pParK3, ↓rMulS_p, ↓pFmt, ↓pFmtS, ↓pFmtI, ↓pJs0, ↓pJs1, ↓pStrKD, ↓pVar, ↓pGet, ↓pC, ↓pOp, ↓pUn, ↓pCB, ↓pNil, ↓pCons, ↓pTest, ↓pBl, ↓pAndT, ↓pOrT, ↓pNotT, ↓pAndV, ↓pOrV, ↓pNotV, ↓pIfE, ↓pTup, ↓pLst, ↓pLstO, ↓pCall, ↓pMeth, ↓pFld, ↓pProp, ↓pMake, ↓pCv, ↓pSl, ↓pNo, ↓pSome, ↓pIntK, ↓pN, ↓pT, ↓pGC, ↓pGN, ↓pIf, ↓pRet, ↓pRetN, ↓pDrop, ↓pAsg, ↓pNx, ↓pBrk, ↓pCnt, ↓pNever, ↓pSub, ↓pAug, ↓pPar, ↓pParK, ↓pBM, ↓pFor, ↓pLc, ↓pLcO, ↓pYes, ↓piSeq, ↓piStr, ↓pStrK, ↓piRng1, ↓pRng1K, ↓piRng2, ↓pRng2K, ↓piEnum, ↓pEnumK, ↓piZip, ↓pZipL, ↓pZipT, ↓pFz, ↓pLenSet, ↓pIsT, ↓rIx_lst, ↓rIx_tup, ↓rIx_ref, ↓rIx_str, ↓rLen_str, ↓rLen_lst, ↓rLen_tup, ↓rLen_ref, ↓rIs_p, ↓rInt_int, ↓rInt_bl, ↓rStr_int, ↓rList_p, ↓rListO_p, ↓rTup_p, ↓rAdd_int, ↓rAdd_str, ↓rAdd_tup, ↓rAdd_lst, ↓rIntD_p, ↓rInt0_p, ↓rEq_int, ↓rEq_str, ↓rEq_bl, ↓rEq_lst, ↓rEq_tup, ↓rIsN_non, ↓rIsN_bl, ↓rIsN_int, ↓rIsN_str, ↓rIsN_tup, ↓rIsN_lst, ↓rNeg_p, ↓rSl_str, ↓rSl_tup, ↓rSl_lst, ↓rSl_scr, ↓rRep_p, ↓pOptK, ↓pChain, ↓piEnumA, ↓pEnumA_tup, ↓pEnumA_lst, ↓rInV_tup, ↓rInV_lst, ↓rSlN_p, ↓pSlN, ↓pTn, ↓pTnK, ↓pTM, ↓rTidx_p, ↓rLidx_p, ↓rGtL_p, ↓pStar, ↓pIfT, ↓pCallK, ↓pDzip, ↓pDzipK, ↓pDzipO, ↓pDzipKO, ↓rIsB_bl, ↓rDix_str, ↓rDix_int, ↓rIn_tup, ↓rIn_lst, ↓rEq_ns, ↓rEq_sn, ↓rRepT_p, ↓rAll_f, ↓rAll_t, ↓wSeq_p, ↓seqE_nx, ↓reduceIte, at_0, at_1, at_2, at_3, cut_1, cut_2, dl_0_0, dl_0_1, dl_0_2, dl_0_3, dl_0_4, dl_0_5, dl_1_0, dl_1_1, dl_1_2, dl_1_3, dl_1_4, dl_1_5, dl_2_0, dl_2_1, dl_2_2, dl_2_3, dl_2_4, dl_2_5, dl_3_0, dl_3_1, dl_3_2, dl_3_3, dl_3_4, dl_3_5, dl_4_0, dl_4_1, dl_4_2, dl_4_3, dl_4_4, dl_4_5, dn_1_0, dn_2_0, dn_2_1, dn_3_0, dn_3_1, dn_3_2, dn_4_0, dn_4_1, dn_4_2, dn_4_3, seqE_rt, seqE_bk, seqE_ct, seqE_ex, wipeD, frz_lst, frz_tup, at1_0, at2_0, at2_1, at3_0, at3_1, at3_2, at4_0, at4_1, at4_2, at4_3, at5_0, at5_1, at5_2, at5_3, at5_4, seqOf_put, seqOf_lst, seqOf_tup, insK_same, tyN_non, tyN_bl, tyN_int, tyN_str, tyN_tup, tyN_lst, tyN_dct, List.getElem?_cons_zero, List.getElem?_cons_succ, List.set_cons_zero, List.set_cons_succ, List.length_cons, List.length_nil, isB_NoneType_bool, isB_NoneType_int, isB_NoneType_str, isB_NoneType_tuple, isB_NoneType_list, isB_NoneType_dict, isB_bool_bool, isB_bool_int, isB_bool_str, isB_bool_tuple, isB_bool_list, isB_bool_dict, isB_int_bool, isB_int_int, isB_int_str, isB_int_tuple, isB_int_list, isB_int_dict, isB_str_bool, isB_str_int, isB_str_str, isB_str_tuple, isB_str_list, isB_str_dict, isB_tuple_bool, isB_tuple_int, isB_tuple_str, isB_tuple_tuple, isB_tuple_list, isB_tuple_dict, isB_list_bool, isB_list_int, isB_list_str, isB_list_tuple, isB_list_list, isB_list_dict, isB_dict_bool, isB_dict_int, isB_dict_str, isB_dict_tuple, isB_dict_list, isB_dict_dict, isC_bool, isC_int, isC_str, isC_tuple, isC_list, isC_dict, isA_list_tuple, isQ_NoneType, isQ_bool, isQ_int, isQ_str, isQ_tuple, isQ_list, isQ_dict, true_and, and_true, Bool.not_true, Bool.not_false, Bool.false_eq_true, Bool.true_xor, Bool.false_xor]
  refine pull_b A (bgd_rfl hb g) (by rw [List.length_map]; omega) (by rw [List.length_map]; omega) fun i hi N1 g1 _ => ?_
  rw [List.length_map] at hi
  try simp only [↓pFau, ↓pFst, ↓pRaise, ↓pPar3, ↓pParK3, ↓rMulS_p, ↓pFmt, ↓pFmtS, ↓pFmtI, ↓pJs0, ↓pJs1, ↓pStrKD, ↓pVar, ↓pGet, ↓pC, ↓pOp, ↓pUn, ↓pCB, ↓pNil, ↓pCons, ↓pTest, ↓pBl, ↓pAndT, ↓pOrT, ↓pNotT, ↓pAndV, ↓pOrV, ↓pNotV, ↓pIfE, ↓pTup, ↓pLst, ↓pLstO, ↓pCall, ↓pMeth, ↓pFld, ↓pProp, ↓pMake, ↓pCv, ↓pSl, ↓pNo, ↓pSome, ↓pIntK, ↓pN, ↓pT, ↓pGC, ↓pGN, ↓pIf, ↓pRet, ↓pRetN, ↓pDrop, ↓pAsg, ↓pNx, ↓pBrk, ↓pCnt, ↓pNever, ↓pSub, ↓pAug, ↓pPar, ↓pParK, ↓pBM, ↓pFor, ↓pLc, ↓pLcO, ↓pYes, ↓piSeq, ↓piStr, ↓pStrK, ↓piRng1, ↓pRng1K, ↓piRng2, ↓pRng2K, ↓piEnum, ↓pEnumK, ↓piZip, ↓pZipL, ↓pZipT, ↓pFz, ↓pLenSet, ↓pIsT, ↓rIx_lst, ↓rIx_tup, ↓rIx_ref, ↓rIx_str, ↓rLen_str, ↓rLen_lst, ↓rLen_tup, ↓rLen_ref, ↓rIs_p, ↓rInt_int, ↓rInt_bl, ↓rStr_int, ↓rList_p, ↓rListO_p, ↓rTup_p, ↓rAdd_int, ↓rAdd_str, ↓rAdd_tup, ↓rAdd_lst, ↓rIntD_p, ↓rInt0_p, ↓rEq_int, ↓rEq_str, ↓rEq_bl, ↓rEq_lst, ↓rEq_tup, ↓rIsN_non, ↓rIsN_bl, ↓rIsN_int, ↓rIsN_str, ↓rIsN_tup, ↓rIsN_lst, ↓rNeg_p, ↓rSl_str, ↓rSl_tup, ↓rSl_lst, ↓rSl_scr, ↓rRep_p, ↓pOptK, ↓pChain, ↓piEnumA, ↓pEnumA_tup, ↓pEnumA_lst, ↓rInV_tup, ↓rInV_lst, ↓rSlN_p, ↓pSlN, ↓pTn, ↓pTnK, ↓pTM, ↓rTidx_p, ↓rLidx_p, ↓rGtL_p, ↓pStar, ↓pIfT, ↓pCallK, ↓pDzip, ↓pDzipK, ↓pDzipO, ↓pDzipKO, ↓rIsB_bl, ↓rDix_str, ↓rDix_int, ↓rIn_tup, ↓rIn_lst, ↓rEq_ns, ↓rEq_sn, ↓rRepT_p, ↓rAll_f, ↓rAll_t, ↓wSeq_p, ↓seqE_nx, ↓reduceIte, at_0, at_1, at_2, at_3, cut_1, cut_2, dl_0_0, dl_0_1, dl_0_2, dl_0_3, dl_0_4, dl_0_5, dl_1_0, dl_1_1, dl_1_2, dl_1_3, dl_1_4, dl_1_5, dl_2_0, dl_2_1, dl_2_2, dl_2_3, dl_2_4, dl_2_5, dl_3_0, dl_3_1, dl_3_2, dl_3_3, dl_3_4, dl_3_5, dl_4_0, dl_4_1, dl_4_2, dl_4_3, dl_4_4, dl_4_5, dn_1_0, dn_2_0, dn_2_1, dn_3_0, dn_3_1, dn_3_2, dn_4_0, dn_4_1, dn_4_2, dn_4_3, seqE_rt, seqE_bk, seqE_ct, seqE_ex, wipeD, frz_lst, frz_tup, at1_0, at2_0, at2_1, at3_0, at3_1, at3_2, at4_0, at4_1, at4_2, at4_3, at5_0, at5_1, at5_2, at5_3, at5_4, seqOf_put, seqOf_lst, seqOf_tup, insK_same, tyN_non, tyN_bl, tyN_int, tyN_str, tyN_tup, tyN_lst, tyN_dct, List.getElem?_cons_zero, List.getElem?_cons_succ, List.set_cons_zero, List.set_cons_succ, List.length_cons, List.length_nil, isB_NoneType_bool, isB_NoneType_int, isB_NoneType_str, isB_NoneType_tuple, isB_NoneType_list, isB_NoneType_dict, isB_bool_bool, isB_bool_int, isB_bool_str, isB_bool_tuple, isB_bool_list, isB_bool_dict, isB_int_bool, isB_int_int, isB_int_str, isB_int_tuple, isB_int_list, isB_int_dict, isB_str_bool, isB_str_int, isB_str_str, isB_str_tuple, isB_str_list, isB_str_dict, isB_tuple_bool, isB_tuple_int, isB_tuple_str, isB_tuple_tuple, isB_tuple_list, isB_tuple_dict, isB_list_bool, isB_list_int, isB_list_str, isB_list_tuple, isB_list_list, isB_list_dict, isB_dict_bool, isB_dict_int, isB_dict_str, isB_dict_tuple, isB_dict_list, isB_dict_dict, isC_bool, isC_int, isC_str, isC_tuple, isC_list, isC_dict, isA_list_tuple, isQ_NoneType, isQ_bool, isQ_int, isQ_str, isQ_tuple, isQ_list, isQ_dict, true_and, and_true, Bool.not_true, Bool.not_false, Bool.false_eq_true, Bool.true_xor, Bool.false_xor]
  refine ⟨by omega, by omega, ?_⟩
  cases own with
  | true =>
    simp only [if_true]
    refine ⟨by omega, by omega, ?_⟩
    refine spoilt_c0 A hn g1 (by omega) (fun x hx => ?_) (by simp) (by simp) fin
    rcases List.mem_append.mp hx with hx | hx
    · exact odd1 true x hx
    · exact odd2 x hx
  | false =>
    simp only [Bool.false_eq_true, if_false]
    exact spoilt_c0 A hn g1 (by omega) (odd1 false) (by simp) (by simp) fin
theorem ok__law_spoilt {P : Program} {w : World} {K : PySem.W.Frag} {mg : Str → Option Value} {base : Heap} {A : Ad} (T : Txt P K mg A) : FnJ P w K mg base 3 A.f__law_spoilt (sp__law_spoilt A) :=
  FnJ.mkAt T.d__law_spoilt sc__law_spoilt (fun cdv R outer s H E hr tk => bd__law_spoilt T cdv R outer s H E hr tk) (rd__law_spoilt A)

end DL.K03
namespace DL.K03
open PySem PySem.Spec PyProof.Rows L2 RZ
def sp_law (A : Ad) : SpD := spLaw [(A.lc, A.lt)] lamq
def wb_law_c2 (A : Ad) : WS :=
  (wIf (wAndT (wTest (wOp (rInD false) (wVar 6) (wTup (wCons (wC (.int 0)) (wCons (wC (.int 2)) wNil))))) (wTest (wCB rIsD (wCons (wVar 4) (wCons (wC (.ty "list")) wNil)))))
  (wIf (wAndT (wTest (wOp (rEqD false) (wCB rLenD (wCons (wVar 4) wNil)) (wC (.int 2)))) (wNotT (wTest (wCall (sp__law_like A 6) (wCons (wTryF A.lt lamq (xt A) (wStat (sp_Shape_plain A) (wCons (wOp rIxD (wVar 4) (wC (.int 0))) (wCons (wOp rIxD (wVar 4) (wC (.int 1))) wNil)))) (wCons (wVar 7) wNil))))))
  (wRet (wC (.bl false)))
  wNx)
  wNx)
def wb_law_c1 (A : Ad) : WS :=
  (wSeq (wIf (wOrT (wTest (wOp (rEqD true) (wOp (rEqD false) (wOp rIxD (wVar 8) (wC (.int 0))) (wC (.str "value"))) (wOp (rEqD false) (wVar 6) (wC (.int 3))))) (wAndT (wTest (wOp (rInt0D fun i j => .bl (decide (i < j))) (wVar 6) (wC (.int 3)))) (wNotT (wTest (wCall (sp__law_like A 6) (wCons (wVar 8) (wCons (wVar 7) wNil)))))))
  (wRet (wC (.bl false)))
  wNx)
  (wb_law_c2 A))
def wb_law_c0 (A : Ad) : WS :=
  (wSeq (wAsg (wTup (wCons (wC (.str "InvalidShape")) (wCons (wTup (wCons (wIfE (wTest (wOp (rInD false) (wVar 6) (wTup (wCons (wC (.int 0)) (wCons (wC (.int 2)) wNil))))) (wC (.int 0)) (wC (.int 1))) wNil)) wNil))) (gN 7))
  (wSeq (wAsg (wTryF A.lt lamq (xt A) (wMake A.c_Shape (sp_Shape___init__ A) (wCons (wVar 4) (wCons (wVar 5) wNil)))) (gN 8))
  (wb_law_c1 A)))
def wb_law (A : Ad) : WS :=
  (wSeq (wAsg (wCall (sp__law_opened A) (wCons (wVar 0) wNil)) (gN 1))
  (wSeq (wFor (wiRng1 (wCons (wC (.int 12)) wNil)) (gN 2)
  (wSeq (wAsg (wCall (sp__law_ground A) (wCons (wVar 1) (wCons (wC (.int 4)) (wCons (wC (.int 4)) wNil)))) (gN 3))
  (wSeq (wAsg (wTup (wCons (wCB rListD (wCons (wOp rIxD (wVar 3) (wC (.int 0))) wNil)) (wCons (wCB rListD (wCons (wOp rIxD (wVar 3) (wC (.int 1))) wNil)) (wCons (wCall (sp__law_pull A) (wCons (wVar 1) (wCons (wC (.int 4)) wNil))) wNil)))) (gT 3 (gCons' (gN 4) (gCons' (gN 5) (gCons' (gN 6) gNil')))))
  (wSeq (wIf (wTest (wOp (rInD false) (wVar 6) (wTup (wCons (wC (.int 0)) (wCons (wC (.int 2)) wNil)))))
  (wAsg (wCall (sp__law_spoilt A) (wCons (wVar 1) (wCons (wVar 4) (wCons (wC (.bl true)) wNil)))) (gN 4))
  wNx)
  (wSeq (wIf (wTest (wOp (rInD false) (wVar 6) (wTup (wCons (wC (.int 1)) (wCons (wC (.int 2)) wNil)))))
  (wAsg (wCall (sp__law_spoilt A) (wCons (wVar 1) (wCons (wVar 5) (wCons (wC (.bl false)) wNil)))) (gN 5))
  wNx)
  (wb_law_c0 A))))))
  (wRet (wAndV (wCall (sp__law_like A 6) (wCons (wTryF A.lt lamq (xt A) (wStat (sp_Shape_plain A) wNil)) (wCons (wTup (wCons (wC (.str "InvalidShape")) (wCons (wTup (wCons (wC (.int 0)) wNil)) wNil))) wNil))) (wAndV (wCall (sp__law_like A 6) (wCons (wTryF A.lt lamq (xt A) (wStat (sp_Shape_plain A) (wCons (wC (.str "a")) (wCons (wC (.str "b")) (wCons (wC (.str "c")) (wCons (wC (.str "d")) (wCons (wC (.str "e")) (wCons (wC (.str "f")) wNil)))))))) (wCons (wTup (wCons (wC (.str "InvalidShape")) (wCons (wTup (wCons (wC (.int 0)) wNil)) wNil))) wNil))) (wCall (sp__law_like A 6) (wCons (wTryF A.lt lamq (xt A) (wStat (sp_Shape_plain A) (wCons (wC (.str "a")) (wCons (wC (.str "a")) wNil)))) (wCons (wTup (wCons (wC (.str "InvalidShape")) (wCons (wTup (wCons (wC (.int 0)) wNil)) wNil))) wNil))))))))
theorem bd_law {P : Program} {w : World} {K : PySem.W.Frag} {mg : Str → Option Value} {base : Heap} {A : Ad} (T : Txt P K mg A) (B : LamX.TabB base mg A.lc A.lt) (R : Around) (outer : List Env) (s : Shared) (H : Hp) (E : XK) (hr : Room 11 (R.deeper (envOfC "law" (defScope s_law) s.heap.objs.size A.f_law (.ref A.lc))))
    (tk : Takes (cxOf (L2.CX P w) P w K mg base N_law "law" (defScope s_law) A.f_law (.ref A.lc) R outer s H E) (WD E)) : JSs (cxOf (L2.CX P w) P w K mg base N_law "law" (defScope s_law) A.f_law (.ref A.lc) R outer s H E) (WD E) (defBody s_law) (wb_law A) :=
  (js_cons (js_set (i := 1) sc_law.nd (j_call (ok__law_opened T) hr (by decide) T.g__law_opened tk (j_cons (jv 0) j_nil)))
  (js_cons (js_for (passes_of rfl) rfl (ji_rng1 T.n_range (j_cons j_int j_nil)) (jg_name (i := 2) sc_law.nd)
  (js_cons (js_set (i := 3) sc_law.nd (j_call (ok__law_ground T) hr (by decide) T.g__law_ground tk (j_cons (jv 1) (j_cons j_int (j_cons j_int j_nil)))))
  (js_cons (js_asg (j_tup (j_cons (j_callTy cd_list T.n_list bo_list (j_cons (j_ix id_ix (jv 3) j_int) j_nil)) (j_cons (j_callTy cd_list T.n_list bo_list (j_cons (j_ix id_ix (jv 3) j_int) j_nil)) (j_cons (j_call (ok__law_pull T) hr (by decide) T.g__law_pull tk (j_cons (jv 1) (j_cons j_int j_nil))) j_nil)))) (jg_tup rfl (jgs_cons (jg_name (i := 4) sc_law.nd) (jgs_cons (jg_name (i := 5) sc_law.nd) (jgs_cons (jg_name (i := 6) sc_law.nd) jgs_nil)))))
  (js_cons (js_if (jt_cmp od_in (jv 6) (j_tup (j_cons j_int (j_cons j_int j_nil))))
  (js_one (js_set (i := 4) sc_law.nd (j_call (ok__law_spoilt T) hr (by decide) T.g__law_spoilt tk (j_cons (jv 1) (j_cons (jv 4) (j_cons j_bl j_nil))))))
  js_nil)
  (js_cons (js_if (jt_cmp od_in (jv 6) (j_tup (j_cons j_int (j_cons j_int j_nil))))
  (js_one (js_set (i := 5) sc_law.nd (j_call (ok__law_spoilt T) hr (by decide) T.g__law_spoilt tk (j_cons (jv 1) (j_cons (jv 5) (j_cons j_bl j_nil))))))
  js_nil)
  (js_cons (js_set (i := 7) sc_law.nd (j_tup (j_cons j_str (j_cons (j_tup (j_cons (j_if (jt_cmp od_in (jv 6) (j_tup (j_cons j_int (j_cons j_int j_nil)))) j_int j_int) j_nil)) j_nil))))
  (js_cons (js_set (i := 8) sc_law.nd (j_tryF (k := 9) T.d__law_try sc__law_try rfl (.inl rfl) (tg T hr) (xt_ok T) B rfl hr (by decide) (LamX.lamS_by (sc := defScope s_law) (by decide +kernel)) T.g__law_try (fun _ _ _ _ _ _ _ hr tk => (j_make (C := A.c_Shape) T.mk_Shape (ok_Shape___init__ T) hr (by decide) T.g_Shape tk (j_cons (jv 4) (j_cons (jv 5) j_nil)))) (fun _ _ _ _ _ => rfl)))
  (js_cons (js_if (jt_bool (jt_or (jt_cmp (od_ne hr.units) (j_cmp (od_eq hr.units) (j_ix id_ix (jv 8) j_int) j_str) (j_cmp (od_eq hr.units) (jv 6) j_int)) (jt_or1 (jt_bool (jt_and (jt_cmp od_lt (jv 6) j_int) (jt_and1 (jt_not (jt_val (j_call (ok__law_like T 6) hr (by decide) T.g__law_like tk (j_cons (jv 8) (j_cons (jv 7) j_nil)))))))))))
  (js_one (js_ret j_bl))
  js_nil)
  (js_one (js_if (jt_bool (jt_and (jt_cmp od_in (jv 6) (j_tup (j_cons j_int (j_cons j_int j_nil)))) (jt_and1 (jt_val (j_callB cd_isi T.n_isinstance bo_isinstance (j_cons (jv 4) (j_cons (j_bltn T.n_list bo_list) j_nil)))))))
  (js_one (js_if (jt_bool (jt_and (jt_cmp (od_eq hr.units) (j_callB cd_len T.n_len bo_len (j_cons (jv 4) j_nil)) j_int) (jt_and1 (jt_not (jt_val (j_call (ok__law_like T 6) hr (by decide) T.g__law_like tk (j_cons (j_tryF (k := 9) T.d__law_try sc__law_try rfl (.inl rfl) (tg T hr) (xt_ok T) B rfl hr (by decide) (LamX.lamS_by (sc := defScope s_law) (by decide +kernel)) T.g__law_try (fun _ _ _ _ _ _ _ hr tk => (j_stat T.g_Shape T.sm_Shape_plain (ok_Shape_plain T) hr (by decide) tk (j_cons (j_ix id_ix (jv 4) j_int) (j_cons (j_ix id_ix (jv 4) j_int) j_nil)))) (fun _ _ _ _ _ => rfl)) (j_cons (jv 7) j_nil))))))))
  (js_one (js_ret j_bl))
  js_nil))
  js_nil))))))))))
  (js_one (js_ret (j_and (j_call (ok__law_like T 6) hr (by decide) T.g__law_like tk (j_cons (j_tryF (k := 9) T.d__law_try sc__law_try rfl (.inl rfl) (tg T hr) (xt_ok T) B rfl hr (by decide) (LamX.lamS_by (sc := defScope s_law) (by decide +kernel)) T.g__law_try (fun _ _ _ _ _ _ _ hr tk => (j_stat0 T.g_Shape T.sm_Shape_plain (ok_Shape_plain T) hr (by decide) tk)) (fun _ _ _ _ _ => rfl)) (j_cons (j_tup (j_cons j_str (j_cons (j_tup (j_cons j_int j_nil)) j_nil))) j_nil))) (j_and (j_call (ok__law_like T 6) hr (by decide) T.g__law_like tk (j_cons (j_tryF (k := 9) T.d__law_try sc__law_try rfl (.inl rfl) (tg T hr) (xt_ok T) B rfl hr (by decide) (LamX.lamS_by (sc := defScope s_law) (by decide +kernel)) T.g__law_try (fun _ _ _ _ _ _ _ hr tk => (j_stat T.g_Shape T.sm_Shape_plain (ok_Shape_plain T) hr (by decide) tk (j_cons j_str (j_cons j_str (j_cons j_str (j_cons j_str (j_cons j_str (j_cons j_str j_nil)))))))) (fun _ _ _ _ _ => rfl)) (j_cons (j_tup (j_cons j_str (j_cons (j_tup (j_cons j_int j_nil)) j_nil))) j_nil))) (j_one (j_call (ok__law_like T 6) hr (by decide) T.g__law_like tk (j_cons (j_tryF (k := 9) T.d__law_try sc__law_try rfl (.inl rfl) (tg T hr) (xt_ok T) B rfl hr (by decide) (LamX.lamS_by (sc := defScope s_law) (by decide +kernel)) T.g__law_try (fun _ _ _ _ _ _ _ hr tk => (j_stat T.g_Shape T.sm_Shape_plain (ok_Shape_plain T) hr (by decide) tk (j_cons j_str (j_cons j_str j_nil)))) (fun _ _ _ _ _ => rfl)) (j_cons (j_tup (j_cons j_str (j_cons (j_tup (j_cons j_int j_nil)) j_nil))) j_nil))))))))))
abbrev sl (s0 : Option D) (b : Addr) (r : SD) : SD := s0 :: some (.ref b) :: r
theorem tab_at {M N : Mem} {a b : Addr} {q : Str} (h : M a = some (.tab q)) (hne : a ≠ b) (g : Bgd M b N) : N a = some (.tab q) := by
  obtain ⟨u, _, e⟩ := g
  rw [e, mput_ne hne]
  exact h
theorem like_at (A : Ad) {d e : D} {M : Mem} {Q : KN} {X : KX} (h : Nc e 5) (he : d = e) (q : Q (.bl true) M) : sp__law_like A 6 [d, e] M Q X := by
  subst he
  exact ⟨d, rfl, h, q⟩
theorem x_shape (A : Ad) {i : Int} {M : Mem} {Q : KN} (q : Q (.tup [.str "InvalidShape", .tup [.int i]]) M) : FinX (fun x M1 => excR (xt A) x M1 Q) (xShape A i) M := finX_of ⟨A.c_InvalidShape, "InvalidShape", ["at"], [.int i], List.mem_cons_self, rfl, rfl, q⟩
theorem nc_shape {i : Int} : Nc (.tup [.str "InvalidShape", .tup [.int i]]) 5 := by
  have ok : PyData.strOk ("InvalidShape" : Str) = true := by decide +kernel
  have l : (("InvalidShape" : Str)).length < 90000 := by decide +kernel
  exact ⟨⟨by decide, by simp⟩, ⟨l, ok⟩, ⟨⟨by decide, by simp⟩, trivial, trivial⟩, trivial⟩
/-- what the turn's two lists are -/
inductive Turn (f s : D) : Nat → Prop
  | w0 : Bad0 f → Turn f s 0
  | w1 {fs : List Str} : Good0 f fs → areN s = false → Turn f s 1
  | w2 : Bad0 f → Turn f s 2
  | w3 {fs ss : List Str} : Good0 f fs → (s = .lst (ss.map D.str) ∨ s = .tup (ss.map D.str)) → NamesOk ss → Turn f s 3
/-- the due answer's place -/
def dueI (w : Nat) : Int := if w = 0 ∨ w = 2 then 0 else 1
theorem i0 : inD (.int ((0 : Nat) : Int)) [.int 0, .int 2] = true := by decide +kernel
theorem i1 : ¬ inD (.int ((1 : Nat) : Int)) [.int 0, .int 2] = true := by decide +kernel
theorem i2 : inD (.int ((2 : Nat) : Int)) [.int 0, .int 2] = true := by decide +kernel
theorem i3 : ¬ inD (.int ((3 : Nat) : Int)) [.int 0, .int 2] = true := by decide +kernel
theorem j0 : ¬ inD (.int ((0 : Nat) : Int)) [.int 1, .int 2] = true := by decide +kernel
theorem j1 : inD (.int ((1 : Nat) : Int)) [.int 1, .int 2] = true := by decide +kernel
theorem j2 : inD (.int ((2 : Nat) : Int)) [.int 1, .int 2] = true := by decide +kernel
theorem j3 : ¬ inD (.int ((3 : Nat) : Int)) [.int 1, .int 2] = true := by decide +kernel
theorem sub_put {N : Mem} {a : Addr} {o : MO} (ha : N a = none) : ∀ c u, N c = some u → mput N a o c = some u := fun c u h => by
  have e : c ≠ a := fun e => by subst e; rw [ha] at h; cases h
  rw [mput_ne e]
  exact h
theorem x_shapeG (A : Ad) {i : Int} {N : Mem} {a : Addr} {o : MO} {Q : KN} (ha : N a = none) (q : Q (.tup [.str "InvalidShape", .tup [.int i]]) N) : FinX (fun x M1 => excR (xt A) x M1 Q) (xShape A i) (mput N a o) :=
  ⟨N, sub_put ha, A.c_InvalidShape, "InvalidShape", ["at"], [.int i], List.mem_cons_self, rfl, rfl, q⟩
theorem bad_tup {xs : List D} (h : Bad0 (.lst xs)) : Bad0 (.tup xs) := by
  rcases h with h | ⟨zs, hv, h1, h2⟩
  · exact .inl h
  · refine .inr ⟨zs, .inr ?_, h1, h2⟩
    rcases hv with e | e <;> cases e
    rfl
theorem law_c2 (A : Ad) {b : Addr} {f s told : D} {w : Nat} {E : ED} {M N : Mem} {s0 x2 x3 : Option D} (hT : M A.lt = some (.tab lamq)) (hne : A.lt ≠ b) (hb : Bgd M b N) (hf : OkV f) (hw : Turn f s w)
    (q : ∀ r : SD, r.length = 7 → E.nx (sl s0 b r) N) :
    wb_law_c2 A E (sl s0 b [x2, x3, some f, some s, some (.int (w : Int)), some (.tup [.str "InvalidShape", .tup [.int (dueI w)]]), some told]) N := by
  have big := sizeLine_big
  have T1 := tab_at hT hne hb
  have key : ∀ i : Int, i = 0 → Bad0 f → optK (tyN N f) fun n =>
      if isB n "list" = true then rLenD [f] N fun x M1 => rEqD false x (.int 2) M1 fun d M1 => isBl d fun b_1 =>
        if b_1 = true then M1 A.lt = some (.tab lamq) ∧ rIxD f (.int 0) M1 fun d M1 => rIxD f (.int 1) M1 fun d_1 M1 => 0 + 1 + 1 ≤ sizeLine ∧
          sp_Shape_plain A [d, d_1] M1 (Fin fun d M1 => sp__law_like A 6 [.tup [.str "value", d], .tup [.str "InvalidShape", .tup [.int i]]] M1 (fun d M1 => isBl d fun b_2 => if (!b_2) = true then E.rt (.bl false) M1 else
              E.nx [s0, some (.ref b), x2, x3, some f, some s, some (.int (w : Int)), some (.tup [.str "InvalidShape", .tup [.int i]]), some told] M1) (E.xc [s0, some (.ref b), x2, x3, some f, some s, some (.int (w : Int)), some (.tup [.str "InvalidShape", .tup [.int i]]), some told]))
            (FinX fun x M1 => excR (xt A) x M1 fun d M1 => sp__law_like A 6 [d, .tup [.str "InvalidShape", .tup [.int i]]] M1 (fun d M1 => isBl d fun b_2 => if (!b_2) = true then E.rt (.bl false) M1 else
              E.nx [s0, some (.ref b), x2, x3, some f, some s, some (.int (w : Int)), some (.tup [.str "InvalidShape", .tup [.int i]]), some told] M1) (E.xc [s0, some (.ref b), x2, x3, some f, some s, some (.int (w : Int)), some (.tup [.str "InvalidShape", .tup [.int i]]), some told]))
        else E.nx [s0, some (.ref b), x2, x3, some f, some s, some (.int (w : Int)), some (.tup [.str "InvalidShape", .tup [.int i]]), some told] N
      else E.nx [s0, some (.ref b), x2, x3, some f, some s, some (.int (w : Int)), some (.tup [.str "InvalidShape", .tup [.int i]]), some told] N := by
    rintro i rfl hb0
    cases hf with
    | lst hx =>
      rename_i xs
      rcases xs with _ | ⟨y0, _ | ⟨y1, _ | ⟨y2, r⟩⟩⟩
      · simp only [↓pFau, ↓pFst, ↓pRaise, ↓pPar3, ↓pParK3, ↓rMulS_p, ↓pFmt, ↓pFmtS, ↓pFmtI, ↓pJs0, ↓pJs1, ↓pStrKD, ↓pVar, ↓pGet, ↓pC, ↓pOp, ↓pUn, ↓pCB, ↓pNil, ↓pCons, ↓pTest, ↓pBl, ↓pAndT, ↓pOrT, ↓pNotT, ↓pAndV, ↓pOrV, ↓pNotV, ↓pIfE, ↓pTup, ↓pLst, ↓pLstO, ↓pCall, ↓pMeth, ↓pFld, ↓pProp, ↓pMake, ↓pCv, ↓pSl, ↓pNo, ↓pSome, ↓pIntK, ↓pN, ↓pT, ↓pGC, ↓pGN, ↓pIf, ↓pRet, ↓pRetN, ↓pDrop, ↓pAsg, ↓pNx, ↓pBrk, ↓pCnt, ↓pNever, ↓pSub, ↓pAug, ↓pPar, ↓pParK, ↓pBM, ↓pFor, ↓pLc, ↓pLcO, ↓pYes, ↓piSeq, ↓piStr, ↓pStrK, ↓piRng1, ↓pRng1K, ↓piRng2, ↓pRng2K, ↓piEnum, ↓pEnumK, ↓piZip, ↓pZipL, ↓pZipT, ↓pFz, ↓pLenSet, ↓pIsT, ↓rIx_lst, ↓rIx_tup, ↓rIx_ref, ↓rIx_str, ↓rLen_str, ↓rLen_lst, ↓rLen_tup, ↓rLen_ref, ↓rIs_p, ↓rInt_int, ↓rInt_bl, ↓rStr_int, ↓rList_p, ↓rListO_p, ↓rTup_p, ↓rAdd_int, ↓rAdd_str, ↓rAdd_tup, ↓rAdd_lst, ↓rIntD_p, ↓rInt0_p, ↓rEq_int, ↓rEq_str, ↓rEq_bl, ↓rEq_lst, ↓rEq_tup, ↓rIsN_non, ↓rIsN_bl, ↓rIsN_int, ↓rIsN_str, ↓rIsN_tup, ↓rIsN_lst, ↓rNeg_p, ↓rSl_str, ↓rSl_tup, ↓rSl_lst, ↓rSl_scr, ↓rRep_p, ↓pOptK, ↓pChain, ↓piEnumA, ↓pEnumA_tup, ↓pEnumA_lst, ↓rInV_tup, ↓rInV_lst, ↓rSlN_p, ↓pSlN, ↓pTn, ↓pTnK, ↓pTM, ↓rTidx_p, ↓rLidx_p, ↓rGtL_p, ↓pStar, ↓pIfT, ↓pCallK, ↓pDzip, ↓pDzipK, ↓pDzipO, ↓pDzipKO, ↓rIsB_bl, ↓rDix_str, ↓rDix_int, ↓rIn_tup, ↓rIn_lst, ↓rEq_ns, ↓rEq_sn, ↓rRepT_p, ↓rAll_f, ↓rAll_t, ↓wSeq_p, ↓seqE_nx, ↓reduceIte, at_0, at_1, at_2, at_3, cut_1, cut_2, dl_0_0, dl_0_1, dl_0_2, dl_0_3, dl_0_4, dl_0_5, dl_1_0, dl_1_1, dl_1_2, dl_1_3, dl_1_4, dl_1_5, dl_2_0, dl_2_1, dl_2_2, dl_2_3, dl_2_4, dl_2_5, dl_3_0, dl_3_1, dl_3_2, dl_3_3, dl_3_4, dl_3_5, dl_4_0, dl_4_1, dl_4_2, dl_4_3, dl_4_4, dl_4_5, dn_1_0, dn_2_0, dn_2_1, dn_3_0, dn_3_1, dn_3_2, dn_4_0, dn_4_1, dn_4_2, dn_4_3, seqE_rt, seqE_bk, seqE_ct, seqE_ex, wipeD, frz_lst, frz_tup, at1_0, at2_0, at2_1, at3_0, at3_1, at3_2, at4_0, at4_1, at4_2, at4_3, at5_0, at5_1, at5_2, at5_3, at5_4, seqOf_put, seqOf_lst, seqOf_tup, insK_same, tyN_non, tyN_bl, tyN_int, tyN_str, tyN_tup, tyN_lst, tyN_dct, List.getElem?_cons_zero, List.getElem?_cons_succ, List.set_cons_zero, List.set_cons_succ, List.length_cons, List.length_nil, isB_NoneType_bool, isB_NoneType_int, isB_NoneType_str, isB_NoneType_tuple, isB_NoneType_list, isB_NoneType_dict, isB_bool_bool, isB_bool_int, isB_bool_str, isB_bool_tuple, isB_bool_list, isB_bool_dict, isB_int_bool, isB_int_int, isB_int_str, isB_int_tuple, isB_int_list, isB_int_dict, isB_str_bool, isB_str_int, isB_str_str, isB_str_tuple, isB_str_list, isB_str_dict, isB_tuple_bool, isB_tuple_int, isB_tuple_str, isB_tuple_tuple, isB_tuple_list, isB_tuple_dict, isB_list_bool, isB_list_int, isB_list_str, isB_list_tuple, isB_list_list, isB_list_dict, isB_dict_bool, isB_dict_int, isB_dict_str, isB_dict_tuple, isB_dict_list, isB_dict_dict, isC_bool, isC_int, isC_str, isC_tuple, isC_list, isC_dict, isA_list_tuple, isQ_NoneType, isQ_bool, isQ_int, isQ_str, isQ_tuple, isQ_list, isQ_dict, true_and, and_true, Bool.not_true, Bool.not_false, Bool.false_eq_true, Bool.true_xor, Bool.false_xor]
        exact q _ rfl
      · simp only [↓pFau, ↓pFst, ↓pRaise, ↓pPar3, ↓pParK3, ↓rMulS_p, ↓pFmt, ↓pFmtS, ↓pFmtI, ↓pJs0, ↓pJs1, ↓pStrKD, ↓pVar, ↓pGet, ↓pC, ↓pOp, ↓pUn, ↓pCB, ↓pNil, ↓pCons, ↓pTest, ↓pBl, ↓pAndT, ↓pOrT, ↓pNotT, ↓pAndV, ↓pOrV, ↓pNotV, ↓pIfE, ↓pTup, ↓pLst, ↓pLstO, ↓pCall, ↓pMeth, ↓pFld, ↓pProp, ↓pMake, ↓pCv, ↓pSl, ↓pNo, ↓pSome, ↓pIntK, ↓pN, ↓pT, ↓pGC, ↓pGN, ↓pIf, ↓pRet, ↓pRetN, ↓pDrop, ↓pAsg, ↓pNx, ↓pBrk, ↓pCnt, ↓pNever, ↓pSub, ↓pAug, ↓pPar, ↓pParK, ↓pBM, ↓pFor, ↓pLc, ↓pLcO, ↓pYes, ↓piSeq, ↓piStr, ↓pStrK, ↓piRng1, ↓pRng1K, ↓piRng2, ↓pRng2K, ↓piEnum, ↓pEnumK, ↓piZip, ↓pZipL, ↓pZipT, ↓pFz, ↓pLenSet, ↓pIsT, ↓rIx_lst, ↓rIx_tup, ↓rIx_ref, ↓rIx_str, ↓rLen_str, ↓rLen_lst, ↓rLen_tup, ↓rLen_ref, ↓rIs_p, ↓rInt_int, ↓rInt_bl, ↓rStr_int, ↓rList_p, ↓rListO_p, ↓rTup_p, ↓rAdd_int, ↓rAdd_str, ↓rAdd_tup, ↓rAdd_lst, ↓rIntD_p, ↓rInt0_p, ↓rEq_int, ↓rEq_str, ↓rEq_bl, ↓rEq_lst, ↓rEq_tup, ↓rIsN_non, ↓rIsN_bl, ↓rIsN_int, ↓rIsN_str, ↓rIsN_tup, ↓rIsN_lst, ↓rNeg_p, ↓rSl_str, ↓rSl_tup, ↓rSl_lst, ↓rSl_scr, ↓rRep_p, ↓pOptK, ↓pChain, ↓piEnumA, ↓pEnumA_tup, ↓pEnumA_lst, ↓rInV_tup, ↓rInV_lst, ↓rSlN_p, ↓pSlN, ↓pTn, ↓pTnK, ↓pTM, ↓rTidx_p, ↓rLidx_p, ↓rGtL_p, ↓pStar, ↓pIfT, ↓pCallK, ↓pDzip, ↓pDzipK, ↓pDzipO, ↓pDzipKO, ↓rIsB_bl, ↓rDix_str, ↓rDix_int, ↓rIn_tup, ↓rIn_lst, ↓rEq_ns, ↓rEq_sn, ↓rRepT_p, ↓rAll_f, ↓rAll_t, ↓wSeq_p, ↓seqE_nx, ↓reduceIte, at_0, at_1, at_2, at_3, cut_1, cut_2, dl_0_0, dl_0_1, dl_0_2, dl_0_3, dl_0_4, dl_0_5, dl_1_0, dl_1_1, dl_1_2, dl_1_3, dl_1_4, dl_1_5, dl_2_0, dl_2_1, dl_2_2, dl_2_3, dl_2_4, dl_2_5, dl_3_0, dl_3_1, dl_3_2, dl_3_3, dl_3_4, dl_3_5, dl_4_0, dl_4_1, dl_4_2, dl_4_3, dl_4_4, dl_4_5, dn_1_0, dn_2_0, dn_2_1, dn_3_0, dn_3_1, dn_3_2, dn_4_0, dn_4_1, dn_4_2, dn_4_3, seqE_rt, seqE_bk, seqE_ct, seqE_ex, wipeD, frz_lst, frz_tup, at1_0, at2_0, at2_1, at3_0, at3_1, at3_2, at4_0, at4_1, at4_2, at4_3, at5_0, at5_1, at5_2, at5_3, at5_4, seqOf_put, seqOf_lst, seqOf_tup, insK_same, tyN_non, tyN_bl, tyN_int, tyN_str, tyN_tup, tyN_lst, tyN_dct, List.getElem?_cons_zero, List.getElem?_cons_succ, List.set_cons_zero, List.set_cons_succ, List.length_cons, List.length_nil, isB_NoneType_bool, isB_NoneType_int, isB_NoneType_str, isB_NoneType_tuple, isB_NoneType_list, isB_NoneType_dict, isB_bool_bool, isB_bool_int, isB_bool_str, isB_bool_tuple, isB_bool_list, isB_bool_dict, isB_int_bool, isB_int_int, isB_int_str, isB_int_tuple, isB_int_list, isB_int_dict, isB_str_bool, isB_str_int, isB_str_str, isB_str_tuple, isB_str_list, isB_str_dict, isB_tuple_bool, isB_tuple_int, isB_tuple_str, isB_tuple_tuple, isB_tuple_list, isB_tuple_dict, isB_list_bool, isB_list_int, isB_list_str, isB_list_tuple, isB_list_list, isB_list_dict, isB_dict_bool, isB_dict_int, isB_dict_str, isB_dict_tuple, isB_dict_list, isB_dict_dict, isC_bool, isC_int, isC_str, isC_tuple, isC_list, isC_dict, isA_list_tuple, isQ_NoneType, isQ_bool, isQ_int, isQ_str, isQ_tuple, isQ_list, isQ_dict, true_and, and_true, Bool.not_true, Bool.not_false, Bool.false_eq_true, Bool.true_xor, Bool.false_xor]
        exact q _ rfl
      · simp only [↓pFau, ↓pFst, ↓pRaise, ↓pPar3, ↓pParK3, ↓rMulS_p, ↓pFmt, ↓pFmtS, ↓pFmtI, ↓pJs0, ↓pJs1, ↓pStrKD, ↓pVar, ↓pGet, ↓pC, ↓pOp, ↓pUn, ↓pCB, ↓pNil, ↓pCons, ↓pTest, ↓pBl, ↓pAndT, ↓pOrT, ↓pNotT, ↓pAndV, ↓pOrV, ↓pNotV, ↓pIfE, ↓pTup, ↓pLst, ↓pLstO, ↓pCall, ↓pMeth, ↓pFld, ↓pProp, ↓pMake, ↓pCv, ↓pSl, ↓pNo, ↓pSome, ↓pIntK, ↓pN, ↓pT, ↓pGC, ↓pGN, ↓pIf, ↓pRet, ↓pRetN, ↓pDrop, ↓pAsg, ↓pNx, ↓pBrk, ↓pCnt, ↓pNever, ↓pSub, ↓pAug, ↓pPar, ↓pParK, ↓pBM, ↓pFor, ↓pLc, ↓pLcO, ↓pYes, ↓piSeq, ↓piStr, ↓pStrK, ↓piRng1, ↓pRng1K, ↓piRng2, ↓pRng2K, ↓piEnum, ↓pEnumK, ↓piZip, ↓pZipL, ↓pZipT, ↓pFz, ↓pLenSet, ↓pIsT, ↓rIx_lst, ↓rIx_tup, ↓rIx_ref, ↓rIx_str, ↓rLen_str, ↓rLen_lst, ↓rLen_tup, ↓rLen_ref, ↓rIs_p, ↓rInt_int, ↓rInt_bl, ↓rStr_int, ↓rList_p, ↓rListO_p, ↓rTup_p, ↓rAdd_int, ↓rAdd_str, ↓rAdd_tup, ↓rAdd_lst, ↓rIntD_p, ↓rInt0_p, ↓rEq_int, ↓rEq_str, ↓rEq_bl, ↓rEq_lst, ↓rEq_tup, ↓rIsN_non, ↓rIsN_bl, ↓rIsN_int, ↓rIsN_str, ↓rIsN_tup, ↓rIsN_lst, ↓rNeg_p, ↓rSl_str, ↓rSl_tup, ↓rSl_lst, ↓rSl_scr, ↓rRep_p, ↓pOptK, ↓pChain, ↓piEnumA, ↓pEnumA_tup, ↓pEnumA_lst, ↓rInV_tup, ↓rInV_lst, ↓rSlN_p, ↓pSlN, ↓pTn, ↓pTnK, ↓pTM, ↓rTidx_p, ↓rLidx_p, ↓rGtL_p, ↓pStar, ↓pIfT, ↓pCallK, ↓pDzip, ↓pDzipK, ↓pDzipO, ↓pDzipKO, ↓rIsB_bl, ↓rDix_str, ↓rDix_int, ↓rIn_tup, ↓rIn_lst, ↓rEq_ns, ↓rEq_sn, ↓rRepT_p, ↓rAll_f, ↓rAll_t, ↓wSeq_p, ↓seqE_nx, ↓reduceIte, at_0, at_1, at_2, at_3, cut_1, cut_2, dl_0_0, dl_0_1, dl_0_2, dl_0_3, dl_0_4, dl_0_5, dl_1_0, dl_1_1, dl_1_2, dl_1_3, dl_1_4, dl_1_5, dl_2_0, dl_2_1, dl_2_2, dl_2_3, dl_2_4, dl_2_5, dl_3_0, dl_3_1, dl_3_2, dl_3_3, dl_3_4, dl_3_5, dl_4_0, dl_4_1, dl_4_2, dl_4_3, dl_4_4, dl_4_5, dn_1_0, dn_2_0, dn_2_1, dn_3_0, dn_3_1, dn_3_2, dn_4_0, dn_4_1, dn_4_2, dn_4_3, seqE_rt, seqE_bk, seqE_ct, seqE_ex, wipeD, frz_lst, frz_tup, at1_0, at2_0, at2_1, at3_0, at3_1, at3_2, at4_0, at4_1, at4_2, at4_3, at5_0, at5_1, at5_2, at5_3, at5_4, seqOf_put, seqOf_lst, seqOf_tup, insK_same, tyN_non, tyN_bl, tyN_int, tyN_str, tyN_tup, tyN_lst, tyN_dct, List.getElem?_cons_zero, List.getElem?_cons_succ, List.set_cons_zero, List.set_cons_succ, List.length_cons, List.length_nil, isB_NoneType_bool, isB_NoneType_int, isB_NoneType_str, isB_NoneType_tuple, isB_NoneType_list, isB_NoneType_dict, isB_bool_bool, isB_bool_int, isB_bool_str, isB_bool_tuple, isB_bool_list, isB_bool_dict, isB_int_bool, isB_int_int, isB_int_str, isB_int_tuple, isB_int_list, isB_int_dict, isB_str_bool, isB_str_int, isB_str_str, isB_str_tuple, isB_str_list, isB_str_dict, isB_tuple_bool, isB_tuple_int, isB_tuple_str, isB_tuple_tuple, isB_tuple_list, isB_tuple_dict, isB_list_bool, isB_list_int, isB_list_str, isB_list_tuple, isB_list_list, isB_list_dict, isB_dict_bool, isB_dict_int, isB_dict_str, isB_dict_tuple, isB_dict_list, isB_dict_dict, isC_bool, isC_int, isC_str, isC_tuple, isC_list, isC_dict, isA_list_tuple, isQ_NoneType, isQ_bool, isQ_int, isQ_str, isQ_tuple, isQ_list, isQ_dict, true_and, and_true, Bool.not_true, Bool.not_false, Bool.false_eq_true, Bool.true_xor, Bool.false_xor]
        refine ⟨T1, by omega, by simp, .tup hx, bad_tup hb0, x_shape A ?_⟩
        refine like_at A nc_shape rfl ?_
        simp only [isBl, Bool.not_true, Bool.false_eq_true, if_false]
        exact q _ rfl
      · have e : decide (((r.length + 1 + 1 + 1 : Nat) : Int) = 2) = false := decide_eq_false (by omega)
        simp only [↓pFau, ↓pFst, ↓pRaise, ↓pPar3, ↓pParK3, ↓rMulS_p, ↓pFmt, ↓pFmtS, ↓pFmtI, ↓pJs0, ↓pJs1, ↓pStrKD, ↓pVar, ↓pGet, ↓pC, ↓pOp, ↓pUn, ↓pCB, ↓pNil, ↓pCons, ↓pTest, ↓pBl, ↓pAndT, ↓pOrT, ↓pNotT, ↓pAndV, ↓pOrV, ↓pNotV, ↓pIfE, ↓pTup, ↓pLst, ↓pLstO, ↓pCall, ↓pMeth, ↓pFld, ↓pProp, ↓pMake, ↓pCv, ↓pSl, ↓pNo, ↓pSome, ↓pIntK, ↓pN, ↓pT, ↓pGC, ↓pGN, ↓pIf, ↓pRet, ↓pRetN, ↓pDrop, ↓pAsg, ↓pNx, ↓pBrk, ↓pCnt, ↓pNever, ↓pSub, ↓pAug, ↓pPar, ↓pParK, ↓pBM, ↓pFor, ↓pLc, ↓pLcO, ↓pYes, ↓piSeq, ↓piStr, ↓pStrK, ↓piRng1, ↓pRng1K, ↓piRng2, ↓pRng2K, ↓piEnum, ↓pEnumK, ↓piZip, ↓pZipL, ↓pZipT, ↓pFz, ↓pLenSet, ↓pIsT, ↓rIx_lst, ↓rIx_tup, ↓rIx_ref, ↓rIx_str, ↓rLen_str, ↓rLen_lst, ↓rLen_tup, ↓rLen_ref, ↓rIs_p, ↓rInt_int, ↓rInt_bl, ↓rStr_int, ↓rList_p, ↓rListO_p, ↓rTup_p, ↓rAdd_int, ↓rAdd_str, ↓rAdd_tup, ↓rAdd_lst, ↓rIntD_p, ↓rInt0_p, ↓rEq_int, ↓rEq_str, ↓rEq_bl, ↓rEq_lst, ↓rEq_tup, ↓rIsN_non, ↓rIsN_bl, ↓rIsN_int, ↓rIsN_str, ↓rIsN_tup, ↓rIsN_lst, ↓rNeg_p, ↓rSl_str, ↓rSl_tup, ↓rSl_lst, ↓rSl_scr, ↓rRep_p, ↓pOptK, ↓pChain, ↓piEnumA, ↓pEnumA_tup, ↓pEnumA_lst, ↓rInV_tup, ↓rInV_lst, ↓rSlN_p, ↓pSlN, ↓pTn, ↓pTnK, ↓pTM, ↓rTidx_p, ↓rLidx_p, ↓rGtL_p, ↓pStar, ↓pIfT, ↓pCallK, ↓pDzip, ↓pDzipK, ↓pDzipO, ↓pDzipKO, ↓rIsB_bl, ↓rDix_str, ↓rDix_int, ↓rIn_tup, ↓rIn_lst, ↓rEq_ns, ↓rEq_sn, ↓rRepT_p, ↓rAll_f, ↓rAll_t, ↓wSeq_p, ↓seqE_nx, ↓reduceIte, at_0, at_1, at_2, at_3, cut_1, cut_2, dl_0_0, dl_0_1, dl_0_2, dl_0_3, dl_0_4, dl_0_5, dl_1_0, dl_1_1, dl_1_2, dl_1_3, dl_1_4, dl_1_5, dl_2_0, dl_2_1, dl_2_2, dl_2_3, dl_2_4, dl_2_5, dl_3_0, dl_3_1, dl_3_2, dl_3_3, dl_3_4, dl_3_5, dl_4_0, dl_4_1, dl_4_2, dl_4_3, dl_4_4, dl_4_5, dn_1_0, dn_2_0, dn_2_1, dn_3_0, dn_3_1, dn_3_2, dn_4_0, dn_4_1, dn_4_2, dn_4_3, seqE_rt, seqE_bk, seqE_ct, seqE_ex, wipeD, frz_lst, frz_tup, at1_0, at2_0, at2_1, at3_0, at3_1, at3_2, at4_0, at4_1, at4_2, at4_3, at5_0, at5_1, at5_2, at5_3, at5_4, seqOf_put, seqOf_lst, seqOf_tup, insK_same, tyN_non, tyN_bl, tyN_int, tyN_str, tyN_tup, tyN_lst, tyN_dct, List.getElem?_cons_zero, List.getElem?_cons_succ, List.set_cons_zero, List.set_cons_succ, List.length_cons, List.length_nil, isB_NoneType_bool, isB_NoneType_int, isB_NoneType_str, isB_NoneType_tuple, isB_NoneType_list, isB_NoneType_dict, isB_bool_bool, isB_bool_int, isB_bool_str, isB_bool_tuple, isB_bool_list, isB_bool_dict, isB_int_bool, isB_int_int, isB_int_str, isB_int_tuple, isB_int_list, isB_int_dict, isB_str_bool, isB_str_int, isB_str_str, isB_str_tuple, isB_str_list, isB_str_dict, isB_tuple_bool, isB_tuple_int, isB_tuple_str, isB_tuple_tuple, isB_tuple_list, isB_tuple_dict, isB_list_bool, isB_list_int, isB_list_str, isB_list_tuple, isB_list_list, isB_list_dict, isB_dict_bool, isB_dict_int, isB_dict_str, isB_dict_tuple, isB_dict_list, isB_dict_dict, isC_bool, isC_int, isC_str, isC_tuple, isC_list, isC_dict, isA_list_tuple, isQ_NoneType, isQ_bool, isQ_int, isQ_str, isQ_tuple, isQ_list, isQ_dict, true_and, and_true, Bool.not_true, Bool.not_false, Bool.false_eq_true, Bool.true_xor, Bool.false_xor, List.length_cons, e]
        exact q _ rfl
    | _ =>
      simp only [↓pFau, ↓pFst, ↓pRaise, ↓pPar3, ↓pParK3, ↓rMulS_p, ↓pFmt, ↓pFmtS, ↓pFmtI, ↓pJs0, ↓pJs1, ↓pStrKD, ↓pVar, ↓pGet, ↓pC, ↓pOp, ↓pUn, ↓pCB, ↓pNil, ↓pCons, ↓pTest, ↓pBl, ↓pAndT, ↓pOrT, ↓pNotT, ↓pAndV, ↓pOrV, ↓pNotV, ↓pIfE, ↓pTup, ↓pLst, ↓pLstO, ↓pCall, ↓pMeth, ↓pFld, ↓pProp, ↓pMake, ↓pCv, ↓pSl, ↓pNo, ↓pSome, ↓pIntK, ↓pN, ↓pT, ↓pGC, ↓pGN, ↓pIf, ↓pRet, ↓pRetN, ↓pDrop, ↓pAsg, ↓pNx, ↓pBrk, ↓pCnt, ↓pNever, ↓pSub, ↓pAug, ↓pPar, ↓pParK, ↓pBM, ↓pFor, ↓pLc, ↓pLcO, ↓pYes, ↓piSeq, ↓piStr, ↓pStrK, ↓piRng1, ↓pRng1K, ↓piRng2, ↓pRng2K, ↓piEnum, ↓pEnumK, ↓piZip, ↓pZipL, ↓pZipT, ↓pFz, ↓pLenSet, ↓pIsT, ↓rIx_lst, ↓rIx_tup, ↓rIx_ref, ↓rIx_str, ↓rLen_str, ↓rLen_lst, ↓rLen_tup, ↓rLen_ref, ↓rIs_p, ↓rInt_int, ↓rInt_bl, ↓rStr_int, ↓rList_p, ↓rListO_p, ↓rTup_p, ↓rAdd_int, ↓rAdd_str, ↓rAdd_tup, ↓rAdd_lst, ↓rIntD_p, ↓rInt0_p, ↓rEq_int, ↓rEq_str, ↓rEq_bl, ↓rEq_lst, ↓rEq_tup, ↓rIsN_non, ↓rIsN_bl, ↓rIsN_int, ↓rIsN_str, ↓rIsN_tup, ↓rIsN_lst, ↓rNeg_p, ↓rSl_str, ↓rSl_tup, ↓rSl_lst, ↓rSl_scr, ↓rRep_p, ↓pOptK, ↓pChain, ↓piEnumA, ↓pEnumA_tup, ↓pEnumA_lst, ↓rInV_tup, ↓rInV_lst, ↓rSlN_p, ↓pSlN, ↓pTn, ↓pTnK, ↓pTM, ↓rTidx_p, ↓rLidx_p, ↓rGtL_p, ↓pStar, ↓pIfT, ↓pCallK, ↓pDzip, ↓pDzipK, ↓pDzipO, ↓pDzipKO, ↓rIsB_bl, ↓rDix_str, ↓rDix_int, ↓rIn_tup, ↓rIn_lst, ↓rEq_ns, ↓rEq_sn, ↓rRepT_p, ↓rAll_f, ↓rAll_t, ↓wSeq_p, ↓seqE_nx, ↓reduceIte, at_0, at_1, at_2, at_3, cut_1, cut_2, dl_0_0, dl_0_1, dl_0_2, dl_0_3, dl_0_4, dl_0_5, dl_1_0, dl_1_1, dl_1_2, dl_1_3, dl_1_4, dl_1_5, dl_2_0, dl_2_1, dl_2_2, dl_2_3, dl_2_4, dl_2_5, dl_3_0, dl_3_1, dl_3_2, dl_3_3, dl_3_4, dl_3_5, dl_4_0, dl_4_1, dl_4_2, dl_4_3, dl_4_4, dl_4_5, dn_1_0, dn_2_0, dn_2_1, dn_3_0, dn_3_1, dn_3_2, dn_4_0, dn_4_1, dn_4_2, dn_4_3, seqE_rt, seqE_bk, seqE_ct, seqE_ex, wipeD, frz_lst, frz_tup, at1_0, at2_0, at2_1, at3_0, at3_1, at3_2, at4_0, at4_1, at4_2, at4_3, at5_0, at5_1, at5_2, at5_3, at5_4, seqOf_put, seqOf_lst, seqOf_tup, insK_same, tyN_non, tyN_bl, tyN_int, tyN_str, tyN_tup, tyN_lst, tyN_dct, List.getElem?_cons_zero, List.getElem?_cons_succ, List.set_cons_zero, List.set_cons_succ, List.length_cons, List.length_nil, isB_NoneType_bool, isB_NoneType_int, isB_NoneType_str, isB_NoneType_tuple, isB_NoneType_list, isB_NoneType_dict, isB_bool_bool, isB_bool_int, isB_bool_str, isB_bool_tuple, isB_bool_list, isB_bool_dict, isB_int_bool, isB_int_int, isB_int_str, isB_int_tuple, isB_int_list, isB_int_dict, isB_str_bool, isB_str_int, isB_str_str, isB_str_tuple, isB_str_list, isB_str_dict, isB_tuple_bool, isB_tuple_int, isB_tuple_str, isB_tuple_tuple, isB_tuple_list, isB_tuple_dict, isB_list_bool, isB_list_int, isB_list_str, isB_list_tuple, isB_list_list, isB_list_dict, isB_dict_bool, isB_dict_int, isB_dict_str, isB_dict_tuple, isB_dict_list, isB_dict_dict, isC_bool, isC_int, isC_str, isC_tuple, isC_list, isC_dict, isA_list_tuple, isQ_NoneType, isQ_bool, isQ_int, isQ_str, isQ_tuple, isQ_list, isQ_dict, true_and, and_true, Bool.not_true, Bool.not_false, Bool.false_eq_true, Bool.true_xor, Bool.false_xor]
      exact q _ rfl
  simp only [sl, wb_law_c2, pTryF, pStat, ↓pFau, ↓pFst, ↓pRaise, ↓pPar3, ↓pParK3, ↓rMulS_p, ↓pFmt, ↓pFmtS, ↓pFmtI, ↓pJs0, ↓pJs1, ↓pStrKD, ↓pVar, ↓pGet, ↓pC, ↓pOp, ↓pUn, ↓pCB, ↓pNil, ↓pCons, ↓pTest, ↓pBl, ↓pAndT, ↓pOrT, ↓pNotT, ↓pAndV, ↓pOrV, ↓pNotV, ↓pIfE, ↓pTup, ↓pLst, ↓pLstO, ↓pCall, ↓pMeth, ↓pFld, ↓pProp, ↓pMake, ↓pCv, ↓pSl, ↓pNo, ↓pSome, ↓pIntK, ↓pN, ↓pT, ↓pGC, ↓pGN, ↓pIf, ↓pRet, ↓pRetN, ↓pDrop, ↓pAsg, ↓pNx, ↓pBrk, ↓pCnt, ↓pNever, ↓pSub, ↓pAug, ↓pPar, ↓pParK, ↓pBM, ↓pFor, ↓pLc, ↓pLcO, ↓pYes, ↓piSeq, ↓piStr, ↓pStrK, ↓piRng1, ↓pRng1K, ↓piRng2, ↓pRng2K, ↓piEnum, ↓pEnumK, ↓piZip, ↓pZipL, ↓pZipT, ↓pFz, ↓pLenSet, ↓pIsT, ↓rIx_lst, ↓rIx_tup, ↓rIx_ref, ↓rIx_str, ↓rLen_str, ↓rLen_lst, ↓rLen_tup, ↓rLen_ref, ↓rIs_p, ↓rInt_int, ↓rInt_bl, ↓rStr_int, ↓rList_p, ↓rListO_p, ↓rTup_p, ↓rAdd_int, ↓rAdd_str, ↓rAdd_tup, ↓rAdd_lst, ↓rIntD_p, ↓rInt0_p, ↓rEq_int, ↓rEq_str, ↓rEq_bl, ↓rEq_lst, ↓rEq_tup, ↓rIsN_non, ↓rIsN_bl, ↓rIsN_int, ↓rIsN_str, ↓rIsN_tup, ↓rIsN_lst, ↓rNeg_p, ↓rSl_str, ↓rSl_tup, ↓rSl_lst, ↓rSl_scr, ↓rRep_p, ↓pOptK, ↓pChain, ↓piEnumA, ↓pEnumA_tup, ↓pEnumA_lst, ↓rInV_tup, ↓rInV_lst, ↓rSlN_p, ↓pSlN, ↓pTn, ↓pTnK, ↓pTM, ↓rTidx_p, ↓rLidx_p, ↓rGtL_p, ↓pStar, ↓pIfT, ↓pCallK, ↓pDzip, ↓pDzipK, ↓pDzipO, ↓pDzipKO, ↓rIsB_bl, ↓rDix_str, ↓rDix_int, ↓rIn_tup, ↓rIn_lst, ↓rEq_ns, ↓rEq_sn, ↓rRepT_p, ↓rAll_f, ↓rAll_t, ↓wSeq_p, ↓seqE_nx, ↓reduceIte, at_0, at_1, at_2, at_3, cut_1, cut_2, dl_0_0, dl_0_1, dl_0_2, dl_0_3, dl_0_4, dl_0_5, dl_1_0, dl_1_1, dl_1_2, dl_1_3, dl_1_4, dl_1_5, dl_2_0, dl_2_1, dl_2_2, dl_2_3, dl_2_4, dl_2_5, dl_3_0, dl_3_1, dl_3_2, dl_3_3, dl_3_4, dl_3_5, dl_4_0, dl_4_1, dl_4_2, dl_4_3, dl_4_4, dl_4_5, dn_1_0, dn_2_0, dn_2_1, dn_3_0, dn_3_1, dn_3_2, dn_4_0, dn_4_1, dn_4_2, dn_4_3, seqE_rt, seqE_bk, seqE_ct, seqE_ex, wipeD, frz_lst, frz_tup, at1_0, at2_0, at2_1, at3_0, at3_1, at3_2, at4_0, at4_1, at4_2, at4_3, at5_0, at5_1, at5_2, at5_3, at5_4, seqOf_put, seqOf_lst, seqOf_tup, insK_same, tyN_non, tyN_bl, tyN_int, tyN_str, tyN_tup, tyN_lst, tyN_dct, List.getElem?_cons_zero, List.getElem?_cons_succ, List.set_cons_zero, List.set_cons_succ, List.length_cons, List.length_nil, isB_NoneType_bool, isB_NoneType_int, isB_NoneType_str, isB_NoneType_tuple, isB_NoneType_list, isB_NoneType_dict, isB_bool_bool, isB_bool_int, isB_bool_str, isB_bool_tuple, isB_bool_list, isB_bool_dict, isB_int_bool, isB_int_int, isB_int_str, isB_int_tuple, isB_int_list, isB_int_dict, isB_str_bool, isB_str_int, isB_str_str, isB_str_tuple, isB_str_list, isB_str_dict, isB_tuple_bool, isB_tuple_int, isB_tuple_str, isB_tuple_tuple, isB_tuple_list, isB_tuple_dict, isB_list_bool, isB_list_int, isB_list_str, isB_list_tuple, isB_list_list, isB_list_dict, isB_dict_bool, isB_dict_int, isB_dict_str, isB_dict_tuple, isB_dict_list, isB_dict_dict, isC_bool, isC_int, isC_str, isC_tuple, isC_list, isC_dict, isA_list_tuple, isQ_NoneType, isQ_bool, isQ_int, isQ_str, isQ_tuple, isQ_list, isQ_dict, true_and, and_true, Bool.not_true, Bool.not_false, Bool.false_eq_true, Bool.true_xor, Bool.false_xor]
  refine ⟨by omega, rfl, rfl, ?_⟩
  cases hw with
  | w0 h =>
    rw [if_pos i0]
    exact key 0 rfl h
  | w1 h1 h2 =>
    rw [if_neg i1]
    exact q _ rfl
  | w2 h =>
    rw [if_pos i2]
    exact key 0 rfl h
  | w3 h1 h2 h3 =>
    rw [if_neg i3]
    exact q _ rfl
theorem law_c1 (A : Ad) {b : Addr} {f s told : D} {w : Nat} {E : ED} {M N : Mem} {s0 x2 x3 : Option D} (hT : M A.lt = some (.tab lamq)) (hne : A.lt ≠ b) (hb : Bgd M b N) (hf : OkV f) (hw : Turn f s w)
    (ht : (w = 3 ∧ ∃ d, told = .tup [.str "value", d]) ∨ (w < 3 ∧ told = .tup [.str "InvalidShape", .tup [.int (dueI w)]]))
    (q : ∀ r : SD, r.length = 7 → E.nx (sl s0 b r) N) :
    wb_law_c1 A E (sl s0 b [x2, x3, some f, some s, some (.int (w : Int)), some (.tup [.str "InvalidShape", .tup [.int (dueI w)]]), some told]) N := by
  have big := sizeLine_big
  rcases ht with ⟨rfl, d, rfl⟩ | ⟨hw3, rfl⟩
  · simp only [sl, wb_law_c1, ↓pFau, ↓pFst, ↓pRaise, ↓pPar3, ↓pParK3, ↓rMulS_p, ↓pFmt, ↓pFmtS, ↓pFmtI, ↓pJs0, ↓pJs1, ↓pStrKD, ↓pVar, ↓pGet, ↓pC, ↓pOp, ↓pUn, ↓pCB, ↓pNil, ↓pCons, ↓pTest, ↓pBl, ↓pAndT, ↓pOrT, ↓pNotT, ↓pAndV, ↓pOrV, ↓pNotV, ↓pIfE, ↓pTup, ↓pLst, ↓pLstO, ↓pCall, ↓pMeth, ↓pFld, ↓pProp, ↓pMake, ↓pCv, ↓pSl, ↓pNo, ↓pSome, ↓pIntK, ↓pN, ↓pT, ↓pGC, ↓pGN, ↓pIf, ↓pRet, ↓pRetN, ↓pDrop, ↓pAsg, ↓pNx, ↓pBrk, ↓pCnt, ↓pNever, ↓pSub, ↓pAug, ↓pPar, ↓pParK, ↓pBM, ↓pFor, ↓pLc, ↓pLcO, ↓pYes, ↓piSeq, ↓piStr, ↓pStrK, ↓piRng1, ↓pRng1K, ↓piRng2, ↓pRng2K, ↓piEnum, ↓pEnumK, ↓piZip, ↓pZipL, ↓pZipT, ↓pFz, ↓pLenSet, ↓pIsT, ↓rIx_lst, ↓rIx_tup, ↓rIx_ref, ↓rIx_str, ↓rLen_str, ↓rLen_lst, ↓rLen_tup, ↓rLen_ref, ↓rIs_p, ↓rInt_int, ↓rInt_bl, ↓rStr_int, ↓rList_p, ↓rListO_p, ↓rTup_p, ↓rAdd_int, ↓rAdd_str, ↓rAdd_tup, ↓rAdd_lst, ↓rIntD_p, ↓rInt0_p, ↓rEq_int, ↓rEq_str, ↓rEq_bl, ↓rEq_lst, ↓rEq_tup, ↓rIsN_non, ↓rIsN_bl, ↓rIsN_int, ↓rIsN_str, ↓rIsN_tup, ↓rIsN_lst, ↓rNeg_p, ↓rSl_str, ↓rSl_tup, ↓rSl_lst, ↓rSl_scr, ↓rRep_p, ↓pOptK, ↓pChain, ↓piEnumA, ↓pEnumA_tup, ↓pEnumA_lst, ↓rInV_tup, ↓rInV_lst, ↓rSlN_p, ↓pSlN, ↓pTn, ↓pTnK, ↓pTM, ↓rTidx_p, ↓rLidx_p, ↓rGtL_p, ↓pStar, ↓pIfT, ↓pCallK, ↓pDzip, ↓pDzipK, ↓pDzipO, ↓pDzipKO, ↓rIsB_bl, ↓rDix_str, ↓rDix_int, ↓rIn_tup, ↓rIn_lst, ↓rEq_ns, ↓rEq_sn, ↓rRepT_p, ↓rAll_f, ↓rAll_t, ↓wSeq_p, ↓seqE_nx, ↓reduceIte, at_0, at_1, at_2, at_3, cut_1, cut_2, dl_0_0, dl_0_1, dl_0_2, dl_0_3, dl_0_4, dl_0_5, dl_1_0, dl_1_1, dl_1_2, dl_1_3, dl_1_4, dl_1_5, dl_2_0, dl_2_1, dl_2_2, dl_2_3, dl_2_4, dl_2_5, dl_3_0, dl_3_1, dl_3_2, dl_3_3, dl_3_4, dl_3_5, dl_4_0, dl_4_1, dl_4_2, dl_4_3, dl_4_4, dl_4_5, dn_1_0, dn_2_0, dn_2_1, dn_3_0, dn_3_1, dn_3_2, dn_4_0, dn_4_1, dn_4_2, dn_4_3, seqE_rt, seqE_bk, seqE_ct, seqE_ex, wipeD, frz_lst, frz_tup, at1_0, at2_0, at2_1, at3_0, at3_1, at3_2, at4_0, at4_1, at4_2, at4_3, at5_0, at5_1, at5_2, at5_3, at5_4, seqOf_put, seqOf_lst, seqOf_tup, insK_same, tyN_non, tyN_bl, tyN_int, tyN_str, tyN_tup, tyN_lst, tyN_dct, List.getElem?_cons_zero, List.getElem?_cons_succ, List.set_cons_zero, List.set_cons_succ, List.length_cons, List.length_nil, isB_NoneType_bool, isB_NoneType_int, isB_NoneType_str, isB_NoneType_tuple, isB_NoneType_list, isB_NoneType_dict, isB_bool_bool, isB_bool_int, isB_bool_str, isB_bool_tuple, isB_bool_list, isB_bool_dict, isB_int_bool, isB_int_int, isB_int_str, isB_int_tuple, isB_int_list, isB_int_dict, isB_str_bool, isB_str_int, isB_str_str, isB_str_tuple, isB_str_list, isB_str_dict, isB_tuple_bool, isB_tuple_int, isB_tuple_str, isB_tuple_tuple, isB_tuple_list, isB_tuple_dict, isB_list_bool, isB_list_int, isB_list_str, isB_list_tuple, isB_list_list, isB_list_dict, isB_dict_bool, isB_dict_int, isB_dict_str, isB_dict_tuple, isB_dict_list, isB_dict_dict, isC_bool, isC_int, isC_str, isC_tuple, isC_list, isC_dict, isA_list_tuple, isQ_NoneType, isQ_bool, isQ_int, isQ_str, isQ_tuple, isQ_list, isQ_dict, true_and, and_true, Bool.not_true, Bool.not_false, Bool.false_eq_true, Bool.true_xor, Bool.false_xor]
    rw [if_neg (by simp), if_neg (by decide)]
    exact law_c2 A hT hne hb hf hw q
  · have e1 : decide (("InvalidShape" : Str) = "value") = false := by decide +kernel
    have e2 : decide ((w : Int) = 3) = false := decide_eq_false (by omega)
    have e3 : decide ((w : Int) < 3) = true := decide_eq_true (by omega)
    simp only [sl, wb_law_c1, ↓pFau, ↓pFst, ↓pRaise, ↓pPar3, ↓pParK3, ↓rMulS_p, ↓pFmt, ↓pFmtS, ↓pFmtI, ↓pJs0, ↓pJs1, ↓pStrKD, ↓pVar, ↓pGet, ↓pC, ↓pOp, ↓pUn, ↓pCB, ↓pNil, ↓pCons, ↓pTest, ↓pBl, ↓pAndT, ↓pOrT, ↓pNotT, ↓pAndV, ↓pOrV, ↓pNotV, ↓pIfE, ↓pTup, ↓pLst, ↓pLstO, ↓pCall, ↓pMeth, ↓pFld, ↓pProp, ↓pMake, ↓pCv, ↓pSl, ↓pNo, ↓pSome, ↓pIntK, ↓pN, ↓pT, ↓pGC, ↓pGN, ↓pIf, ↓pRet, ↓pRetN, ↓pDrop, ↓pAsg, ↓pNx, ↓pBrk, ↓pCnt, ↓pNever, ↓pSub, ↓pAug, ↓pPar, ↓pParK, ↓pBM, ↓pFor, ↓pLc, ↓pLcO, ↓pYes, ↓piSeq, ↓piStr, ↓pStrK, ↓piRng1, ↓pRng1K, ↓piRng2, ↓pRng2K, ↓piEnum, ↓pEnumK, ↓piZip, ↓pZipL, ↓pZipT, ↓pFz, ↓pLenSet, ↓pIsT, ↓rIx_lst, ↓rIx_tup, ↓rIx_ref, ↓rIx_str, ↓rLen_str, ↓rLen_lst, ↓rLen_tup, ↓rLen_ref, ↓rIs_p, ↓rInt_int, ↓rInt_bl, ↓rStr_int, ↓rList_p, ↓rListO_p, ↓rTup_p, ↓rAdd_int, ↓rAdd_str, ↓rAdd_tup, ↓rAdd_lst, ↓rIntD_p, ↓rInt0_p, ↓rEq_int, ↓rEq_str, ↓rEq_bl, ↓rEq_lst, ↓rEq_tup, ↓rIsN_non, ↓rIsN_bl, ↓rIsN_int, ↓rIsN_str, ↓rIsN_tup, ↓rIsN_lst, ↓rNeg_p, ↓rSl_str, ↓rSl_tup, ↓rSl_lst, ↓rSl_scr, ↓rRep_p, ↓pOptK, ↓pChain, ↓piEnumA, ↓pEnumA_tup, ↓pEnumA_lst, ↓rInV_tup, ↓rInV_lst, ↓rSlN_p, ↓pSlN, ↓pTn, ↓pTnK, ↓pTM, ↓rTidx_p, ↓rLidx_p, ↓rGtL_p, ↓pStar, ↓pIfT, ↓pCallK, ↓pDzip, ↓pDzipK, ↓pDzipO, ↓pDzipKO, ↓rIsB_bl, ↓rDix_str, ↓rDix_int, ↓rIn_tup, ↓rIn_lst, ↓rEq_ns, ↓rEq_sn, ↓rRepT_p, ↓rAll_f, ↓rAll_t, ↓wSeq_p, ↓seqE_nx, ↓reduceIte, at_0, at_1, at_2, at_3, cut_1, cut_2, dl_0_0, dl_0_1, dl_0_2, dl_0_3, dl_0_4, dl_0_5, dl_1_0, dl_1_1, dl_1_2, dl_1_3, dl_1_4, dl_1_5, dl_2_0, dl_2_1, dl_2_2, dl_2_3, dl_2_4, dl_2_5, dl_3_0, dl_3_1, dl_3_2, dl_3_3, dl_3_4, dl_3_5, dl_4_0, dl_4_1, dl_4_2, dl_4_3, dl_4_4, dl_4_5, dn_1_0, dn_2_0, dn_2_1, dn_3_0, dn_3_1, dn_3_2, dn_4_0, dn_4_1, dn_4_2, dn_4_3, seqE_rt, seqE_bk, seqE_ct, seqE_ex, wipeD, frz_lst, frz_tup, at1_0, at2_0, at2_1, at3_0, at3_1, at3_2, at4_0, at4_1, at4_2, at4_3, at5_0, at5_1, at5_2, at5_3, at5_4, seqOf_put, seqOf_lst, seqOf_tup, insK_same, tyN_non, tyN_bl, tyN_int, tyN_str, tyN_tup, tyN_lst, tyN_dct, List.getElem?_cons_zero, List.getElem?_cons_succ, List.set_cons_zero, List.set_cons_succ, List.length_cons, List.length_nil, isB_NoneType_bool, isB_NoneType_int, isB_NoneType_str, isB_NoneType_tuple, isB_NoneType_list, isB_NoneType_dict, isB_bool_bool, isB_bool_int, isB_bool_str, isB_bool_tuple, isB_bool_list, isB_bool_dict, isB_int_bool, isB_int_int, isB_int_str, isB_int_tuple, isB_int_list, isB_int_dict, isB_str_bool, isB_str_int, isB_str_str, isB_str_tuple, isB_str_list, isB_str_dict, isB_tuple_bool, isB_tuple_int, isB_tuple_str, isB_tuple_tuple, isB_tuple_list, isB_tuple_dict, isB_list_bool, isB_list_int, isB_list_str, isB_list_tuple, isB_list_list, isB_list_dict, isB_dict_bool, isB_dict_int, isB_dict_str, isB_dict_tuple, isB_dict_list, isB_dict_dict, isC_bool, isC_int, isC_str, isC_tuple, isC_list, isC_dict, isA_list_tuple, isQ_NoneType, isQ_bool, isQ_int, isQ_str, isQ_tuple, isQ_list, isQ_dict, true_and, and_true, Bool.not_true, Bool.not_false, Bool.false_eq_true, Bool.true_xor, Bool.false_xor]
    rw [e1, e2, e3, if_neg (by decide), if_pos rfl]
    refine like_at A nc_shape rfl ?_
    simp only [isBl, Bool.not_true, Bool.false_eq_true, if_false]
    exact law_c2 A hT hne hb hf hw q
theorem law_c0 (A : Ad) {b : Addr} {f s : D} {w : Nat} {E : ED} {M N : Mem} {s0 x2 x3 x7 x8 : Option D} (hT : M A.lt = some (.tab lamq)) (hne : A.lt ≠ b) (hb : Bgd M b N) (hf : OkV f) (hs : OkV s) (hw : Turn f s w)
    (q : ∀ r : SD, r.length = 7 → E.nx (sl s0 b r) N) :
    wb_law_c0 A E (sl s0 b [x2, x3, some f, some s, some (.int (w : Int)), x7, x8]) N := by
  have big := sizeLine_big
  have T1 := tab_at hT hne hb
  have hw' := hw
  simp only [sl, wb_law_c0, pTryF, ↓pFau, ↓pFst, ↓pRaise, ↓pPar3, ↓pParK3, ↓rMulS_p, ↓pFmt, ↓pFmtS, ↓pFmtI, ↓pJs0, ↓pJs1, ↓pStrKD, ↓pVar, ↓pGet, ↓pC, ↓pOp, ↓pUn, ↓pCB, ↓pNil, ↓pCons, ↓pTest, ↓pBl, ↓pAndT, ↓pOrT, ↓pNotT, ↓pAndV, ↓pOrV, ↓pNotV, ↓pIfE, ↓pTup, ↓pLst, ↓pLstO, ↓pCall, ↓pMeth, ↓pFld, ↓pProp, ↓pMake, ↓pCv, ↓pSl, ↓pNo, ↓pSome, ↓pIntK, ↓pN, ↓pT, ↓pGC, ↓pGN, ↓pIf, ↓pRet, ↓pRetN, ↓pDrop, ↓pAsg, ↓pNx, ↓pBrk, ↓pCnt, ↓pNever, ↓pSub, ↓pAug, ↓pPar, ↓pParK, ↓pBM, ↓pFor, ↓pLc, ↓pLcO, ↓pYes, ↓piSeq, ↓piStr, ↓pStrK, ↓piRng1, ↓pRng1K, ↓piRng2, ↓pRng2K, ↓piEnum, ↓pEnumK, ↓piZip, ↓pZipL, ↓pZipT, ↓pFz, ↓pLenSet, ↓pIsT, ↓rIx_lst, ↓rIx_tup, ↓rIx_ref, ↓rIx_str, ↓rLen_str, ↓rLen_lst, ↓rLen_tup, ↓rLen_ref, ↓rIs_p, ↓rInt_int, ↓rInt_bl, ↓rStr_int, ↓rList_p, ↓rListO_p, ↓rTup_p, ↓rAdd_int, ↓rAdd_str, ↓rAdd_tup, ↓rAdd_lst, ↓rIntD_p, ↓rInt0_p, ↓rEq_int, ↓rEq_str, ↓rEq_bl, ↓rEq_lst, ↓rEq_tup, ↓rIsN_non, ↓rIsN_bl, ↓rIsN_int, ↓rIsN_str, ↓rIsN_tup, ↓rIsN_lst, ↓rNeg_p, ↓rSl_str, ↓rSl_tup, ↓rSl_lst, ↓rSl_scr, ↓rRep_p, ↓pOptK, ↓pChain, ↓piEnumA, ↓pEnumA_tup, ↓pEnumA_lst, ↓rInV_tup, ↓rInV_lst, ↓rSlN_p, ↓pSlN, ↓pTn, ↓pTnK, ↓pTM, ↓rTidx_p, ↓rLidx_p, ↓rGtL_p, ↓pStar, ↓pIfT, ↓pCallK, ↓pDzip, ↓pDzipK, ↓pDzipO, ↓pDzipKO, ↓rIsB_bl, ↓rDix_str, ↓rDix_int, ↓rIn_tup, ↓rIn_lst, ↓rEq_ns, ↓rEq_sn, ↓rRepT_p, ↓rAll_f, ↓rAll_t, ↓wSeq_p, ↓seqE_nx, ↓reduceIte, at_0, at_1, at_2, at_3, cut_1, cut_2, dl_0_0, dl_0_1, dl_0_2, dl_0_3, dl_0_4, dl_0_5, dl_1_0, dl_1_1, dl_1_2, dl_1_3, dl_1_4, dl_1_5, dl_2_0, dl_2_1, dl_2_2, dl_2_3, dl_2_4, dl_2_5, dl_3_0, dl_3_1, dl_3_2, dl_3_3, dl_3_4, dl_3_5, dl_4_0, dl_4_1, dl_4_2, dl_4_3, dl_4_4, dl_4_5, dn_1_0, dn_2_0, dn_2_1, dn_3_0, dn_3_1, dn_3_2, dn_4_0, dn_4_1, dn_4_2, dn_4_3, seqE_rt, seqE_bk, seqE_ct, seqE_ex, wipeD, frz_lst, frz_tup, at1_0, at2_0, at2_1, at3_0, at3_1, at3_2, at4_0, at4_1, at4_2, at4_3, at5_0, at5_1, at5_2, at5_3, at5_4, seqOf_put, seqOf_lst, seqOf_tup, insK_same, tyN_non, tyN_bl, tyN_int, tyN_str, tyN_tup, tyN_lst, tyN_dct, List.getElem?_cons_zero, List.getElem?_cons_succ, List.set_cons_zero, List.set_cons_succ, List.length_cons, List.length_nil, isB_NoneType_bool, isB_NoneType_int, isB_NoneType_str, isB_NoneType_tuple, isB_NoneType_list, isB_NoneType_dict, isB_bool_bool, isB_bool_int, isB_bool_str, isB_bool_tuple, isB_bool_list, isB_bool_dict, isB_int_bool, isB_int_int, isB_int_str, isB_int_tuple, isB_int_list, isB_int_dict, isB_str_bool, isB_str_int, isB_str_str, isB_str_tuple, isB_str_list, isB_str_dict, isB_tuple_bool, isB_tuple_int, isB_tuple_str, isB_tuple_tuple, isB_tuple_list, isB_tuple_dict, isB_list_bool, isB_list_int, isB_list_str, isB_list_tuple, isB_list_list, isB_list_dict, isB_dict_bool, isB_dict_int, isB_dict_str, isB_dict_tuple, isB_dict_list, isB_dict_dict, isC_bool, isC_int, isC_str, isC_tuple, isC_list, isC_dict, isA_list_tuple, isQ_NoneType, isQ_bool, isQ_int, isQ_str, isQ_tuple, isQ_list, isQ_dict, true_and, and_true, Bool.not_true, Bool.not_false, Bool.false_eq_true, Bool.true_xor, Bool.false_xor]
  refine ⟨by omega, rfl, rfl, ?_⟩
  cases hw with
  | w0 h =>
    rw [if_pos i0]
    exact ⟨by omega, by omega, T1, fun a ha => ⟨a, f, s, rfl, mput_same, hf, hs, .inl ⟨h, x_shapeG A ha (law_c1 A hT hne hb hf hw' (.inr ⟨by decide, rfl⟩) q)⟩⟩⟩
  | w1 h1 h2 =>
    rw [if_neg i1]
    exact ⟨by omega, by omega, T1, fun a ha => ⟨a, f, s, rfl, mput_same, hf, hs, .inr ⟨_, h1, .inl ⟨h2, x_shapeG A ha (law_c1 A hT hne hb hf hw' (.inr ⟨by decide, rfl⟩) q)⟩⟩⟩⟩
  | w2 h =>
    rw [if_pos i2]
    exact ⟨by omega, by omega, T1, fun a ha => ⟨a, f, s, rfl, mput_same, hf, hs, .inl ⟨h, x_shapeG A ha (law_c1 A hT hne hb hf hw' (.inr ⟨by decide, rfl⟩) q)⟩⟩⟩
  | w3 h1 h2 h3 =>
    rw [if_neg i3]
    refine ⟨by omega, by omega, T1, fun a ha => ⟨a, f, s, rfl, mput_same, hf, hs, .inr ⟨_, h1, .inr ⟨_, h2, h3, rfl, ?_⟩⟩⟩⟩
    rw [mput_mput]
    exact fin_ins mput_same (M' := N) ha (sub_put ha) (fin_of (law_c1 A hT hne hb hf hw' (.inl ⟨rfl, _, rfl⟩) q))
theorem ok_names {zs : List Str} (h : NamesOk zs) : OkV (.lst (zs.map D.str)) := .lst fun y hy => by
  obtain ⟨z, hz, rfl⟩ := List.mem_map.mp hy
  have := (made_len (h.ok z hz)).2.1
  exact ⟨rfl, by show z.length < 90000; omega⟩
theorem l6 : lnames [.str "a", .str "b", .str "c", .str "d", .str "e", .str "f"] = false := by
  unfold lnames
  rw [decide_eq_false (by simp : ¬ ([.str "a", .str "b", .str "c", .str "d", .str "e", .str "f"] : List D).length ≤ 5), Bool.false_and, Bool.and_false]
theorem l2 : lnames [.str "a", .str "a"] = false := by
  cases e : lnames [.str "a", .str "a"] with
  | false => rfl
  | true =>
    obtain ⟨zs, hz, hn⟩ := lnames_of e
    have nd := hn.nd
    rw [← (List.map_inj_right (fun a b h => by cases h; rfl)).mp (show ([("a" : Str), ("a" : Str)]).map D.str = zs.map D.str from hz)] at nd
    simp at nd
theorem rd_law (A : Ad) : ∀ ds M Q Xc, sp_law A ds M Q Xc → ds.length = P_law.length ∧ RD (wb_law A) Q Xc (startD N_law ds) M := by
  rintro _ M Q Xc ⟨ns, d0, rfl, hd, hT, q⟩
  have hT : M A.lt = some (.tab lamq) := hT _ List.mem_cons_self
  refine ⟨rfl, ?_⟩
  rw [st_law]
  have big := sizeLine_big
  simp only [RD, wb_law, ↓pFau, ↓pFst, ↓pRaise, ↓pPar3, ↓pParK3, ↓rMulS_p, ↓pFmt, ↓pFmtS, ↓pFmtI, ↓pJs0, ↓pJs1, ↓pStrKD, ↓pVar, ↓pGet, ↓pC, ↓pOp, ↓pUn, ↓pCB, ↓pNil, ↓pCons, ↓pTest, ↓pBl, ↓pAndT, ↓pOrT, ↓pNotT, ↓pAndV, ↓pOrV, ↓pNotV, ↓pIfE, ↓pTup, ↓pLst, ↓pLstO, ↓pCall, ↓pMeth, ↓pFld, ↓pProp, ↓pMake, ↓pCv, ↓pSl, ↓pNo, ↓pSome, ↓pIntK, ↓pN, ↓pT, ↓pGC, ↓pGN, ↓pIf, ↓pRet, ↓pRetN, ↓pDrop, ↓pAsg, ↓pNx, ↓pBrk, ↓pCnt, ↓pNever, ↓pSub, ↓pAug, ↓pPar, ↓pParK, ↓pBM, ↓pFor, ↓pLc, ↓pLcO, ↓pYes, ↓piSeq, ↓piStr, ↓pStrK, ↓piRng1, ↓pRng1K, ↓piRng2, ↓pRng2K, ↓piEnum, ↓pEnumK, ↓piZip, ↓pZipL, ↓pZipT, ↓pFz, ↓pLenSet, ↓pIsT, ↓rIx_lst, ↓rIx_tup, ↓rIx_ref, ↓rIx_str, ↓rLen_str, ↓rLen_lst, ↓rLen_tup, ↓rLen_ref, ↓rIs_p, ↓rInt_int, ↓rInt_bl, ↓rStr_int, ↓rList_p, ↓rListO_p, ↓rTup_p, ↓rAdd_int, ↓rAdd_str, ↓rAdd_tup, ↓rAdd_lst, ↓rIntD_p, ↓rInt0_p, ↓rEq_int, ↓rEq_str, ↓rEq_bl, ↓rEq_lst, ↓rEq_tup, ↓rIsN_non, ↓rIsN_bl, ↓rIsN_int, ↓rIsN_str, ↓rIsN_tup, ↓rIsN_lst, ↓rNeg_p, ↓rSl_str, ↓rSl_tup, ↓rSl_lst, ↓rSl_scr, ↓rRep_p, ↓pOptK, ↓pChain, ↓piEnumA, ↓pEnumA_tup, ↓pEnumA_lst, ↓rInV_tup, ↓rInV_lst, ↓rSlN_p, ↓pSlN, ↓pTn, ↓pTnK, ↓pTM, ↓rTidx_p, ↓rLidx_p, ↓rGtL_p, ↓pStar, ↓pIfT, ↓pCallK, ↓pDzip, ↓pDzipK, ↓pDzipO, ↓pDzipKO, ↓rIsB_bl, ↓rDix_str, ↓rDix_int, ↓rIn_tup, ↓rIn_lst, ↓rEq_ns, ↓rEq_sn, ↓rRepT_p, ↓rAll_f, ↓rAll_t, ↓wSeq_p, ↓seqE_nx, ↓reduceIte, at_0, at_1, at_2, at_3, cut_1, cut_2, dl_0_0, dl_0_1, dl_0_2, dl_0_3, dl_0_4, dl_0_5, dl_1_0, dl_1_1, dl_1_2, dl_1_3, dl_1_4, dl_1_5, dl_2_0, dl_2_1, dl_2_2, dl_2_3, dl_2_4, dl_2_5, dl_3_0, dl_3_1, dl_3_2, dl_3_3, dl_3_4, dl_3_5, dl_4_0, dl_4_1, dl_4_2, dl_4_3, dl_4_4, dl_4_5, dn_1_0, dn_2_0, dn_2_1, dn_3_0, dn_3_1, dn_3_2, dn_4_0, dn_4_1, dn_4_2, dn_4_3, seqE_rt, seqE_bk, seqE_ct, seqE_ex, wipeD, frz_lst, frz_tup, at1_0, at2_0, at2_1, at3_0, at3_1, at3_2, at4_0, at4_1, at4_2, at4_3, at5_0, at5_1, at5_2, at5_3, at5_4, seqOf_put, seqOf_lst, seqOf_tup, insK_same, tyN_non, tyN_bl, tyN_int, tyN_str, tyN_tup, tyN_lst, tyN_dct, List.getElem?_cons_zero, List.getElem?_cons_succ, List.set_cons_zero, List.set_cons_succ, List.length_cons, List.length_nil, isB_NoneType_bool, isB_NoneType_int, isB_NoneType_str, isB_NoneType_tuple, isB_NoneType_list, isB_NoneType_dict, isB_bool_bool, isB_bool_int, isB_bool_str, isB_bool_tuple, isB_bool_list, isB_bool_dict, isB_int_bool, isB_int_int, isB_int_str, isB_int_tuple, isB_int_list, isB_int_dict, isB_str_bool, isB_str_int, isB_str_str, isB_str_tuple, isB_str_list, isB_str_dict, isB_tuple_bool, isB_tuple_int, isB_tuple_str, isB_tuple_tuple, isB_tuple_list, isB_tuple_dict, isB_list_bool, isB_list_int, isB_list_str, isB_list_tuple, isB_list_list, isB_list_dict, isB_dict_bool, isB_dict_int, isB_dict_str, isB_dict_tuple, isB_dict_list, isB_dict_dict, isC_bool, isC_int, isC_str, isC_tuple, isC_list, isC_dict, isA_list_tuple, isQ_NoneType, isQ_bool, isQ_int, isQ_str, isQ_tuple, isQ_list, isQ_dict, true_and, and_true, Bool.not_true, Bool.not_false, Bool.false_eq_true, Bool.true_xor, Bool.false_xor]
  refine ⟨ns, d0, rfl, hd, fun b o hb hg => ?_⟩
  have hne : A.lt ≠ b := fun e => by rw [← e, hT] at hb; cases hb
  have hT' : mput M b o A.lt = some (.tab lamq) := by rw [mput_ne hne]; exact hT
  refine ⟨⟨by omega, by omega⟩, forR_ind (fun its ds N' => ∃ r : SD, r.length = 7 ∧ ds = sl (some d0) b r ∧ Bgd (mput M b o) b N') ?_ ?_ _ _ _ ⟨List.replicate 7 none, rfl, rfl, bgd_rfl mput_same hg⟩⟩
  · rintro ds N' ⟨r, hl, rfl, hN⟩
    have T1 := tab_at hT' hne hN
    obtain ⟨o3, g3, rfl⟩ := hN
    rw [seqE_nx]
    simp only [sl, pTryF, pStat, ↓pFau, ↓pFst, ↓pRaise, ↓pPar3, ↓pParK3, ↓rMulS_p, ↓pFmt, ↓pFmtS, ↓pFmtI, ↓pJs0, ↓pJs1, ↓pStrKD, ↓pVar, ↓pGet, ↓pC, ↓pOp, ↓pUn, ↓pCB, ↓pNil, ↓pCons, ↓pTest, ↓pBl, ↓pAndT, ↓pOrT, ↓pNotT, ↓pAndV, ↓pOrV, ↓pNotV, ↓pIfE, ↓pTup, ↓pLst, ↓pLstO, ↓pCall, ↓pMeth, ↓pFld, ↓pProp, ↓pMake, ↓pCv, ↓pSl, ↓pNo, ↓pSome, ↓pIntK, ↓pN, ↓pT, ↓pGC, ↓pGN, ↓pIf, ↓pRet, ↓pRetN, ↓pDrop, ↓pAsg, ↓pNx, ↓pBrk, ↓pCnt, ↓pNever, ↓pSub, ↓pAug, ↓pPar, ↓pParK, ↓pBM, ↓pFor, ↓pLc, ↓pLcO, ↓pYes, ↓piSeq, ↓piStr, ↓pStrK, ↓piRng1, ↓pRng1K, ↓piRng2, ↓pRng2K, ↓piEnum, ↓pEnumK, ↓piZip, ↓pZipL, ↓pZipT, ↓pFz, ↓pLenSet, ↓pIsT, ↓rIx_lst, ↓rIx_tup, ↓rIx_ref, ↓rIx_str, ↓rLen_str, ↓rLen_lst, ↓rLen_tup, ↓rLen_ref, ↓rIs_p, ↓rInt_int, ↓rInt_bl, ↓rStr_int, ↓rList_p, ↓rListO_p, ↓rTup_p, ↓rAdd_int, ↓rAdd_str, ↓rAdd_tup, ↓rAdd_lst, ↓rIntD_p, ↓rInt0_p, ↓rEq_int, ↓rEq_str, ↓rEq_bl, ↓rEq_lst, ↓rEq_tup, ↓rIsN_non, ↓rIsN_bl, ↓rIsN_int, ↓rIsN_str, ↓rIsN_tup, ↓rIsN_lst, ↓rNeg_p, ↓rSl_str, ↓rSl_tup, ↓rSl_lst, ↓rSl_scr, ↓rRep_p, ↓pOptK, ↓pChain, ↓piEnumA, ↓pEnumA_tup, ↓pEnumA_lst, ↓rInV_tup, ↓rInV_lst, ↓rSlN_p, ↓pSlN, ↓pTn, ↓pTnK, ↓pTM, ↓rTidx_p, ↓rLidx_p, ↓rGtL_p, ↓pStar, ↓pIfT, ↓pCallK, ↓pDzip, ↓pDzipK, ↓pDzipO, ↓pDzipKO, ↓rIsB_bl, ↓rDix_str, ↓rDix_int, ↓rIn_tup, ↓rIn_lst, ↓rEq_ns, ↓rEq_sn, ↓rRepT_p, ↓rAll_f, ↓rAll_t, ↓wSeq_p, ↓seqE_nx, ↓reduceIte, at_0, at_1, at_2, at_3, cut_1, cut_2, dl_0_0, dl_0_1, dl_0_2, dl_0_3, dl_0_4, dl_0_5, dl_1_0, dl_1_1, dl_1_2, dl_1_3, dl_1_4, dl_1_5, dl_2_0, dl_2_1, dl_2_2, dl_2_3, dl_2_4, dl_2_5, dl_3_0, dl_3_1, dl_3_2, dl_3_3, dl_3_4, dl_3_5, dl_4_0, dl_4_1, dl_4_2, dl_4_3, dl_4_4, dl_4_5, dn_1_0, dn_2_0, dn_2_1, dn_3_0, dn_3_1, dn_3_2, dn_4_0, dn_4_1, dn_4_2, dn_4_3, seqE_rt, seqE_bk, seqE_ct, seqE_ex, wipeD, frz_lst, frz_tup, at1_0, at2_0, at2_1, at3_0, at3_1, at3_2, at4_0, at4_1, at4_2, at4_3, at5_0, at5_1, at5_2, at5_3, at5_4, seqOf_put, seqOf_lst, seqOf_tup, insK_same, tyN_non, tyN_bl, tyN_int, tyN_str, tyN_tup, tyN_lst, tyN_dct, List.getElem?_cons_zero, List.getElem?_cons_succ, List.set_cons_zero, List.set_cons_succ, List.length_cons, List.length_nil, isB_NoneType_bool, isB_NoneType_int, isB_NoneType_str, isB_NoneType_tuple, isB_NoneType_list, isB_NoneType_dict, isB_bool_bool, isB_bool_int, isB_bool_str, isB_bool_tuple, isB_bool_list, isB_bool_dict, isB_int_bool, isB_int_int, isB_int_str, isB_int_tuple, isB_int_list, isB_int_dict, isB_str_bool, isB_str_int, isB_str_str, isB_str_tuple, isB_str_list, isB_str_dict, isB_tuple_bool, isB_tuple_int, isB_tuple_str, isB_tuple_tuple, isB_tuple_list, isB_tuple_dict, isB_list_bool, isB_list_int, isB_list_str, isB_list_tuple, isB_list_list, isB_list_dict, isB_dict_bool, isB_dict_int, isB_dict_str, isB_dict_tuple, isB_dict_list, isB_dict_dict, isC_bool, isC_int, isC_str, isC_tuple, isC_list, isC_dict, isA_list_tuple, isQ_NoneType, isQ_bool, isQ_int, isQ_str, isQ_tuple, isQ_list, isQ_dict, true_and, and_true, Bool.not_true, Bool.not_false, Bool.false_eq_true, Bool.true_xor, Bool.false_xor]
    have sg : ∀ y : Str, y.length < 90000 → pl (.str y) = true ∧ short (.str y) := fun y h => ⟨rfl, h⟩
    have sa := sg "a" (by decide +kernel)
    refine ⟨T1, by omega, by simp, .tup nofun, .inl rfl, x_shape A ?_⟩
    refine ⟨by omega, by omega, like_at A nc_shape rfl ?_⟩
    simp only [isBl, if_true]
    refine ⟨T1, by omega, by simp, .tup ?_, .inl l6, x_shape A ?_⟩
    · intro y hy
      simp only [List.mem_cons, List.not_mem_nil, or_false] at hy
      rcases hy with rfl | rfl | rfl | rfl | rfl | rfl
      · exact sa
      · exact sg _ (by decide +kernel)
      · exact sg _ (by decide +kernel)
      · exact sg _ (by decide +kernel)
      · exact sg _ (by decide +kernel)
      · exact sg _ (by decide +kernel)
    refine ⟨by omega, by omega, like_at A nc_shape rfl ?_⟩
    simp only [isBl, if_true]
    refine ⟨T1, by omega, by simp, .tup ?_, .inl l2, x_shape A ?_⟩
    · intro y hy
      simp only [List.mem_cons, List.not_mem_nil, or_false, or_self] at hy
      rw [hy]
      exact sa
    refine ⟨by omega, by omega, like_at A nc_shape rfl ?_⟩
    refine fin_dn (M' := M) (fun c u hc => ?_) q
    have e : c ≠ b := fun e => by subst e; rw [hb] at hc; cases hc
    rw [mput_ne e, mput_ne e]
    exact hc
  · rintro d its ds N' R hR ⟨r, hl, rfl, hN⟩
    rcases r with _ | ⟨x2, _ | ⟨x3, _ | ⟨x4, _ | ⟨x5, _ | ⟨x6, _ | ⟨x7, _ | ⟨x8, _ | ⟨z, r⟩⟩⟩⟩⟩⟩⟩⟩ <;> try (simp only [List.length_cons, List.length_nil] at hl; omega)
    obtain ⟨o3, e3, g3⟩ := bgd_at hN
    simp only [sl, ↓pFau, ↓pFst, ↓pRaise, ↓pPar3, ↓pParK3, ↓rMulS_p, ↓pFmt, ↓pFmtS, ↓pFmtI, ↓pJs0, ↓pJs1, ↓pStrKD, ↓pVar, ↓pGet, ↓pC, ↓pOp, ↓pUn, ↓pCB, ↓pNil, ↓pCons, ↓pTest, ↓pBl, ↓pAndT, ↓pOrT, ↓pNotT, ↓pAndV, ↓pOrV, ↓pNotV, ↓pIfE, ↓pTup, ↓pLst, ↓pLstO, ↓pCall, ↓pMeth, ↓pFld, ↓pProp, ↓pMake, ↓pCv, ↓pSl, ↓pNo, ↓pSome, ↓pIntK, ↓pN, ↓pT, ↓pGC, ↓pGN, ↓pIf, ↓pRet, ↓pRetN, ↓pDrop, ↓pAsg, ↓pNx, ↓pBrk, ↓pCnt, ↓pNever, ↓pSub, ↓pAug, ↓pPar, ↓pParK, ↓pBM, ↓pFor, ↓pLc, ↓pLcO, ↓pYes, ↓piSeq, ↓piStr, ↓pStrK, ↓piRng1, ↓pRng1K, ↓piRng2, ↓pRng2K, ↓piEnum, ↓pEnumK, ↓piZip, ↓pZipL, ↓pZipT, ↓pFz, ↓pLenSet, ↓pIsT, ↓rIx_lst, ↓rIx_tup, ↓rIx_ref, ↓rIx_str, ↓rLen_str, ↓rLen_lst, ↓rLen_tup, ↓rLen_ref, ↓rIs_p, ↓rInt_int, ↓rInt_bl, ↓rStr_int, ↓rList_p, ↓rListO_p, ↓rTup_p, ↓rAdd_int, ↓rAdd_str, ↓rAdd_tup, ↓rAdd_lst, ↓rIntD_p, ↓rInt0_p, ↓rEq_int, ↓rEq_str, ↓rEq_bl, ↓rEq_lst, ↓rEq_tup, ↓rIsN_non, ↓rIsN_bl, ↓rIsN_int, ↓rIsN_str, ↓rIsN_tup, ↓rIsN_lst, ↓rNeg_p, ↓rSl_str, ↓rSl_tup, ↓rSl_lst, ↓rSl_scr, ↓rRep_p, ↓pOptK, ↓pChain, ↓piEnumA, ↓pEnumA_tup, ↓pEnumA_lst, ↓rInV_tup, ↓rInV_lst, ↓rSlN_p, ↓pSlN, ↓pTn, ↓pTnK, ↓pTM, ↓rTidx_p, ↓rLidx_p, ↓rGtL_p, ↓pStar, ↓pIfT, ↓pCallK, ↓pDzip, ↓pDzipK, ↓pDzipO, ↓pDzipKO, ↓rIsB_bl, ↓rDix_str, ↓rDix_int, ↓rIn_tup, ↓rIn_lst, ↓rEq_ns, ↓rEq_sn, ↓rRepT_p, ↓rAll_f, ↓rAll_t, ↓wSeq_p, ↓seqE_nx, ↓reduceIte, at_0, at_1, at_2, at_3, cut_1, cut_2, dl_0_0, dl_0_1, dl_0_2, dl_0_3, dl_0_4, dl_0_5, dl_1_0, dl_1_1, dl_1_2, dl_1_3, dl_1_4, dl_1_5, dl_2_0, dl_2_1, dl_2_2, dl_2_3, dl_2_4, dl_2_5, dl_3_0, dl_3_1, dl_3_2, dl_3_3, dl_3_4, dl_3_5, dl_4_0, dl_4_1, dl_4_2, dl_4_3, dl_4_4, dl_4_5, dn_1_0, dn_2_0, dn_2_1, dn_3_0, dn_3_1, dn_3_2, dn_4_0, dn_4_1, dn_4_2, dn_4_3, seqE_rt, seqE_bk, seqE_ct, seqE_ex, wipeD, frz_lst, frz_tup, at1_0, at2_0, at2_1, at3_0, at3_1, at3_2, at4_0, at4_1, at4_2, at4_3, at5_0, at5_1, at5_2, at5_3, at5_4, seqOf_put, seqOf_lst, seqOf_tup, insK_same, tyN_non, tyN_bl, tyN_int, tyN_str, tyN_tup, tyN_lst, tyN_dct, List.getElem?_cons_zero, List.getElem?_cons_succ, List.set_cons_zero, List.set_cons_succ, List.length_cons, List.length_nil, isB_NoneType_bool, isB_NoneType_int, isB_NoneType_str, isB_NoneType_tuple, isB_NoneType_list, isB_NoneType_dict, isB_bool_bool, isB_bool_int, isB_bool_str, isB_bool_tuple, isB_bool_list, isB_bool_dict, isB_int_bool, isB_int_int, isB_int_str, isB_int_tuple, isB_int_list, isB_int_dict, isB_str_bool, isB_str_int, isB_str_str, isB_str_tuple, isB_str_list, isB_str_dict, isB_tuple_bool, isB_tuple_int, isB_tuple_str, isB_tuple_tuple, isB_tuple_list, isB_tuple_dict, isB_list_bool, isB_list_int, isB_list_str, isB_list_tuple, isB_list_list, isB_list_dict, isB_dict_bool, isB_dict_int, isB_dict_str, isB_dict_tuple, isB_dict_list, isB_dict_dict, isC_bool, isC_int, isC_str, isC_tuple, isC_list, isC_dict, isA_list_tuple, isQ_NoneType, isQ_bool, isQ_int, isQ_str, isQ_tuple, isQ_list, isQ_dict, true_and, and_true, Bool.not_true, Bool.not_false, Bool.false_eq_true, Bool.true_xor, Bool.false_xor]
    refine ⟨b, 4, 4, o3, rfl, e3, g3, by decide, by decide, by decide, by decide, fun fs ss ws gr o4 g4 => ?_⟩
    have hN4 := bgd_put hN g4
    simp only [grD, ↓pFau, ↓pFst, ↓pRaise, ↓pPar3, ↓pParK3, ↓rMulS_p, ↓pFmt, ↓pFmtS, ↓pFmtI, ↓pJs0, ↓pJs1, ↓pStrKD, ↓pVar, ↓pGet, ↓pC, ↓pOp, ↓pUn, ↓pCB, ↓pNil, ↓pCons, ↓pTest, ↓pBl, ↓pAndT, ↓pOrT, ↓pNotT, ↓pAndV, ↓pOrV, ↓pNotV, ↓pIfE, ↓pTup, ↓pLst, ↓pLstO, ↓pCall, ↓pMeth, ↓pFld, ↓pProp, ↓pMake, ↓pCv, ↓pSl, ↓pNo, ↓pSome, ↓pIntK, ↓pN, ↓pT, ↓pGC, ↓pGN, ↓pIf, ↓pRet, ↓pRetN, ↓pDrop, ↓pAsg, ↓pNx, ↓pBrk, ↓pCnt, ↓pNever, ↓pSub, ↓pAug, ↓pPar, ↓pParK, ↓pBM, ↓pFor, ↓pLc, ↓pLcO, ↓pYes, ↓piSeq, ↓piStr, ↓pStrK, ↓piRng1, ↓pRng1K, ↓piRng2, ↓pRng2K, ↓piEnum, ↓pEnumK, ↓piZip, ↓pZipL, ↓pZipT, ↓pFz, ↓pLenSet, ↓pIsT, ↓rIx_lst, ↓rIx_tup, ↓rIx_ref, ↓rIx_str, ↓rLen_str, ↓rLen_lst, ↓rLen_tup, ↓rLen_ref, ↓rIs_p, ↓rInt_int, ↓rInt_bl, ↓rStr_int, ↓rList_p, ↓rListO_p, ↓rTup_p, ↓rAdd_int, ↓rAdd_str, ↓rAdd_tup, ↓rAdd_lst, ↓rIntD_p, ↓rInt0_p, ↓rEq_int, ↓rEq_str, ↓rEq_bl, ↓rEq_lst, ↓rEq_tup, ↓rIsN_non, ↓rIsN_bl, ↓rIsN_int, ↓rIsN_str, ↓rIsN_tup, ↓rIsN_lst, ↓rNeg_p, ↓rSl_str, ↓rSl_tup, ↓rSl_lst, ↓rSl_scr, ↓rRep_p, ↓pOptK, ↓pChain, ↓piEnumA, ↓pEnumA_tup, ↓pEnumA_lst, ↓rInV_tup, ↓rInV_lst, ↓rSlN_p, ↓pSlN, ↓pTn, ↓pTnK, ↓pTM, ↓rTidx_p, ↓rLidx_p, ↓rGtL_p, ↓pStar, ↓pIfT, ↓pCallK, ↓pDzip, ↓pDzipK, ↓pDzipO, ↓pDzipKO, ↓rIsB_bl, ↓rDix_str, ↓rDix_int, ↓rIn_tup, ↓rIn_lst, ↓rEq_ns, ↓rEq_sn, ↓rRepT_p, ↓rAll_f, ↓rAll_t, ↓wSeq_p, ↓seqE_nx, ↓reduceIte, at_0, at_1, at_2, at_3, cut_1, cut_2, dl_0_0, dl_0_1, dl_0_2, dl_0_3, dl_0_4, dl_0_5, dl_1_0, dl_1_1, dl_1_2, dl_1_3, dl_1_4, dl_1_5, dl_2_0, dl_2_1, dl_2_2, dl_2_3, dl_2_4, dl_2_5, dl_3_0, dl_3_1, dl_3_2, dl_3_3, dl_3_4, dl_3_5, dl_4_0, dl_4_1, dl_4_2, dl_4_3, dl_4_4, dl_4_5, dn_1_0, dn_2_0, dn_2_1, dn_3_0, dn_3_1, dn_3_2, dn_4_0, dn_4_1, dn_4_2, dn_4_3, seqE_rt, seqE_bk, seqE_ct, seqE_ex, wipeD, frz_lst, frz_tup, at1_0, at2_0, at2_1, at3_0, at3_1, at3_2, at4_0, at4_1, at4_2, at4_3, at5_0, at5_1, at5_2, at5_3, at5_4, seqOf_put, seqOf_lst, seqOf_tup, insK_same, tyN_non, tyN_bl, tyN_int, tyN_str, tyN_tup, tyN_lst, tyN_dct, List.getElem?_cons_zero, List.getElem?_cons_succ, List.set_cons_zero, List.set_cons_succ, List.length_cons, List.length_nil, isB_NoneType_bool, isB_NoneType_int, isB_NoneType_str, isB_NoneType_tuple, isB_NoneType_list, isB_NoneType_dict, isB_bool_bool, isB_bool_int, isB_bool_str, isB_bool_tuple, isB_bool_list, isB_bool_dict, isB_int_bool, isB_int_int, isB_int_str, isB_int_tuple, isB_int_list, isB_int_dict, isB_str_bool, isB_str_int, isB_str_str, isB_str_tuple, isB_str_list, isB_str_dict, isB_tuple_bool, isB_tuple_int, isB_tuple_str, isB_tuple_tuple, isB_tuple_list, isB_tuple_dict, isB_list_bool, isB_list_int, isB_list_str, isB_list_tuple, isB_list_list, isB_list_dict, isB_dict_bool, isB_dict_int, isB_dict_str, isB_dict_tuple, isB_dict_list, isB_dict_dict, isC_bool, isC_int, isC_str, isC_tuple, isC_list, isC_dict, isA_list_tuple, isQ_NoneType, isQ_bool, isQ_int, isQ_str, isQ_tuple, isQ_list, isQ_dict, true_and, and_true, Bool.not_true, Bool.not_false, Bool.false_eq_true, Bool.true_xor, Bool.false_xor]
    refine pull_b A hN4 (by omega) (by omega) fun w hw N1 g1 _ => ?_
    have gf : Good0 (.lst (fs.map D.str)) fs := ⟨.inl rfl, gr.f, gr.o⟩
    have okf := ok_names gr.f
    have oks := ok_names gr.s
    rcases (by omega : w = 0 ∨ w = 1 ∨ w = 2 ∨ w = 3) with rfl | rfl | rfl | rfl
    · refine ⟨by omega, by omega, rfl, rfl, ?_⟩
      rw [if_pos i0]
      obtain ⟨o5, e5, g5⟩ := bgd_at g1
      refine ⟨b, fs, true, o5, rfl, gr.f, e5, g5, fun v okv bv o6 g6 => ⟨by omega, rfl, rfl, ?_⟩⟩
      rw [if_neg j0]
      exact law_c0 A (w := 0) hT' hne (bgd_put g1 g6) okv oks (.w0 bv) fun r2 hr2 => hR _ _ ⟨r2, hr2, rfl, bgd_put g1 g6⟩
    · refine ⟨by omega, by omega, rfl, rfl, ?_⟩
      rw [if_neg i1]
      refine ⟨by omega, rfl, rfl, ?_⟩
      rw [if_pos j1]
      obtain ⟨o5, e5, g5⟩ := bgd_at g1
      refine ⟨b, ss, false, o5, rfl, gr.s, e5, g5, fun v okv bv o6 g6 => ?_⟩
      exact law_c0 A (w := 1) hT' hne (bgd_put g1 g6) okf okv (.w1 gf bv) fun r2 hr2 => hR _ _ ⟨r2, hr2, rfl, bgd_put g1 g6⟩
    · refine ⟨by omega, by omega, rfl, rfl, ?_⟩
      rw [if_pos i2]
      obtain ⟨o5, e5, g5⟩ := bgd_at g1
      refine ⟨b, fs, true, o5, rfl, gr.f, e5, g5, fun v okv bv o6 g6 => ⟨by omega, rfl, rfl, ?_⟩⟩
      rw [if_pos j2]
      obtain ⟨o7, e7, g7⟩ := bgd_at (bgd_put g1 g6)
      refine ⟨b, ss, false, o7, rfl, gr.s, e7, g7, fun v2 okv2 bv2 o8 g8 => ?_⟩
      exact law_c0 A (w := 2) hT' hne (bgd_put (bgd_put g1 g6) g8) okv okv2 (.w2 bv) fun r2 hr2 => hR _ _ ⟨r2, hr2, rfl, bgd_put (bgd_put g1 g6) g8⟩
    · refine ⟨by omega, by omega, rfl, rfl, ?_⟩
      rw [if_neg i3]
      refine ⟨by omega, rfl, rfl, ?_⟩
      rw [if_neg j3]
      exact law_c0 A (w := 3) hT' hne g1 okf oks (.w3 gf (.inl rfl) gr.s) fun r2 hr2 => hR _ _ ⟨r2, hr2, rfl, g1⟩
end DL.K03
namespace DL.K03
open PySem PySem.Spec PyProof.Rows L2 RZ
/-! ### the end: the top run once -/
def mkA (K : PySem.W.Frag) : Ad := ⟨He.ga K "is_listed",
  He.ga K "is_made_of",
  He.ga K "is_plain_name",
  He.ga K "unlike",
  He.ga K "are_names",
  He.ma K (He.ga K "Shape") "__init__",
  stG K (He.ma K (He.ga K "Shape") "plain"),
  He.ga K "_law_opened",
  He.ga K "_law_pull",
  He.ga K "_law_any",
  He.ga K "_law_like",
  He.ga K "_law_field",
  He.ga K "_law_stems",
  He.ga K "_law_words",
  He.ga K "_law_ground",
  He.ga K "_law_spoilt",
  He.ga K "law",
  He.ga K "Shape",
  He.ma K (He.ga K "Shape") "plain",
  He.ga K "InvalidShape",
  He.ma K (He.ga K "InvalidShape") "__init__",
  He.ga K "_law_try",
  He.ga K "SightError",
  He.ga K "Missing",
  He.ga K "NothingLeft",
  (tbZ K (He.ga K "law")).1,
  (tbZ K (He.ga K "law")).2⟩
def fbs (file : Str) (K : PySem.W.Frag) : List Bool := [bNone K "all",
  bNone K "any",
  bNone K "bool",
  bNone K "dict",
  bNone K "int",
  bNone K "isinstance",
  bNone K "len",
  bNone K "list",
  bNone K "range",
  bNone K "set",
  bNone K "str",
  bNone K "tuple",
  bNone K "zip",
  bCon K "LETTERS" k_LETTERS,
  bCon K "MAX_WORD" k_MAX_WORD,
  bCon K "OWN_COLUMNS" k_OWN_COLUMNS,
  bGlo K "is_listed",
  bGlo K "is_made_of",
  bGlo K "is_plain_name",
  bGlo K "unlike",
  bGlo K "are_names",
  bGlo K "_law_opened",
  bGlo K "_law_pull",
  bGlo K "_law_any",
  bGlo K "_law_like",
  bGlo K "_law_field",
  bGlo K "_law_stems",
  bGlo K "_law_words",
  bGlo K "_law_ground",
  bGlo K "_law_spoilt",
  bGlo K "law",
  bGlo K "Shape",
  bCls K (mkA K).c_Shape,
  bNo K (mkA K).c_Shape "own_fields",
  bNo K (mkA K).c_Shape "own_sources",
  bMk K (mkA K).c_Shape (mkA K).f_Shape___init__,
  bStat K (mkA K).c_Shape "plain" (mkA K).q_Shape_plain (mkA K).f_Shape_plain,
  bCv K (mkA K).c_Shape "FIELDS" (.int 5),
  bCv K (mkA K).c_Shape "SOURCES" (.int 5),
  bNone K "super",
  bGlo K "InvalidShape",
  bExC K (mkA K).c_InvalidShape (mkA K).f_InvalidShape___init__ file,
  bNo K (mkA K).c_InvalidShape "at",
  bNo K (mkA K).c_InvalidShape "tag",
  bGlo K "SightError",
  bGlo K "Missing",
  bGlo K "NothingLeft",
  bExm K (mkA K).c_InvalidShape (xcs (mkA K)),
  bGlo K "_law_try"]
def z_is_listed : DfR := ⟨fun K => (mkA K).f_is_listed, "is_listed", "is_listed", s_is_listed, []⟩
def z_is_made_of : DfR := ⟨fun K => (mkA K).f_is_made_of, "is_made_of", "is_made_of", s_is_made_of, []⟩
def z_is_plain_name : DfR := ⟨fun K => (mkA K).f_is_plain_name, "is_plain_name", "is_plain_name", s_is_plain_name, []⟩
def z_unlike : DfR := ⟨fun K => (mkA K).f_unlike, "unlike", "unlike", s_unlike, []⟩
def z_are_names : DfR := ⟨fun K => (mkA K).f_are_names, "are_names", "are_names", s_are_names, []⟩
def z_Shape___init__ : DfR := ⟨fun K => (mkA K).f_Shape___init__, "__init__", "Shape.__init__", s_Shape___init__, []⟩
def z_Shape_plain : DfR := ⟨fun K => (mkA K).f_Shape_plain, "plain", "Shape.plain", s_Shape_plain, []⟩
def z__law_opened : DfR := ⟨fun K => (mkA K).f__law_opened, "_law_opened", "_law_opened", s__law_opened, []⟩
def z__law_pull : DfR := ⟨fun K => (mkA K).f__law_pull, "_law_pull", "_law_pull", s__law_pull, []⟩
def z__law_any : DfR := ⟨fun K => (mkA K).f__law_any, "_law_any", "_law_any", s__law_any, []⟩
def z__law_like : DfR := ⟨fun K => (mkA K).f__law_like, "_law_like", "_law_like", s__law_like, []⟩
def z__law_field : DfR := ⟨fun K => (mkA K).f__law_field, "_law_field", "_law_field", s__law_field, []⟩
def z__law_stems : DfR := ⟨fun K => (mkA K).f__law_stems, "_law_stems", "_law_stems", s__law_stems, []⟩
def z__law_words : DfR := ⟨fun K => (mkA K).f__law_words, "_law_words", "_law_words", s__law_words, []⟩
def z__law_ground : DfR := ⟨fun K => (mkA K).f__law_ground, "_law_ground", "_law_ground", s__law_ground, []⟩
def z__law_spoilt : DfR := ⟨fun K => (mkA K).f__law_spoilt, "_law_spoilt", "_law_spoilt", s__law_spoilt, []⟩
def z_law : DfR := ⟨fun K => (mkA K).f_law, "law", "law", s_law, []⟩
def z_InvalidShape___init__ : DfR := ⟨fun K => (mkA K).f_InvalidShape___init__, "__init__", "InvalidShape.__init__", s_InvalidShape___init__, ["__class__"]⟩
def z__law_try : DfR := ⟨fun K => (mkA K).f__law_try, "_law_try", "_law_try", s__law_try, []⟩
def fns : List DfR := [z_is_listed, z_is_made_of, z_is_plain_name, z_unlike, z_are_names, z_Shape___init__, z_Shape_plain, z__law_opened, z__law_pull, z__law_any, z__law_like, z__law_field, z__law_stems, z__law_words, z__law_ground, z__law_spoilt, z_law, z_InvalidShape___init__, z__law_try]
def tfs (K : PySem.W.Frag) : List (Addr × Addr) := [((mkA K).lc, (mkA K).lt)]
def nms : List Str := (["is_listed", "is_made_of", "is_plain_name", "unlike", "are_names", "_law_opened", "_law_pull", "_law_any", "_law_like", "_law_field", "_law_stems", "_law_words", "_law_ground", "_law_spoilt", "law", "Shape", "InvalidShape", "SightError", "Missing", "NothingLeft", "_law_try", "LETTERS", "MAX_WORD", "OWN_COLUMNS"] : List Str)
set_option maxHeartbeats 4000000 in
theorem txt_mk {P : Program} {K : PySem.W.Frag} {h : Heap} {mg : Str → Option Value} (X : K.In h) (G : h.Ns mainGlobals mg) (c : SaysZ (fbs P.main.file) fns tfs h K) (hsup : (P.main.scope.names.lookup ("super" : Str)).isSome = false) : Txt P K mg (mkA K) :=
  ⟨bNone_ok X G (factZ c.facts 0),
    bNone_ok X G (factZ c.facts 1),
    bNone_ok X G (factZ c.facts 2),
    bNone_ok X G (factZ c.facts 3),
    bNone_ok X G (factZ c.facts 4),
    bNone_ok X G (factZ c.facts 5),
    bNone_ok X G (factZ c.facts 6),
    bNone_ok X G (factZ c.facts 7),
    bNone_ok X G (factZ c.facts 8),
    bNone_ok X G (factZ c.facts 9),
    bNone_ok X G (factZ c.facts 10),
    bNone_ok X G (factZ c.facts 11),
    bNone_ok X G (factZ c.facts 12),
    bCon_ok X G (factZ c.facts 13),
    bCon_ok X G (factZ c.facts 14),
    bCon_ok X G (factZ c.facts 15),
    bGlo_ok X G (factZ c.facts 16),
    DfR.defAt (d := z_is_listed) (c.defs 0 _ rfl).1 (c.defs 0 _ rfl).2 rfl (fun _ _ _ _ _ _ _ _ us hl => match us, hl with | [_], _ => rfl),
    bGlo_ok X G (factZ c.facts 17),
    DfR.defAt (d := z_is_made_of) (c.defs 1 _ rfl).1 (c.defs 1 _ rfl).2 rfl (fun _ _ _ _ _ _ _ _ us hl => match us, hl with | [_, _, _], _ => rfl),
    bGlo_ok X G (factZ c.facts 18),
    DfR.defAt (d := z_is_plain_name) (c.defs 2 _ rfl).1 (c.defs 2 _ rfl).2 rfl (fun _ _ _ _ _ _ _ _ us hl => match us, hl with | [_], _ => rfl),
    bGlo_ok X G (factZ c.facts 19),
    DfR.defAt (d := z_unlike) (c.defs 3 _ rfl).1 (c.defs 3 _ rfl).2 rfl (fun _ _ _ _ _ _ _ _ us hl => match us, hl with | [_], _ => rfl),
    bGlo_ok X G (factZ c.facts 20),
    DfR.defAt (d := z_are_names) (c.defs 4 _ rfl).1 (c.defs 4 _ rfl).2 rfl (fun _ _ _ _ _ _ _ _ us hl => match us, hl with | [_, _], _ => rfl),
    DfR.defAt (d := z_Shape___init__) (c.defs 5 _ rfl).1 (c.defs 5 _ rfl).2 rfl (fun _ _ _ _ _ _ _ _ us hl => match us, hl with | [_, _, _], _ => rfl),
    DfR.defV (d := z_Shape_plain) (c.defs 6 _ rfl).1 (c.defs 6 _ rfl).2 rfl (fun _ _ _ _ _ _ us => match us with | [] => rfl | _ :: _ => rfl),
    bGlo_ok X G (factZ c.facts 21),
    DfR.defAt (d := z__law_opened) (c.defs 7 _ rfl).1 (c.defs 7 _ rfl).2 rfl (fun _ _ _ _ _ _ _ _ us hl => match us, hl with | [_], _ => rfl),
    bGlo_ok X G (factZ c.facts 22),
    DfR.defAt (d := z__law_pull) (c.defs 8 _ rfl).1 (c.defs 8 _ rfl).2 rfl (fun _ _ _ _ _ _ _ _ us hl => match us, hl with | [_, _], _ => rfl),
    bGlo_ok X G (factZ c.facts 23),
    DfR.defAt (d := z__law_any) (c.defs 9 _ rfl).1 (c.defs 9 _ rfl).2 rfl (fun _ _ _ _ _ _ _ _ us hl => match us, hl with | [_, _], _ => rfl),
    bGlo_ok X G (factZ c.facts 24),
    DfR.defAt (d := z__law_like) (c.defs 10 _ rfl).1 (c.defs 10 _ rfl).2 rfl (fun _ _ _ _ _ _ _ _ us hl => match us, hl with | [_, _], _ => rfl),
    bGlo_ok X G (factZ c.facts 25),
    DfR.defAt (d := z__law_field) (c.defs 11 _ rfl).1 (c.defs 11 _ rfl).2 rfl (fun _ _ _ _ _ _ _ _ us hl => match us, hl with | [_], _ => rfl),
    bGlo_ok X G (factZ c.facts 26),
    DfR.defAt (d := z__law_stems) (c.defs 12 _ rfl).1 (c.defs 12 _ rfl).2 rfl (fun _ _ _ _ _ _ _ _ us hl => match us, hl with | [_, _, _], _ => rfl),
    bGlo_ok X G (factZ c.facts 27),
    DfR.defAt (d := z__law_words) (c.defs 13 _ rfl).1 (c.defs 13 _ rfl).2 rfl (fun _ _ _ _ _ _ _ _ us hl => match us, hl with | [_, _], _ => rfl),
    bGlo_ok X G (factZ c.facts 28),
    DfR.defAt (d := z__law_ground) (c.defs 14 _ rfl).1 (c.defs 14 _ rfl).2 rfl (fun _ _ _ _ _ _ _ _ us hl => match us, hl with | [_, _, _], _ => rfl),
    bGlo_ok X G (factZ c.facts 29),
    DfR.defAt (d := z__law_spoilt) (c.defs 15 _ rfl).1 (c.defs 15 _ rfl).2 rfl (fun _ _ _ _ _ _ _ _ us hl => match us, hl with | [_, _, _], _ => rfl),
    bGlo_ok X G (factZ c.facts 30),
    DfR.defAt (d := z_law) (c.defs 16 _ rfl).1 (c.defs 16 _ rfl).2 rfl (fun _ _ _ _ _ _ _ _ us hl => match us, hl with | [_], _ => rfl),
    bGlo_ok X G (factZ c.facts 31),
    bCls_ok (factZ c.facts 32),
    bNo_ok (factZ c.facts 33),
    bNo_ok (factZ c.facts 34),
    bMk_ok (factZ c.facts 35),
    bStat_ok (factZ c.facts 36),
    bCv_ok (factZ c.facts 37),
    bCv_ok (factZ c.facts 38),
    bNone_ok X G (factZ c.facts 39),
    bGlo_ok X G (factZ c.facts 40),
    bExC_ok (d := z_InvalidShape___init__) (c.defs 17 _ rfl).1 (c.defs 17 _ rfl).2 (factZ c.facts 41) hsup rfl rfl rfl rfl,
    bNo_ok (factZ c.facts 42),
    bNo_ok (factZ c.facts 43),
    bGlo_ok X G (factZ c.facts 44),
    bGlo_ok X G (factZ c.facts 45),
    bGlo_ok X G (factZ c.facts 46),
    bExm_ok (factZ c.facts 47),
    bGlo_ok X G (factZ c.facts 48),
    DfR.defAt (d := z__law_try) (c.defs 18 _ rfl).1 (c.defs 18 _ rfl).2 rfl (fun _ _ _ _ _ _ _ _ us hl => match us, hl with | [_], _ => rfl)⟩
abbrev RR : PySem.W.OpenRow := PySem.W.OpenLaw.row PySem.Challenge.rw_mergesight_k03_shapes_refused
abbrev qv : Program := PySem.W.view RR.prog [28]
def lse : List Str := (["_wall", "__name__", "LETTERS", "MAX_WORD", "is_listed", "is_made_of", "is_plain_name", "unlike", "SightError", "Missing", "InvalidShape", "NothingLeft", "OWN_COLUMNS", "are_names", "Shape", "_law_opened", "_law_pull", "_law_any", "_law_like", "_law_field", "_law_try", "_law_stems", "_law_words", "_law_ground", "_law_spoilt"] : List Str)
abbrev hk : PySem.W.Hook := hookZ nms (fbs RR.prog.main.file) fns tfs
def ob (s : PySem.W.SharedT) : AlZ := obsZ nms (fbs RR.prog.main.file) fns tfs (HandSHeadRun.getT s)
theorem ob_eq (s : PySem.W.SharedT) : ob s = hk.obs s.abs := obsZ_eq (HandSHeadRun.getT_eq s)
theorem run (w : World) : HandSHeadRun.RunEq RR qv hk ob 15000 lse w := by
  intro os
  kernel_rfl
end DL.K03
namespace DL.K03
open PySem PySem.Spec PyProof.Rows L2 RZ
theorem law_at {w : World} {mg : Str → Option Value} {fa : Addr} {h : Heap} {K : PySem.W.Frag} (X : K.In h) (G : h.Ns mainGlobals mg) (hmg : mg "law" = some (.ref fa)) (c : SaysZ (fbs RR.prog.main.file) fns tfs h K) : LamX.LawAtS PySem.Challenge.rw_mergesight_k03_shapes_refused w K (L2.CX (PySem.Challenge.rw_mergesight_k03_shapes_refused).prog w) 12 63 "_law_script" mg fa h := by
  have T : Txt RR.prog K mg (mkA K) := txt_mk (P := RR.prog) X G c (by decide +kernel)
  have e := hmg.symm.trans T.g_law
  cases e
  exact law_atZ (d := z_law) (q := lamq) X c (c.defs 16 _ rfl) rfl sc_law (fun _ _ _ _ _ _ _ _ => .of_eq rfl) (fun base TB cdv ec A outer s H E hr tk => by subst ec; exact bd_law T (TB _ List.mem_cons_self) A outer s H E hr tk) (rd_law (mkA K))
end DL.K03
open PySem PySem.W PySem.Calls PyProof.Rows in
set_option maxRecDepth 100000 in
set_option maxHeartbeats 0 in
theorem PySem.Challenge.cw_mergesight_k03_shapes_refused_holds : PySem.Challenge.rw_mergesight_k03_shapes_refused.Holds := by
  w_on; o_law
  refine HandSHeadRun.head_any (r := DL.K03.RR) (q := DL.K03.qv) (H := DL.K03.hk) (ob := DL.K03.ob) (M := 15000) (loose := DL.K03.lse) (d := HandSHeadRun.topDef DL.K03.RR.prog 28) (kwd := []) DL.K03.ob_eq
    (by kernel_rfl) (fun s => by kernel_rfl) DL.K03.run (by kernel_rfl) (by kernel_rfl) (by kernel_rfl) (by rfl) (by first | assumption | decide +kernel) (by decide +kernel) ⟨rfl, rfl, rfl, rfl, rfl, by decide +kernel⟩ ?hw ?hc
  case hw => w_witness2
  case hc =>
    refine LamX.walk_ofTsE (l := PySem.Challenge.rw_mergesight_k03_shapes_refused) (n := 63) (k := 12) (x := "_law_script") (CX := fun w => L2.CX (PySem.Challenge.rw_mergesight_k03_shapes_refused).prog w) rfl (by decide) (by kernel_rfl) ⟨rfl, by decide, by decide⟩ ?F (fun w H s e s' ⟨_, _, _, _, _, _, _, _, _, _, _, _, hE⟩ => hE)
    intro w mg fa h Y G hmg0
    obtain ⟨K, KX, c⟩ := Y
    have hmg : mg ("law" : PySem.Str) = some (.ref fa) := by
      have e : (HandSHeadRun.topDef DL.K03.RR.prog 28).name = ("law" : PySem.Str) := by kernel_rfl
      rw [← e]
      exact hmg0
    exact ⟨K, KX, DL.K03.law_at KX G hmg c⟩
