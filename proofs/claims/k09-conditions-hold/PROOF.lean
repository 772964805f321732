import PyProof.Rows.All
import Wide.All
import OpenK.AllK
import Wide.FinOn
import HandS.ForMost
import HandS.ForExc
import HandS.TupAny
import HandS.IsInst
import HandS.Iter
import HandS.Zip
import HandS.Comp
import HandS.More
import HandS.Property
import HandS.ClsMeth
import HandS.Strs
import HandS.SetKeys
import HandS.Style
import HandS.Small
import HandS.Zip0
import KE.KDictZip
import KE.GoesMore
import HandS.TupMul
import PySem.Challenge.RW_mergesight_k09_conditions_hold
set_option Elab.async false
set_option linter.all false
set_option maxRecDepth 100000
/-! Deep values over the hand layer: values without addresses (tuples, frozen lists, dicts, instances), owned objects by address. -/
namespace DL
open PySem PySem.Spec PyProof.Rows L2

/-- a deep value: tuples, lists, dicts, instances that nobody changes are values; `ref a` is an owned object, a class, a function -/
inductive D where
  | non | bl (b : Bool) | int (i : Int) | str (x : Str) | ty (n : String) | ref (a : Addr)
  | tup (xs : List D) | lst (xs : List D)
  | dct (ks : List Key) (xs : List D)
  | ins (C : Addr) (ns : List Str) (xs : List D)
  /-- the script -/
  | scr (ns : List Int)
/-- an owned object -/
inductive MO where
  | lst (xs : List D) | dct (ks : List Key) (xs : List D) | ins (C : Addr) (ns : List Str) (xs : List D)
abbrev Mem := Addr → Option MO
def mput (M : Mem) (a : Addr) (o : MO) : Mem := fun b => if b = a then some o else M b
def mdel (M : Mem) (a : Addr) : Mem := fun b => if b = a then none else M b
theorem mput_same {M : Mem} {a : Addr} {o : MO} : mput M a o a = some o := by unfold mput; rw [if_pos rfl]
theorem mput_ne {M : Mem} {a b : Addr} {o : MO} (h : b ≠ a) : mput M a o b = M b := by unfold mput; rw [if_neg h]
theorem mput_mput {M : Mem} {a : Addr} {o u : MO} : mput (mput M a o) a u = mput M a u := by
  funext b; unfold mput; split <;> rfl
theorem mdel_same {M : Mem} {a : Addr} : mdel M a a = none := by unfold mdel; rw [if_pos rfl]
theorem mdel_ne {M : Mem} {a b : Addr} (h : b ≠ a) : mdel M a b = M b := by unfold mdel; rw [if_neg h]
theorem mne_of_none {M : Mem} {a b : Addr} {o : MO} (h : M a = some o) (h' : M b = none) : a ≠ b := by
  intro e; subst e; rw [h] at h'; cases h'

/-- a dict that a walk locks is the same dict -/
def core : HO → HO
  | .frz _ (.dK kvs) => .dK kvs
  | o => o

/-- the script stands at a: locked, or of the written part -/
def Scr (K : PySem.W.Frag) (H : Hp) (a : Addr) (ns : List Int) : Prop := (∃ o, H a = some (.frz o (.lst (ns.map V.int)))) ∨
  ∃ (o : Obj) (its : Array Value) (n : Nat), K.lookup a = some o ∧ o.cls = .type "list" ∧ o.dict = none ∧ o.data = .seq its n ∧ its.size ≤ sizeLine ∧ Vals (ns.map V.int) its.toList
mutual
def DV (K : PySem.W.Frag) (H : Hp) (M : Mem) : D → V → Prop
  | .non, v => v = .non
  | .bl b, v => v = .bl b
  | .int i, v => v = .int i
  | .str x, v => v = .str x
  | .ty n, v => v = .ty n
  | .ref a, v => v = .ref a
  | .tup ds, v => ∃ a xs, v = .ref a ∧ SqT K H a xs ∧ DVs K H M ds xs
  | .lst ds, v => ∃ a xs, v = .ref a ∧ H a = some (.lst xs) ∧ M a = none ∧ DVs K H M ds xs
  | .dct ks ds, v => ∃ a kvs, v = .ref a ∧ Rd H a (.dK kvs) ∧ M a = none ∧ kvs.map (·.1) = ks ∧ DVs K H M ds (kvs.map (·.2))
  | .ins C ns ds, v => ∃ a dx fs, v = .ref a ∧ H a = some (.ins C dx fs) ∧ M a = none ∧ fs.map (·.1) = ns ∧ DVs K H M ds (fs.map (·.2))
  | .scr ns, v => ∃ a, v = .ref a ∧ Scr K H a ns
def DVs (K : PySem.W.Frag) (H : Hp) (M : Mem) : List D → List V → Prop
  | [], xs => xs = []
  | d :: ds, xs => ∃ y ys, xs = y :: ys ∧ DV K H M d y ∧ DVs K H M ds ys
end

def MOk (K : PySem.W.Frag) (H : Hp) (M : Mem) (a : Addr) : MO → Prop
  | .lst ds => ∃ xs, H a = some (.lst xs) ∧ DVs K H M ds xs
  | .dct ks ds => ∃ kvs, H a = some (.dK kvs) ∧ kvs.map (·.1) = ks ∧ DVs K H M ds (kvs.map (·.2))
  | .ins C ns ds => ∃ dx fs, H a = some (.ins C dx fs) ∧ fs.map (·.1) = ns ∧ DVs K H M ds (fs.map (·.2))
def RelM (K : PySem.W.Frag) (H : Hp) (M : Mem) : Prop := ∀ a o, M a = some o → MOk K H M a o
/-- what is frozen stays -/
def Ext (H : Hp) (M : Mem) (H' : Hp) (M' : Mem) : Prop := ∀ a o, H a = some o → M a = none → (∃ o', H' a = some o' ∧ core o' = core o) ∧ M' a = none
theorem Ext.rfl' {H : Hp} {M : Mem} : Ext H M H M := fun a o h m => ⟨⟨o, h, rfl⟩, m⟩
theorem Ext.trans {H H1 H2 : Hp} {M M1 M2 : Mem} (a : Ext H M H1 M1) (b : Ext H1 M1 H2 M2) : Ext H M H2 M2 := fun c o h m => by
  obtain ⟨⟨o1, h1, e1⟩, m1⟩ := a c o h m
  obtain ⟨⟨o2, h2, e2⟩, m2⟩ := b c o1 h1 m1
  exact ⟨⟨o2, h2, e2.trans e1⟩, m2⟩

/-- what core leaves alone -/
def Plain (o : HO) : Prop := ∀ o', core o' = core o → o' = o
theorem plain_lst {xs : List V} : Plain (.lst xs) := fun o' e => by
  unfold core at e
  split at e
  · cases e
  · exact e
theorem plain_tup {xs : List V} : Plain (.tup xs) := fun o' e => by
  unfold core at e
  split at e
  · cases e
  · exact e
theorem plain_ins {C dx : Addr} {fs : List (Str × V)} : Plain (.ins C dx fs) := fun o' e => by
  unfold core at e
  split at e
  · cases e
  · exact e
theorem plain_ftup {o : Obj} {xs : List V} : Plain (.frz o (.tup xs)) := fun o' e => by
  unfold core at e
  split at e
  · cases e
  · exact e
theorem core_dK {o' : HO} {kvs : List (Key × V)} (e : core o' = .dK kvs) : o' = .dK kvs ∨ ∃ ob, o' = .frz ob (.dK kvs) := by
  unfold core at e
  split at e
  · rename_i ob k
    cases e
    exact .inr ⟨ob, rfl⟩
  · exact .inl e
theorem plain_flst {o : Obj} {xs : List V} : Plain (.frz o (.lst xs)) := fun o' e => by
  unfold core at e
  split at e
  · cases e
  · exact e
theorem Ext.at {H H' : Hp} {M M' : Mem} {a : Addr} {o : HO} (e : Ext H M H' M') (h : H a = some o) (m : M a = none) (p : Plain o) : H' a = some o ∧ M' a = none := by
  obtain ⟨⟨o', h', c⟩, m'⟩ := e a o h m
  rw [p o' c] at h'
  exact ⟨h', m'⟩
theorem Ext.dict {H H' : Hp} {M M' : Mem} {a : Addr} {kvs : List (Key × V)} (e : Ext H M H' M') (h : Rd H a (.dK kvs)) (m : M a = none) : Rd H' a (.dK kvs) ∧ M' a = none := by
  have key : ∀ o, H a = some o → core o = .dK kvs → Rd H' a (.dK kvs) ∧ M' a = none := fun o ho hc => by
    obtain ⟨⟨o', h', c⟩, m'⟩ := e a o ho m
    refine ⟨?_, m'⟩
    rcases core_dK (c.trans hc) with q | ⟨ob, q⟩
    · exact .inl (q ▸ h')
    · exact .inr ⟨ob, q ▸ h'⟩
  rcases h with h | ⟨o, h⟩
  · exact key _ h rfl
  · exact key _ h rfl
section
variable {K : PySem.W.Frag} {H H' : Hp} {M M' : Mem}
/-- a tuple is never owned -/
theorem RelM.tup (R : RelM K H M) {a : Addr} {xs : List V} (h : H a = some (.tup xs)) : M a = none := by
  cases e : M a with
  | none => rfl
  | some o =>
    have q := R a o e
    cases o with
    | lst ds => obtain ⟨_, q, _⟩ := q; rw [h] at q; cases q
    | dct ks ds => obtain ⟨_, q, _⟩ := q; rw [h] at q; cases q
    | ins C ns ds => obtain ⟨_, _, q, _⟩ := q; rw [h] at q; cases q
theorem RelM.ftup (R : RelM K H M) {a : Addr} {o : Obj} {xs : List V} (h : H a = some (.frz o (.tup xs))) : M a = none := by
  cases e : M a with
  | none => rfl
  | some o =>
    have q := R a o e
    cases o with
    | lst ds => obtain ⟨_, q, _⟩ := q; rw [h] at q; cases q
    | dct ks ds => obtain ⟨_, q, _⟩ := q; rw [h] at q; cases q
    | ins C ns ds => obtain ⟨_, _, q, _⟩ := q; rw [h] at q; cases q
theorem RelM.flst (R : RelM K H M) {a : Addr} {o : Obj} {xs : List V} (h : H a = some (.frz o (.lst xs))) : M a = none := by
  cases e : M a with
  | none => rfl
  | some o =>
    have q := R a o e
    cases o with
    | lst ds => obtain ⟨_, q, _⟩ := q; rw [h] at q; cases q
    | dct ks ds => obtain ⟨_, q, _⟩ := q; rw [h] at q; cases q
    | ins C ns ds => obtain ⟨_, _, q, _⟩ := q; rw [h] at q; cases q
theorem Scr.ext (R : RelM K H M) (e : Ext H M H' M') {a : Addr} {ns : List Int} (h : Scr K H a ns) : Scr K H' a ns := by
  rcases h with ⟨o, h⟩ | h
  · exact .inl ⟨o, (e.at h (R.flst h) plain_flst).1⟩
  · exact .inr h
theorem SqT.ext (R : RelM K H M) (e : Ext H M H' M') {a : Addr} {xs : List V} (h : SqT K H a xs) : SqT K H' a xs := by
  rcases h with (h | ⟨o, h⟩) | h
  · exact .inl (.inl (e.at h (R.tup h) plain_tup).1)
  · exact .inl (.inr ⟨o, (e.at h (R.ftup h) plain_ftup).1⟩)
  · exact .inr h
mutual
theorem DV.ext (R : RelM K H M) (e : Ext H M H' M') : ∀ (d : D) (v : V), DV K H M d v → DV K H' M' d v
  | .non, v, h => h
  | .bl b, v, h => h
  | .int i, v, h => h
  | .str x, v, h => h
  | .ty n, v, h => h
  | .ref a, v, h => h
  | .tup ds, v, h => by
    obtain ⟨a, xs, h1, h2, h3⟩ := h
    exact ⟨a, xs, h1, SqT.ext R e h2, DVs.ext R e ds xs h3⟩
  | .lst ds, v, h => by
    obtain ⟨a, xs, h1, h2, h3, h4⟩ := h
    obtain ⟨q1, q2⟩ := e.at h2 h3 plain_lst
    exact ⟨a, xs, h1, q1, q2, DVs.ext R e ds xs h4⟩
  | .dct ks ds, v, h => by
    obtain ⟨a, kvs, h1, h2, h3, h4, h5⟩ := h
    obtain ⟨q1, q2⟩ := e.dict h2 h3
    exact ⟨a, kvs, h1, q1, q2, h4, DVs.ext R e ds _ h5⟩
  | .ins C ns ds, v, h => by
    obtain ⟨a, dx, fs, h1, h2, h3, h4, h5⟩ := h
    obtain ⟨q1, q2⟩ := e.at h2 h3 plain_ins
    exact ⟨a, dx, fs, h1, q1, q2, h4, DVs.ext R e ds _ h5⟩
  | .scr ns, v, h => by
    obtain ⟨a, h1, h2⟩ := h
    exact ⟨a, h1, Scr.ext R e h2⟩
theorem DVs.ext (R : RelM K H M) (e : Ext H M H' M') : ∀ (ds : List D) (xs : List V), DVs K H M ds xs → DVs K H' M' ds xs
  | [], xs, h => h
  | d :: ds, xs, h => by
    obtain ⟨y, ys, h1, h2, h3⟩ := h
    exact ⟨y, ys, h1, DV.ext R e d y h2, DVs.ext R e ds ys h3⟩
end
end
end DL
namespace DL
open PySem PySem.Spec PyProof.Rows L2

abbrev SD := List (Option D)
/-- an exception: of an own class with its fields, or of a built-in class -/
inductive Exn where
  | own (C : Addr) (ns : List Str) (ds : List D) | bi (n : String)
abbrev KN := D → Mem → Prop
abbrev KX := Exn → Mem → Prop
/-- what an expression asks: slots, memory, what follows, what follows an exception -/
abbrev WG (α : Type) := SD → Mem → (α → Mem → Prop) → KX → Prop
abbrev WE := WG D
abbrev WT := WG Bool
abbrev WA := WG (List D)

/-- the memory with what stands aside -/
def uni (M F : Mem) : Mem := fun a => match F a with
  | some o => some o
  | none => M a
structure Rm (K : PySem.W.Frag) (H : Hp) (M F : Mem) : Prop where
  rel : RelM K H (uni M F)
  dj : ∀ a o, F a = some o → M a = none
theorem uni_get {M F : Mem} {a : Addr} (h : F a = none) : uni M F a = M a := by unfold uni; rw [h]
theorem uni_none {M F : Mem} {a : Addr} (h : uni M F a = none) : F a = none ∧ M a = none := by
  unfold uni at h
  split at h
  · cases h
  · rename_i e
    exact ⟨e, h⟩
theorem uni_put {M F : Mem} {a : Addr} {o : MO} (h : F a = none) : uni (mput M a o) F = mput (uni M F) a o := by
  funext b
  unfold uni mput
  by_cases e : b = a
  · subst e
    simp [h]
  · simp [e]
theorem Rm.fr {K : PySem.W.Frag} {H : Hp} {M F : Mem} (R : Rm K H M F) {a : Addr} {o : MO} (h : M a = some o) : F a = none := by
  cases e : F a with
  | none => rfl
  | some u => have q := R.dj a u e; rw [h] at q; cases q
theorem Rm.at {K : PySem.W.Frag} {H : Hp} {M F : Mem} (R : Rm K H M F) {a : Addr} {o : MO} (h : M a = some o) : uni M F a = some o := by rw [uni_get (R.fr h)]; exact h
theorem Rm.get {K : PySem.W.Frag} {H : Hp} {M F : Mem} (R : Rm K H M F) {a : Addr} {o : MO} (h : M a = some o) : MOk K H (uni M F) a o := R.rel a o (R.at h)
def RelS (K : PySem.W.Frag) (F : Mem) (σ : L2.St) (H : Hp) (ds : SD) (M : Mem) : Prop :=
  Rm K H M F ∧ ds.length = σ.length ∧ ∀ (i : Nat) (d : D), ds[i]? = some (some d) → ∃ v, σ[i]? = some (some v) ∧ DV K H (uni M F) d v
def ExV (K : PySem.W.Frag) (H : Hp) (M : Mem) (cls : Value) (dc : Option Addr) : Exn → Prop
  | .own C ns ds => cls = .ref C ∧ ∃ dd fs, dc = some dd ∧ H dd = some (.xd fs) ∧ M dd = none ∧ fs.map (·.1) = ns ∧ DVs K H M ds (fs.map (·.2))
  | .bi n => cls = .type n
/-- the ends hang together -/
def LkG (K : PySem.W.Frag) (F : Mem) {α β : Type} (Rr : Hp → Mem → α → β → Prop) (H : Hp) (M : Mem) (Qd : α → Mem → Prop) (Q : β → Hp → Prop) : Prop :=
  ∀ (v : β) (H' : Hp) (d : α) (M' : Mem), Ext H (uni M F) H' (uni M' F) → Rm K H' M' F → Rr H' (uni M' F) d v → Qd d M' → Q v H'
def LkX (K : PySem.W.Frag) (F : Mem) (H : Hp) (M : Mem) (σ : L2.St) (Xd : KX) (W : WX) : Prop :=
  ∀ (cls : Value) (dc : Option Addr) (H' : Hp) (x : Exn) (M' : Mem), Ext H (uni M F) H' (uni M' F) → Rm K H' M' F → ExV K H' (uni M' F) cls dc x → Xd x M' → W cls dc σ H'
abbrev rE (K : PySem.W.Frag) : Hp → Mem → D → V → Prop := fun H M d v => DV K H M d v
abbrev rT : Hp → Mem → Bool → Bool → Prop := fun _ _ b c => c = b
abbrev rA (K : PySem.W.Frag) : Hp → Mem → List D → List V → Prop := fun H M ds vs => DVs K H M ds vs
abbrev rO : Hp → Mem → Option Int → Option Int → Prop := fun _ _ b c => c = b
def lift (K : PySem.W.Frag) (W : WX) {α β : Type} (Rr : Hp → Mem → α → β → Prop) (es : List D) (vs : List V) (w : WG α) : L2.St → Hp → (β → Hp → Prop) → Prop := fun σ H Q =>
  ∃ ds M F Qd Xd, RelS K F σ H ds M ∧ DVs K H (uni M F) es vs ∧ w ds M Qd Xd ∧ LkG K F Rr H M Qd Q ∧ LkX K F H M σ Xd W
abbrev liftE (K : PySem.W.Frag) (W : WX) (w : WE) : TE := lift K W (rE K) [] [] w
abbrev liftT (K : PySem.W.Frag) (W : WX) (w : WT) : TT := lift K W rT [] [] w
abbrev liftA (K : PySem.W.Frag) (W : WX) (w : WA) : TA := lift K W (rA K) [] [] w
abbrev liftO (K : PySem.W.Frag) (W : WX) (w : WG (Option Int)) : TO := lift K W rO [] [] w
abbrev JE (X : Cx) (W : WX) (e : Expr) (w : WE) : Prop := PE X e (liftE X.K W w)
abbrev JT (X : Cx) (W : WX) (e : Expr) (w : WT) : Prop := PT X e (liftT X.K W w)
abbrev JW (X : Cx) (W : WX) (e : Expr) (w : WT) : Prop := PW X e (liftT X.K W w)
abbrev JA (X : Cx) (W : WX) (es : List Expr) (w : WA) : Prop := PA X es (liftA X.K W w)
abbrev JK (X : Cx) (W : WX) (es : List Keyword) (w : WA) : Prop := PK X es (liftA X.K W w)
abbrev JO (X : Cx) (W : WX) (e : Option Expr) (w : WG (Option Int)) : Prop := PO X e (liftO X.K W w)

section
variable {K : PySem.W.Frag} {W : WX} {H H' : Hp} {M M' : Mem} {σ : L2.St} {ds : SD} {α β : Type} {Rr : Hp → Mem → α → β → Prop} {es : List D} {vs : List V} {Q : β → Hp → Prop}
theorem RelS.ext {F : Mem} (R : RelS K F σ H ds M) (e : Ext H (uni M F) H' (uni M' F)) (r : Rm K H' M' F) : RelS K F σ H' ds M' :=
  ⟨r, R.2.1, fun i d h => by
    obtain ⟨v, h1, h2⟩ := R.2.2 i d h
    exact ⟨v, h1, DV.ext R.1.rel e d v h2⟩⟩
theorem LkG.ext {F : Mem} {Qd : α → Mem → Prop} (l : LkG K F Rr H M Qd Q) (e : Ext H (uni M F) H' (uni M' F)) : LkG K F Rr H' M' Qd Q := fun v H2 d M2 e2 r q w => l v H2 d M2 (e.trans e2) r q w
theorem LkX.ext {F : Mem} {Xd : KX} (l : LkX K F H M σ Xd W) (e : Ext H (uni M F) H' (uni M' F)) : LkX K F H' M' σ Xd W := fun c dc H2 x M2 e2 r q w => l c dc H2 x M2 (e.trans e2) r q w
/-- one part of an expression first -/
theorem bindE {wa : WE} {f : D → WG α} {R : V → Hp → Prop} (h : lift K W Rr es vs (fun ds M Q Xc => wa ds M (fun d M1 => f d ds M1 Q Xc) Xc) σ H Q)
    (k : ∀ v d H1, lift K W Rr (d :: es) (v :: vs) (f d) σ H1 Q → R v H1) : liftE K W wa σ H R := by
  obtain ⟨ds, M, F, Qd, Xd, hs, hv, hw, l1, l2⟩ := h
  exact ⟨ds, M, F, fun d M1 => f d ds M1 Qd Xd, Xd, hs, rfl, hw, fun v H' d M' e r dv q => k v d H' ⟨ds, M', F, Qd, Xd, hs.ext e r, ⟨v, vs, rfl, dv, DVs.ext hs.1.rel e es vs hv⟩, q, l1.ext e, l2.ext e⟩, l2⟩
theorem bindT {wa : WT} {f : Bool → WG α} {R : Bool → Hp → Prop} (h : lift K W Rr es vs (fun ds M Q Xc => wa ds M (fun d M1 => f d ds M1 Q Xc) Xc) σ H Q)
    (k : ∀ b H1, lift K W Rr es vs (f b) σ H1 Q → R b H1) : liftT K W wa σ H R := by
  obtain ⟨ds, M, F, Qd, Xd, hs, hv, hw, l1, l2⟩ := h
  exact ⟨ds, M, F, fun d M1 => f d ds M1 Qd Xd, Xd, hs, rfl, hw, fun v H' d M' e r dv q => k v H' ⟨ds, M', F, Qd, Xd, hs.ext e r, DVs.ext hs.1.rel e es vs hv, by rw [show v = d from dv]; exact q, l1.ext e, l2.ext e⟩, l2⟩
theorem bindO {wa : WG (Option Int)} {f : Option Int → WG α} {R : Option Int → Hp → Prop} (h : lift K W Rr es vs (fun ds M Q Xc => wa ds M (fun d M1 => f d ds M1 Q Xc) Xc) σ H Q)
    (k : ∀ b H1, lift K W Rr es vs (f b) σ H1 Q → R b H1) : liftO K W wa σ H R := by
  obtain ⟨ds, M, F, Qd, Xd, hs, hv, hw, l1, l2⟩ := h
  exact ⟨ds, M, F, fun d M1 => f d ds M1 Qd Xd, Xd, hs, rfl, hw, fun v H' d M' e r dv q => k v H' ⟨ds, M', F, Qd, Xd, hs.ext e r, DVs.ext hs.1.rel e es vs hv, by rw [show v = d from dv]; exact q, l1.ext e, l2.ext e⟩, l2⟩
theorem DVs.app : ∀ {ds es : List D} {xs ys : List V}, DVs K H M ds xs → DVs K H M es ys → DVs K H M (ds ++ es) (xs ++ ys)
  | [], es, xs, ys, h, g => by
    have e : xs = [] := h
    subst e
    exact g
  | d :: ds, es, xs, ys, h, g => by
    obtain ⟨y, zs, e, h1, h2⟩ := h
    subst e
    exact ⟨y, zs ++ ys, rfl, h1, DVs.app h2 g⟩
theorem bindA {wa : WA} {f : List D → WG α} {R : List V → Hp → Prop} (h : lift K W Rr es vs (fun ds M Q Xc => wa ds M (fun d M1 => f d ds M1 Q Xc) Xc) σ H Q)
    (k : ∀ v d H1, lift K W Rr (d ++ es) (v ++ vs) (f d) σ H1 Q → R v H1) : liftA K W wa σ H R := by
  obtain ⟨ds, M, F, Qd, Xd, hs, hv, hw, l1, l2⟩ := h
  exact ⟨ds, M, F, fun d M1 => f d ds M1 Qd Xd, Xd, hs, rfl, hw, fun v H' d M' e r dv q => k v d H' ⟨ds, M', F, Qd, Xd, hs.ext e r, DVs.app dv (DVs.ext hs.1.rel e es vs hv), q, l1.ext e, l2.ext e⟩, l2⟩
end

section
variable {X : Cx} {W : WX} {e : Expr} {t t' : TE}
theorem pe_mono (h : PE X e t) (i : ∀ σ H Q, t' σ H Q → t σ H Q) : PE X e t' := ⟨fun pins s σ H Q I hw => h.run pins s σ H Q I (i σ H Q hw)⟩
theorem pt_mono {t t' : TT} (h : PT X e t) (i : ∀ σ H Q, t' σ H Q → t σ H Q) : PT X e t' := ⟨fun pins s σ H Q I hw => h.run pins s σ H Q I (i σ H Q hw)⟩
theorem pw_mono {t t' : TT} (h : PW X e t) (i : ∀ σ H Q, t' σ H Q → t σ H Q) : PW X e t' := ⟨fun wh pins s σ H Q I hw => h.run wh pins s σ H Q I (i σ H Q hw)⟩
theorem pa_mono {es : List Expr} {t t' : TA} (h : PA X es t) (i : ∀ σ H Q, t' σ H Q → t σ H Q) : PA X es t' := ⟨fun pos pins s σ H Q I hw => h.run pos pins s σ H Q I (i σ H Q hw)⟩
theorem po_mono {o : Option Expr} {t t' : TO} (h : PO X o t) (i : ∀ σ H Q, t' σ H Q → t σ H Q) : PO X o t' := ⟨fun pins s σ H Q I hw => h.run pins s σ H Q I (i σ H Q hw)⟩
theorem ps_mono {st : Stmt} {t t' : TS} (h : PS X st t) (i : ∀ D σ H, t' D σ H → t D σ H) : PS X st t' := ⟨fun pins s σ H D I hw => h.run pins s σ H D I (i D σ H hw)⟩
theorem pss_mono {st : List Stmt} {t t' : TS} (h : PSs X st t) (i : ∀ D σ H, t' D σ H → t D σ H) : PSs X st t' := ⟨fun pins s σ H D I hw => h.run pins s σ H D I (i D σ H hw)⟩
end

/-! ### names, constants -/
def wGet : Option (Option D) → (D → Prop) → Prop
  | some (some d), k => k d
  | _, _ => False
def wVar (i : Nat) : WE := fun ds M Q _ => wGet ds[i]? fun d => Q d M
def wC (d : D) : WE := fun _ M Q _ => Q d M
section
variable {X : Cx} {W : WX}
theorem jv (i : Nat) {x : Str} {pos : Pos} (hN : X.N[i]? = some x := by rfl) (hv : Vis X.env.scope x := by first | exact Or.inl rfl | exact Or.inr (Or.inl rfl) | exact Or.inr (Or.inr rfl)) (hd : (x == ("__debug__" : Str)) = false := by decide)
    (hcd : (x == ("__classdict__" : Str)) = false := by decide) : JE X W (.Name x pos) (wVar i) := pe_mono (pe_var hN hv hd hcd) fun σ H Q h => by
  obtain ⟨ds, M, F, Qd, Xd, hs, _, hw, l1, _⟩ := h
  unfold wVar at hw
  cases e : ds[i]? with
  | none => rw [e] at hw; exact hw.elim
  | some o =>
    cases o with
    | none => rw [e] at hw; exact hw.elim
    | some d =>
      rw [e] at hw
      obtain ⟨v, h1, h2⟩ := hs.2.2 i d e
      exact ⟨v, h1, l1 v H d M Ext.rfl' hs.1 h2 hw⟩
/-- a constant -/
theorem je_c {e : Expr} {v : V} {d : D} (h : PE X e (tC v)) (r : ∀ H M, DV X.K H M d v) : JE X W e (wC d) := pe_mono h fun σ H Q h => by
  obtain ⟨ds, M, F, Qd, Xd, hs, _, hw, l1, _⟩ := h
  exact l1 v H d M Ext.rfl' hs.1 (r H _) hw
theorem j_int {i : Int} {j pos} : JE X W (.Constant (.int i) j pos) (wC (.int i)) := je_c pe_int fun _ _ => rfl
theorem j_bl {b : Bool} {j pos} : JE X W (.Constant (.bool b) j pos) (wC (.bl b)) := je_c pe_bl fun _ _ => rfl
theorem j_non {j pos} : JE X W (.Constant .none j pos) (wC .non) := je_c pe_non fun _ _ => rfl
theorem j_str {x : Str} {j pos} : JE X W (.Constant (.str x) j pos) (wC (.str x)) := je_c pe_str fun _ _ => rfl
/-- a module's constant -/
theorem j_glob {x : Str} {v : V} {d : D} {u : Value} {pos : Pos} (hm : X.mg x = some u) (r : RelV v u) (rd : ∀ H M, DV X.K H M d v) (hg : Gl X x := by rfl) (hd : (x == ("__debug__" : Str)) = false := by decide) : JE X W (.Name x pos) (wC d) := je_c (pe_glob hg hm r hd) rd
/-- a builtin's name as a value -/
theorem j_bltn {x : Str} {n : String} {pos : Pos} (hm : X.mg x = none) (hv : bootBuiltins x = some (.type n)) (hg : Gl X x := by rfl) (hn : x ≠ "__name__" := by decide) (hd : (x == ("__debug__" : Str)) = false := by decide) : JE X W (.Name x pos) (wC (.ty n)) :=
  je_c (pe_bltn (v := .ty n) hg hm hv rfl hn hd) fun _ _ => rfl
end

/-! ### operators by values -/
abbrev RD1 := D → Mem → KN → Prop
abbrev RD2 := D → D → Mem → KN → Prop
abbrev RDs := List D → Mem → KN → Prop
def liftV1 (K : PySem.W.Frag) (r : RD1) : V → Hp → VK → Prop := fun x H Q => ∃ d M F Qd, Rm K H M F ∧ DV K H (uni M F) d x ∧ r d M Qd ∧ LkG K F (rE K) H M Qd Q
def liftV2 (K : PySem.W.Frag) (r : RD2) : R2 := fun x y H Q => ∃ d e M F Qd, Rm K H M F ∧ DV K H (uni M F) d x ∧ DV K H (uni M F) e y ∧ r d e M Qd ∧ LkG K F (rE K) H M Qd Q
def liftVs (K : PySem.W.Frag) (r : RDs) : List V → Hp → VK → Prop := fun xs H Q => ∃ ds M F Qd, Rm K H M F ∧ DVs K H (uni M F) ds xs ∧ r ds M Qd ∧ LkG K F (rE K) H M Qd Q
def wOp (r : RD2) (wa wb : WE) : WE := fun ds M Q Xc => wa ds M (fun x M1 => wb ds M1 (fun y M2 => r x y M2 Q) Xc) Xc
def wUn (r : RD1) (wa : WE) : WE := fun ds M Q Xc => wa ds M (fun x M1 => r x M1 Q) Xc
def wCB (r : RDs) (wa : WA) : WE := fun ds M Q Xc => wa ds M (fun xs M1 => r xs M1 Q) Xc
section
variable {X : Cx} {W : WX} {a b : Expr} {wa wb : WE} {pos : Pos} {K : PySem.W.Frag} {σ : L2.St} {H : Hp} {Q : VK}
theorem fin2 {r : RD2} {x y : V} {d e : D} (h : lift K W (rE K) [e, d] [y, x] (fun _ M Q _ => r d e M Q) σ H Q) : liftV2 K r x y H Q := by
  obtain ⟨ds, M, F, Qd, Xd, hs, hv, hw, l1, _⟩ := h
  obtain ⟨_, _, e1, h1, _, _, e2, h2, e3⟩ := hv
  cases e1
  cases e2
  exact ⟨d, e, M, F, Qd, hs.1, h2, h1, hw, l1⟩
theorem fin1 {r : RD1} {x : V} {d : D} (h : lift K W (rE K) [d] [x] (fun _ M Q _ => r d M Q) σ H Q) : liftV1 K r x H Q := by
  obtain ⟨ds, M, F, Qd, Xd, hs, hv, hw, l1, _⟩ := h
  obtain ⟨_, _, e1, h1, _⟩ := hv
  cases e1
  exact ⟨d, M, F, Qd, hs.1, h1, hw, l1⟩
theorem finS {r : RDs} {xs : List V} {ds : List D} (h : lift K W (rE K) ds xs (fun _ M Q _ => r ds M Q) σ H Q) : liftVs K r xs H Q := by
  obtain ⟨_, M, F, Qd, Xd, hs, hv, hw, l1, _⟩ := h
  exact ⟨ds, M, F, Qd, hs.1, hv, hw, l1⟩
/-- a op b -/
theorem j_op {op : Operator} {r : RD2} (ho : OpR X (binaryOp op) (liftV2 X.K r)) (ha : JE X W a wa) (hb : JE X W b wb) : JE X W (.BinOp a op b pos) (wOp r wa wb) :=
  pe_mono (pe_op ho ha hb) fun σ H Q h => bindE (wa := wa) (f := fun x ds M Q Xc => wb ds M (fun y M2 => r x y M2 Q) Xc) h fun x d H1 h => bindE (wa := wb) (f := fun y _ M Q _ => r d y M Q) h fun y e H2 h => fin2 h
theorem j_un {op : UnaryOp} {r : RD1} (ho : UnR X (unaryOp op) (liftV1 X.K r)) (ha : JE X W a wa) : JE X W (.UnaryOp op a pos) (wUn r wa) :=
  pe_mono (pe_un ho ha) fun σ H Q h => bindE (wa := wa) (f := fun x _ M Q _ => r x M Q) h fun x d H1 h => fin1 h
/-- a comparison as a value -/
theorem j_cmp {op : CmpOp} {r : RD2} (ho : OpR X (compareOp op) (liftV2 X.K r)) (ha : JE X W a wa) (hb : JE X W b wb) (hm : behindInMarks op b = false := by first | exact nomark _ | rfl) : JE X W (.Compare a [op] [b] pos) (wOp r wa wb) :=
  pe_mono (pe_cmpR ho ha hb hm) fun σ H Q h => bindE (wa := wa) (f := fun x ds M Q Xc => wb ds M (fun y M2 => r x y M2 Q) Xc) h fun x d H1 h => bindE (wa := wb) (f := fun y _ M Q _ => r d y M Q) h fun y e H2 h => fin2 h
theorem j_ix {r : RD2} (hr : IxR X (liftV2 X.K r)) (ha : JE X W a wa) (hb : JE X W b wb) (hs : PlainIx b := by exact fun _ _ => rfl) : JE X W (.Subscript a b pos) (wOp r wa wb) :=
  pe_mono (pe_ix hr ha hb hs) fun σ H Q h => bindE (wa := wa) (f := fun x ds M Q Xc => wb ds M (fun y M2 => r x y M2 Q) Xc) h fun x d H1 h => bindE (wa := wb) (f := fun y _ M Q _ => r d y M Q) h fun y e H2 h => fin2 h
end

/-! ### arguments -/
def wNil : WA := fun _ M Q _ => Q [] M
def wCons (wa : WE) (wr : WA) : WA := fun ds M Q Xc => wa ds M (fun d M1 => wr ds M1 (fun xs M2 => Q (d :: xs) M2) Xc) Xc
section
variable {X : Cx} {W : WX} {e : Expr} {es : List Expr} {we : WE} {wr : WA} {pos : Pos}
theorem j_nil : JA X W [] wNil := pa_mono pa_nil fun σ H Q h => by
  obtain ⟨ds, M, F, Qd, Xd, hs, _, hw, l1, _⟩ := h
  exact l1 [] H [] M Ext.rfl' hs.1 rfl hw
theorem j_cons (ha : JE X W e we) (hr : JA X W es wr) (hs : starEach (e :: es) X.env = (false, eval e X.env) :: starEach es X.env := by rfl) : JA X W (e :: es) (wCons we wr) :=
  pa_mono (pa_cons ha hr hs) fun σ H Q h => bindE (wa := we) (f := fun d ds M Q Xc => wr ds M (fun xs M2 => Q (d :: xs) M2) Xc) h fun v d H1 h => bindA (wa := wr) (f := fun xs _ M Q _ => Q (d :: xs) M) h fun vs ds H2 h => by
    obtain ⟨_, M, F, Qd, Xd, hs, hv, hw, l1, _⟩ := h
    refine l1 (v :: vs) H2 (d :: ds) M Ext.rfl' hs.1 ?_ hw
    -- the values stand in the other order
    have key : ∀ (ds : List D) (vs : List V), DVs X.K H2 (uni M F) (ds ++ [d]) (vs ++ [v]) → DVs X.K H2 (uni M F) (d :: ds) (v :: vs) := by
      intro ds
      induction ds with
      | nil =>
        intro vs h
        obtain ⟨y, ys, e, h1, h2⟩ := h
        have e2 : ys = [] := h2
        subst e2
        cases vs with
        | nil => cases e; exact ⟨_, _, rfl, h1, rfl⟩
        | cons z zs =>
          exfalso
          have := congrArg List.length e
          simp at this
      | cons c cs ih =>
        intro vs h
        obtain ⟨y, ys, e, h1, h2⟩ := h
        cases vs with
        | nil =>
          exfalso
          have e3 : ys = [] := by
            have := congrArg List.length e
            simp at this
            exact this
          subst e3
          cases cs with
          | nil => obtain ⟨_, _, z, _⟩ := h2; cases z
          | cons _ _ => obtain ⟨_, _, z, _⟩ := h2; cases z
        | cons z zs =>
          cases e
          obtain ⟨y2, ys2, e2, g1, g2⟩ := ih zs h2
          cases e2
          exact ⟨_, _, rfl, g1, ⟨_, _, rfl, h1, g2⟩⟩
    exact key ds vs hv
end
end DL
namespace DL
open PySem PySem.Spec PyProof.Rows L2

/-! ### heaps that grow or change -/
section
variable {K : PySem.W.Frag} {H H' : Hp} {M M' : Mem}
theorem MOk.ext (R : RelM K H M) (e : Ext H M H' M') {a : Addr} {o : MO} (h : MOk K H M a o)
    (hs : ∀ u, H a = some u → H' a = some u) : MOk K H' M' a o := by
  cases o with
  | lst ds => obtain ⟨xs, h1, h2⟩ := h; exact ⟨xs, hs _ h1, DVs.ext R e ds xs h2⟩
  | dct ks ds => obtain ⟨kvs, h1, h2, h3⟩ := h; exact ⟨kvs, hs _ h1, h2, DVs.ext R e ds _ h3⟩
  | ins C ns ds => obtain ⟨dx, fs, h1, h2, h3⟩ := h; exact ⟨dx, fs, hs _ h1, h2, DVs.ext R e ds _ h3⟩
theorem RelM.free (R : RelM K H M) {p : Addr} (h : H p = none) : M p = none := by
  cases e : M p with
  | none => rfl
  | some o =>
    have q := R p o e
    cases o with
    | lst ds => obtain ⟨_, q, _⟩ := q; rw [h] at q; cases q
    | dct ks ds => obtain ⟨_, q, _⟩ := q; rw [h] at q; cases q
    | ins C ns ds => obtain ⟨_, _, q, _⟩ := q; rw [h] at q; cases q
/-- a new object that nobody owns -/
theorem new_ext (R : RelM K H M) {p : Addr} {o : HO} (h : H p = none) : Ext H M (upd H p o) M := fun a u e m => ⟨⟨u, by rw [upd_ne (ne_of_none e h)]; exact e, rfl⟩, m⟩
theorem new_rel (R : RelM K H M) {p : Addr} {o : HO} (h : H p = none) : RelM K (upd H p o) M := fun a u e =>
  MOk.ext R (new_ext R h) (R a u e) fun w q => by rw [upd_ne (ne_of_none q h)]; exact q
/-- a new owned object -/
theorem own_ext (R : RelM K H M) {p : Addr} {o : HO} {u : MO} (h : H p = none) : Ext H M (upd H p o) (mput M p u) := fun a w e m =>
  ⟨⟨w, by rw [upd_ne (ne_of_none e h)]; exact e, rfl⟩, by rw [mput_ne (ne_of_none e h)]; exact m⟩
theorem own_rel (R : RelM K H M) {p : Addr} {o : HO} {u : MO} (h : H p = none) (ok : MOk K (upd H p o) (mput M p u) p u) : RelM K (upd H p o) (mput M p u) := fun a w e => by
  by_cases ha : a = p
  · subst ha
    rw [mput_same] at e
    cases e
    exact ok
  · rw [mput_ne ha] at e
    exact MOk.ext R (own_ext R h) (R a w e) fun w q => by rw [upd_ne ha]; exact q
/-- an owned object is changed -/
theorem set_ext {p : Addr} {o : HO} {u v : MO} (h : M p = some v) : Ext H M (upd H p o) (mput M p u) := fun a w e m => by
  have ha : a ≠ p := fun z => by subst z; rw [h] at m; cases m
  exact ⟨⟨w, by rw [upd_ne ha]; exact e, rfl⟩, by rw [mput_ne ha]; exact m⟩
theorem set_rel (R : RelM K H M) {p : Addr} {o : HO} {u v : MO} (h : M p = some v) (ok : MOk K (upd H p o) (mput M p u) p u) : RelM K (upd H p o) (mput M p u) := fun a w e => by
  by_cases ha : a = p
  · subst ha
    rw [mput_same] at e
    cases e
    exact ok
  · rw [mput_ne ha] at e
    exact MOk.ext R (set_ext h) (R a w e) fun w q => by rw [upd_ne ha]; exact q
theorem DVs.len : ∀ {ds : List D} {xs : List V}, DVs K H M ds xs → xs.length = ds.length
  | [], xs, h => by
    have e : xs = [] := h
    subst e
    rfl
  | d :: ds, xs, h => by
    obtain ⟨y, ys, e, _, h2⟩ := h
    subst e
    show ys.length + 1 = ds.length + 1
    rw [DVs.len h2]
theorem DVs.get : ∀ {ds : List D} {xs : List V} {i : Nat} {d : D}, DVs K H M ds xs → ds[i]? = some d → ∃ x, xs[i]? = some x ∧ DV K H M d x
  | [], _, _, _, _, h => by simp at h
  | d :: ds, xs, 0, d', h, e => by
    obtain ⟨y, ys, e1, h1, _⟩ := h
    subst e1
    have e2 : d = d' := Option.some.inj e
    subst e2
    exact ⟨y, rfl, h1⟩
  | d :: ds, xs, i + 1, d', h, e => by
    obtain ⟨y, ys, e1, _, h2⟩ := h
    subst e1
    exact DVs.get (i := i) h2 e
theorem DVs.of_get : ∀ {ds : List D} {xs : List V}, xs.length = ds.length → (∀ (i : Nat) (d : D), ds[i]? = some d → ∃ x, xs[i]? = some x ∧ DV K H M d x) → DVs K H M ds xs
  | [], xs, h, _ => List.eq_nil_of_length_eq_zero h
  | d :: ds, [], h, _ => by cases h
  | d :: ds, x :: xs, h, g => by
    obtain ⟨y, e, q⟩ := g 0 d rfl
    cases e
    exact ⟨x, xs, rfl, q, DVs.of_get (Nat.succ.inj h) fun i d' e => g (i + 1) d' e⟩
theorem DVs.take {ds : List D} {xs : List V} (h : DVs K H M ds xs) (n : Nat) : DVs K H M (ds.take n) (xs.take n) :=
  DVs.of_get (by rw [List.length_take, List.length_take, h.len]) fun i d e => by
    rw [List.getElem?_take] at e ⊢
    split at e
    · rename_i hi
      rw [if_pos hi]
      exact h.get e
    · cases e
theorem DVs.drop {ds : List D} {xs : List V} (h : DVs K H M ds xs) (n : Nat) : DVs K H M (ds.drop n) (xs.drop n) :=
  DVs.of_get (by rw [List.length_drop, List.length_drop, h.len]) fun i d e => by
    rw [List.getElem?_drop] at e ⊢
    exact h.get e
theorem Rm.mfree {F : Mem} (R : Rm K H M F) {p : Addr} (h : H p = none) : M p = none := (uni_none (R.rel.free h)).2
theorem Rm.new {F : Mem} (R : Rm K H M F) {p : Addr} {o : HO} (h : H p = none) : Rm K (upd H p o) M F := ⟨new_rel R.rel h, R.dj⟩
theorem Rm.xown {F : Mem} (R : Rm K H M F) {p : Addr} {o : HO} {u : MO} (h : H p = none) : Ext H (uni M F) (upd H p o) (uni (mput M p u) F) := by
  rw [uni_put (uni_none (R.rel.free h)).1]
  exact own_ext R.rel h
theorem Rm.own {F : Mem} (R : Rm K H M F) {p : Addr} {o : HO} {u : MO} (h : H p = none) (ok : MOk K (upd H p o) (uni (mput M p u) F) p u) : Rm K (upd H p o) (mput M p u) F := by
  have hf := (uni_none (R.rel.free h)).1
  refine ⟨?_, fun a w e => ?_⟩
  · rw [uni_put hf] at ok ⊢
    exact own_rel R.rel h ok
  · rw [mput_ne (fun z => by subst z; rw [hf] at e; cases e)]
    exact R.dj a w e
theorem Rm.xset {F : Mem} (R : Rm K H M F) {p : Addr} {o : HO} {u v : MO} (h : M p = some v) : Ext H (uni M F) (upd H p o) (uni (mput M p u) F) := by
  rw [uni_put (R.fr h)]
  exact set_ext (R.at h)
theorem Rm.set {F : Mem} (R : Rm K H M F) {p : Addr} {o : HO} {u v : MO} (h : M p = some v) (ok : MOk K (upd H p o) (uni (mput M p u) F) p u) : Rm K (upd H p o) (mput M p u) F := by
  have hf := R.fr h
  refine ⟨?_, fun a w e => ?_⟩
  · rw [uni_put hf] at ok ⊢
    exact set_rel R.rel (R.at h) ok
  · rw [mput_ne (fun z => by subst z; rw [hf] at e; cases e)]
    exact R.dj a w e
end

/-! ### plain data: as the library's PyData -/
mutual
def toPy : D → PyData
  | .non => .none
  | .bl b => .bool b
  | .int i => .int i
  | .str x => .str x
  | .tup xs => .tuple (toPys xs)
  | .lst xs => .list (toPys xs)
  | _ => .none
def toPys : List D → List PyData
  | [] => []
  | d :: ds => toPy d :: toPys ds
end
mutual
/-- plain data, at most n deep -/
def Dat : D → Nat → Prop
  | .non, _ => True
  | .bl _, _ => True
  | .int _, _ => True
  | .str x, _ => PyData.strOk x = true
  | .tup xs, n => 0 < n ∧ Dats xs (n - 1)
  | .lst xs, n => 0 < n ∧ Dats xs (n - 1)
  | _, _ => False
def Dats : List D → Nat → Prop
  | [], _ => True
  | d :: ds, n => Dat d n ∧ Dats ds n
end
mutual
theorem Dat.lay : ∀ {d : D} {n : Nat}, Dat d n → (toPy d).canLay0 = true ∧ (toPy d).depth ≤ n
  | .non, n, _ => ⟨rfl, Nat.zero_le _⟩
  | .bl _, n, _ => ⟨rfl, Nat.zero_le _⟩
  | .int _, n, _ => ⟨rfl, Nat.zero_le _⟩
  | .str x, n, h => ⟨h, Nat.zero_le _⟩
  | .tup xs, n, h => by
    obtain ⟨h0, h⟩ := h
    obtain ⟨q1, q2⟩ := Dats.lay h
    exact ⟨q1, by show PyData.depthAll (toPys xs) + 1 ≤ n; omega⟩
  | .lst xs, n, h => by
    obtain ⟨h0, h⟩ := h
    obtain ⟨q1, q2⟩ := Dats.lay h
    exact ⟨q1, by show PyData.depthAll (toPys xs) + 1 ≤ n; omega⟩
  | .ty _, n, h => h.elim
  | .ref _, n, h => h.elim
  | .dct _ _, n, h => h.elim
  | .ins _ _ _, n, h => h.elim
  | .scr _, n, h => h.elim
theorem Dats.lay : ∀ {ds : List D} {n : Nat}, Dats ds n → PyData.canLayAll0 (toPys ds) = true ∧ PyData.depthAll (toPys ds) ≤ n
  | [], n, _ => ⟨rfl, Nat.zero_le _⟩
  | d :: ds, n, h => by
    obtain ⟨h1, h2⟩ := h
    obtain ⟨q1, q2⟩ := Dat.lay h1
    obtain ⟨r1, r2⟩ := Dats.lay h2
    refine ⟨?_, ?_⟩
    · show ((toPy d).canLay0 && PyData.canLayAll0 (toPys ds)) = true
      rw [q1, r1]
      rfl
    · show max (toPy d).depth (PyData.depthAll (toPys ds)) ≤ n
      omega
end
theorem Dat.shaped {d : D} {n : Nat} (h : Dat d n) (hn : n ≤ 64) : SeqAt.shaped (toPy d) = true := by
  obtain ⟨q1, q2⟩ := h.lay
  unfold SeqAt.shaped
  rw [q1, decide_eq_true (Nat.le_trans q2 hn)]
  rfl
section
variable {K : PySem.W.Frag} {H : Hp} {M : Mem}
mutual
theorem Dat.dp : ∀ {d : D} {n : Nat} {v : V}, Dat d n → DV K H M d v → Dp K H v (toPy d)
  | .non, n, v, _, h => by cases (show v = .non from h); exact .non
  | .bl b, n, v, _, h => by cases (show v = .bl b from h); exact .bl b
  | .int i, n, v, _, h => by cases (show v = .int i from h); exact .int i
  | .str x, n, v, _, h => by cases (show v = .str x from h); exact .str x
  | .tup xs, n, v, p, h => by
    obtain ⟨a, ys, h1, h2, h3⟩ := h
    subst h1
    exact .tup h2 (Dats.dp p.2 h3)
  | .lst xs, n, v, p, h => by
    obtain ⟨a, ys, h1, h2, _, h3⟩ := h
    subst h1
    exact .lst (SqL.of h2) (Dats.dp p.2 h3)
  | .ty _, n, v, p, _ => p.elim
  | .ref _, n, v, p, _ => p.elim
  | .dct _ _, n, v, p, _ => p.elim
  | .ins _ _ _, n, v, p, _ => p.elim
  | .scr _, n, v, p, _ => p.elim
theorem Dats.dp : ∀ {ds : List D} {n : Nat} {vs : List V}, Dats ds n → DVs K H M ds vs → DpAll K H vs (toPys ds)
  | [], n, vs, _, h => by
    have e : vs = [] := h
    subst e
    exact .nil
  | d :: ds, n, vs, p, h => by
    obtain ⟨y, ys, e, h1, h2⟩ := h
    subst e
    exact .cons (Dat.dp p.1 h1) (Dats.dp p.2 h2)
end
end
/-- == of plain data -/
def deq (d e : D) : Bool := PyData.eqv (toPy d) (toPy e)

/-! ### arithmetic -/
def rAddD : RD2 := fun d e M Q => match d, e with
  | .int i, .int j => Q (.int (i + j)) M
  | .str x, .str y => x.length + y.length ≤ sizeLine ∧ Q (.str (x ++ y)) M
  | .tup xs, .tup ys => xs.length + ys.length ≤ sizeLine ∧ Q (.tup (xs ++ ys)) M
  | .lst xs, .lst ys => xs.length + ys.length ≤ sizeLine ∧ Q (.lst (xs ++ ys)) M
  | _, _ => False
def rIntD (C : Int → Int → Prop) (g : Int → Int → D) : RD2 := fun d e M Q => match d, e with
  | .int i, .int j => C i j ∧ Q (g i j) M
  | _, _ => False
def rInt0D (g : Int → Int → D) : RD2 := fun d e M Q => match d, e with
  | .int i, .int j => Q (g i j) M
  | _, _ => False
section
variable {X : Cx}
theorem od_int {f : Value → Value → Sem Value} {C : Int → Int → Prop} {gv : Int → Int → V} {g : Int → Int → D} (h : OpR X f (rI C gv)) (r : ∀ i j H M, DV X.K H M (g i j) (gv i j)) : OpR X f (liftV2 X.K (rIntD C g)) := by
  intro pins s σ H x y v u Q I rx ry hh
  obtain ⟨d, e, M, F, Qd, R, h1, h2, h3, l⟩ := hh
  cases d <;> first | exact h3.elim | skip
  cases e <;> first | exact h3.elim | skip
  rename_i i j
  cases (show x = .int i from h1)
  cases (show y = .int j from h2)
  exact h pins s σ H _ _ v u Q I rx ry ⟨i, j, rfl, rfl, h3.1, l _ H _ M Ext.rfl' R (r i j H _) h3.2⟩
theorem od_int0 {f : Value → Value → Sem Value} {gv : Int → Int → V} {g : Int → Int → D} (h : OpR X f (rI0 gv)) (r : ∀ i j H M, DV X.K H M (g i j) (gv i j)) : OpR X f (liftV2 X.K (rInt0D g)) := by
  intro pins s σ H x y v u Q I rx ry hh
  obtain ⟨d, e, M, F, Qd, R, h1, h2, h3, l⟩ := hh
  cases d <;> first | exact h3.elim | skip
  cases e <;> first | exact h3.elim | skip
  rename_i i j
  cases (show x = .int i from h1)
  cases (show y = .int j from h2)
  exact h pins s σ H _ _ v u Q I rx ry ⟨i, j, rfl, rfl, l _ H _ M Ext.rfl' R (r i j H _) h3⟩
theorem od_sub : OpR X (binaryOp .Sub) (liftV2 X.K (rInt0D fun i j => .int (i - j))) := od_int0 op_sub fun _ _ _ _ => rfl
theorem od_mul : OpR X (binaryOp .Mult) (liftV2 X.K (rIntD CMul fun i j => .int (i * j))) := od_int op_mul fun _ _ _ _ => rfl
theorem od_fdiv : OpR X (binaryOp .FloorDiv) (liftV2 X.K (rIntD CDiv fun i j => .int (i / j))) := od_int op_fdiv fun _ _ _ _ => rfl
theorem od_mod : OpR X (binaryOp .Mod) (liftV2 X.K (rIntD (fun _ j => 0 < j) fun i j => .int (i % j))) := od_int op_mod fun _ _ _ _ => rfl
theorem od_pow : OpR X (binaryOp .Pow) (liftV2 X.K (rIntD CPow fun i j => .int (i ^ j.toNat))) := od_int op_pow fun _ _ _ _ => rfl
theorem od_lt : OpR X (compareOp .Lt) (liftV2 X.K (rInt0D fun i j => .bl (decide (i < j)))) := od_int0 op_lt fun _ _ _ _ => rfl
theorem od_le : OpR X (compareOp .LtE) (liftV2 X.K (rInt0D fun i j => .bl (decide (i ≤ j)))) := od_int0 op_le fun _ _ _ _ => rfl
theorem od_gt : OpR X (compareOp .Gt) (liftV2 X.K (rInt0D fun i j => .bl (decide (j < i)))) := od_int0 op_gt fun _ _ _ _ => rfl
theorem od_ge : OpR X (compareOp .GtE) (liftV2 X.K (rInt0D fun i j => .bl (decide (j ≤ i)))) := od_int0 op_ge fun _ _ _ _ => rfl
theorem od_add : OpR X (binaryOp .Add) (liftV2 X.K rAddD) := by
  intro pins s σ H x y v u Q I rx ry hh
  obtain ⟨d, e, M, F, Qd, R, h1, h2, h3, l⟩ := hh
  cases d <;> first | exact h3.elim | skip
  · cases e <;> first | exact h3.elim | skip
    rename_i i j
    cases (show x = .int i from h1)
    cases (show y = .int j from h2)
    exact op_add pins s σ H _ _ v u Q I rx ry ⟨i, j, rfl, rfl, l _ H (.int (i + j)) M Ext.rfl' R rfl h3⟩
  · cases e <;> first | exact h3.elim | skip
    rename_i i j
    cases (show x = .str i from h1)
    cases (show y = .str j from h2)
    exact op_add_str pins s σ H _ _ v u Q I rx ry ⟨i, j, rfl, rfl, h3.1, l _ H (.str (i ++ j)) M Ext.rfl' R rfl h3.2⟩
  · cases e <;> first | exact h3.elim | skip
    rename_i ds es
    obtain ⟨a, xs, e1, a2, a3⟩ := h1
    obtain ⟨b, ys, e2, b2, b3⟩ := h2
    subst e1
    subst e2
    have n1 := a3.len
    have n2 := b3.len
    refine op_catA pins s σ H _ _ v u Q I rx ry ⟨a, b, xs, ys, rfl, rfl, a2, b2, by rw [n1, n2]; exact h3.1, fun z => ?_, fun _ z => ?_, fun _ _ p hp => ?_⟩
    · subst z
      have z' : ds = [] := List.eq_nil_of_length_eq_zero n1.symm
      subst z'
      exact l _ H (.tup es) M Ext.rfl' R ⟨b, ys, rfl, b2, b3⟩ h3.2
    · subst z
      have z' : es = [] := List.eq_nil_of_length_eq_zero n2.symm
      subst z'
      refine l _ H (.tup ds) M Ext.rfl' R ⟨a, xs, rfl, a2, a3⟩ ?_
      have q := h3.2
      rw [List.append_nil] at q
      exact q
    · have e' := new_ext R.rel (o := HO.tup (xs ++ ys)) hp
      exact l _ _ (.tup (ds ++ es)) M e' (R.new hp) ⟨p, xs ++ ys, rfl, SqT.of upd_same, DVs.app (DVs.ext R.rel e' _ _ a3) (DVs.ext R.rel e' _ _ b3)⟩ h3.2
  · cases e <;> first | exact h3.elim | skip
    rename_i ds es
    obtain ⟨a, xs, e1, a2, am, a3⟩ := h1
    obtain ⟨b, ys, e2, b2, bm, b3⟩ := h2
    subst e1
    subst e2
    refine op_cat pins s σ H _ _ v u Q I rx ry ⟨a, b, xs, ys, rfl, rfl, a2, b2, by rw [a3.len, b3.len]; exact h3.1, fun p hp => ?_⟩
    have e' := new_ext R.rel (o := HO.lst (xs ++ ys)) hp
    exact l _ _ (.lst (ds ++ es)) M e' (R.new hp) ⟨p, xs ++ ys, rfl, upd_same, R.rel.free hp, DVs.app (DVs.ext R.rel e' _ _ a3) (DVs.ext R.rel e' _ _ b3)⟩ h3.2
end

/-! ### comparisons -/
def rEqD (neg : Bool) : RD2 := fun d e M Q => match d, e with
  | .int i, .int j => Q (.bl (xor neg (decide (i = j)))) M
  | .str x, .str y => Q (.bl (xor neg (decide (x = y)))) M
  | .bl x, .bl y => Q (.bl (xor neg (decide (x = y)))) M
  | d, e => Dat d 60 ∧ Dat e 60 ∧ Q (.bl (xor neg (deq d e))) M
/-- x is None -/
def rIsND (neg : Bool) : RD2 := fun d e M Q => match e with
  | .non => match d with
    | .non => Q (.bl (!neg)) M
    | _ => Q (.bl neg) M
  | _ => False
section
variable {X : Cx}
theorem od_eq (hu : X.A.units + 64 < cLine) : OpR X (compareOp .Eq) (liftV2 X.K (rEqD false)) := by
  intro pins s σ H x y v u Q I rx ry hh
  obtain ⟨d, e, M, F, Qd, R, h1, h2, h3, l⟩ := hh
  have deep : Dat d 60 ∧ Dat e 60 ∧ Qd (.bl (xor false (deq d e))) M → wpAny (model X.prog X.w) X.A (compareOp .Eq v u) (EP X pins σ Q) X.xe s := fun ⟨p1, p2, q⟩ =>
    op_eqD hu pins s σ H x y v u Q I rx ry ⟨toPy d, toPy e, p1.dp h1, p2.dp h2, p1.shaped (by decide), p2.shaped (by decide), l _ H (.bl (deq d e)) M Ext.rfl' R rfl (by rw [Bool.false_xor] at q; exact q)⟩
  unfold rEqD at h3
  split at h3
  · rename_i i j
    cases (show x = .int i from h1)
    cases (show y = .int j from h2)
    refine op_eq pins s σ H _ _ v u Q I rx ry ⟨rfl, l _ H (.bl _) M Ext.rfl' R rfl ?_⟩
    rw [Bool.false_xor] at h3
    have e : decide (V.int i = V.int j) = decide (i = j) := by simp
    rw [e]; exact h3
  · rename_i i j
    cases (show x = .str i from h1)
    cases (show y = .str j from h2)
    refine op_eq pins s σ H _ _ v u Q I rx ry ⟨rfl, l _ H (.bl _) M Ext.rfl' R rfl ?_⟩
    rw [Bool.false_xor] at h3
    have e : decide (V.str i = V.str j) = decide (i = j) := by simp
    rw [e]; exact h3
  · rename_i i j
    cases (show x = .bl i from h1)
    cases (show y = .bl j from h2)
    refine op_eq pins s σ H _ _ v u Q I rx ry ⟨rfl, l _ H (.bl _) M Ext.rfl' R rfl ?_⟩
    rw [Bool.false_xor] at h3
    have e : decide (V.bl i = V.bl j) = decide (i = j) := by simp
    rw [e]; exact h3
  · exact deep h3
theorem od_ne (hu : X.A.units + 64 < cLine) : OpR X (compareOp .NotEq) (liftV2 X.K (rEqD true)) := by
  intro pins s σ H x y v u Q I rx ry hh
  obtain ⟨d, e, M, F, Qd, R, h1, h2, h3, l⟩ := hh
  have deep : Dat d 60 ∧ Dat e 60 ∧ Qd (.bl (xor true (deq d e))) M → wpAny (model X.prog X.w) X.A (compareOp .NotEq v u) (EP X pins σ Q) X.xe s := fun ⟨p1, p2, q⟩ =>
    op_neD hu pins s σ H x y v u Q I rx ry ⟨toPy d, toPy e, p1.dp h1, p2.dp h2, p1.shaped (by decide), p2.shaped (by decide), l _ H (.bl (!deq d e)) M Ext.rfl' R rfl (by rw [Bool.true_xor] at q; exact q)⟩
  unfold rEqD at h3
  split at h3
  · rename_i i j
    cases (show x = .int i from h1)
    cases (show y = .int j from h2)
    refine op_ne pins s σ H _ _ v u Q I rx ry ⟨rfl, l _ H (.bl _) M Ext.rfl' R rfl ?_⟩
    rw [Bool.true_xor] at h3
    have e : decide (V.int i = V.int j) = decide (i = j) := by simp
    rw [e]; exact h3
  · rename_i i j
    cases (show x = .str i from h1)
    cases (show y = .str j from h2)
    refine op_ne pins s σ H _ _ v u Q I rx ry ⟨rfl, l _ H (.bl _) M Ext.rfl' R rfl ?_⟩
    rw [Bool.true_xor] at h3
    have e : decide (V.str i = V.str j) = decide (i = j) := by simp
    rw [e]; exact h3
  · rename_i i j
    cases (show x = .bl i from h1)
    cases (show y = .bl j from h2)
    refine op_ne pins s σ H _ _ v u Q I rx ry ⟨rfl, l _ H (.bl _) M Ext.rfl' R rfl ?_⟩
    rw [Bool.true_xor] at h3
    have e : decide (V.bl i = V.bl j) = decide (i = j) := by simp
    rw [e]; exact h3
  · exact deep h3
theorem isN_of {K : PySem.W.Frag} {H : Hp} {M : Mem} {d : D} {x : V} (h : DV K H M d x) : decide (x = .non) = (match d with | .non => true | _ => false) := by
  cases d with
  | non => cases (show x = .non from h); rfl
  | bl b => cases (show x = .bl b from h); rfl
  | int b => cases (show x = .int b from h); rfl
  | str b => cases (show x = .str b from h); rfl
  | ty b => cases (show x = .ty b from h); rfl
  | ref b => cases (show x = .ref b from h); rfl
  | tup b => obtain ⟨_, _, e, _⟩ := h; subst e; rfl
  | lst b => obtain ⟨_, _, e, _⟩ := h; subst e; rfl
  | dct b c => obtain ⟨_, _, e, _⟩ := h; subst e; rfl
  | ins a b c => obtain ⟨_, _, _, e, _⟩ := h; subst e; rfl
  | scr b => obtain ⟨_, e, _⟩ := h; subst e; rfl
theorem od_isN : OpR X (compareOp .Is) (liftV2 X.K (rIsND false)) := by
  intro pins s σ H x y v u Q I rx ry hh
  obtain ⟨d, e, M, F, Qd, R, h1, h2, h3, l⟩ := hh
  cases e <;> first | exact h3.elim | skip
  cases (show y = .non from h2)
  refine op_isN pins s σ H _ _ v u Q I rx ry ⟨rfl, l _ H (.bl _) M Ext.rfl' R rfl ?_⟩
  rw [isN_of h1]
  cases d <;> exact h3
theorem od_notN : OpR X (compareOp .IsNot) (liftV2 X.K (rIsND true)) := by
  intro pins s σ H x y v u Q I rx ry hh
  obtain ⟨d, e, M, F, Qd, R, h1, h2, h3, l⟩ := hh
  cases e <;> first | exact h3.elim | skip
  cases (show y = .non from h2)
  refine op_notN pins s σ H _ _ v u Q I rx ry ⟨rfl, l _ H (.bl _) M Ext.rfl' R rfl ?_⟩
  rw [isN_of h1]
  cases d <;> exact h3
end
end DL
namespace DL
open PySem PySem.Spec PyProof.Rows L2

def optK {α : Type} : Option α → (α → Prop) → Prop
  | some a, k => k a
  | none, _ => False
theorem optK_of {α : Type} {o : Option α} {k : α → Prop} (h : optK o k) : ∃ a, o = some a ∧ k a := by
  cases o with
  | none => exact h.elim
  | some a => exact ⟨a, rfl, h⟩
def moSeq : Option MO → Option (List D)
  | some (.lst xs) => some xs
  | _ => none
def moTy : Option MO → Option String
  | some (.lst _) => some "list"
  | some (.dct _ _) => some "dict"
  | _ => none
/-- the items of what is a list or a tuple -/
def seqOf (M : Mem) : D → Option (List D)
  | .lst xs => some xs
  | .tup xs => some xs
  | .ref a => moSeq (M a)
  | _ => none
/-- the type's name -/
def tyN (M : Mem) : D → Option String
  | .non => some "NoneType"
  | .bl _ => some "bool"
  | .int _ => some "int"
  | .str _ => some "str"
  | .tup _ => some "tuple"
  | .lst _ => some "list"
  | .dct _ _ => some "dict"
  | .ref a => moTy (M a)
  | _ => none
def isB (a b : String) : Bool := a == b || (a == "bool" && b == "int")
theorem isB_ok : ∀ a ∈ ["NoneType", "bool", "int", "str", "tuple", "list", "dict"], ∀ b ∈ ["bool", "int", "str", "tuple", "list", "dict"], kitB a b = some (isB a b) := by decide +kernel
section
variable {K : PySem.W.Frag} {H : Hp} {M F : Mem}
theorem seqOf_ok (R : Rm K H M F) {d : D} {xs : List D} {x : V} (h : seqOf M d = some xs) (g : DV K H (uni M F) d x) : ∃ a ys, x = .ref a ∧ (SqL K H a ys ∨ SqT K H a ys) ∧ DVs K H (uni M F) xs ys := by
  cases d <;> first | cases h | skip
  · rename_i a
    cases (show x = .ref a from g)
    have h' : moSeq (M a) = some xs := h
    unfold moSeq at h'
    split at h'
    · rename_i ys e
      cases h'
      obtain ⟨zs, q1, q2⟩ := R.get e
      exact ⟨a, zs, rfl, .inl (SqL.of q1), q2⟩
    · cases h'
  · obtain ⟨a, ys, e, q1, q2⟩ := g
    exact ⟨a, ys, e, .inr q1, q2⟩
  · obtain ⟨a, ys, e, q1, _, q2⟩ := g
    exact ⟨a, ys, e, .inl (SqL.of q1), q2⟩
theorem tyX_tup {a : Addr} {xs : List V} (h : SqT K H a xs) : TyX K H (.ref a) (.type "tuple") := by
  rcases h with (h | ⟨o, h⟩) | ⟨o, its, n, h1, h2, _⟩
  · exact .base (.tup h)
  · exact .fTuple h
  · exact .kTuple h1 h2
theorem tyN_ok (R : Rm K H M F) {d : D} {n : String} {x : V} (h : tyN M d = some n) (g : DV K H (uni M F) d x) : TyX K H x (.type n) ∧ n ∈ ["NoneType", "bool", "int", "str", "tuple", "list", "dict"] := by
  cases d <;> first | cases h | skip
  · cases (show x = .non from g); exact ⟨.base .non, by decide⟩
  · rename_i b; cases (show x = .bl b from g); exact ⟨.base (.bl b), by decide⟩
  · rename_i b; cases (show x = .int b from g); exact ⟨.base (.int b), by decide⟩
  · rename_i b; cases (show x = .str b from g); exact ⟨.base (.str b), by decide⟩
  · rename_i a
    cases (show x = .ref a from g)
    have h' : moTy (M a) = some n := h
    unfold moTy at h'
    split at h'
    · rename_i ys e
      cases h'
      obtain ⟨zs, q1, q2⟩ := R.get e
      exact ⟨.base (.lst q1), by decide⟩
    · rename_i ks ys e
      cases h'
      obtain ⟨zs, q1, q2⟩ := R.get e
      exact ⟨.base (.dK q1), by decide⟩
    · cases h'
  · obtain ⟨a, ys, e, q1, q2⟩ := g
    subst e
    exact ⟨tyX_tup q1, by decide⟩
  · obtain ⟨a, ys, e, q1, _, q2⟩ := g
    subst e
    exact ⟨.base (.lst q1), by decide⟩
  · obtain ⟨a, ys, e, q1, _, q2⟩ := g
    subst e
    rcases q1 with q1 | ⟨o, q1⟩
    · exact ⟨.base (.dK q1), by decide⟩
    · exact ⟨.fDict q1, by decide⟩
theorem atI_rel {ds : List D} {xs : List V} {i : Int} {d : D} (h : DVs K H M ds xs) (e : atI ds i = some d) : ∃ x, atI xs i = some x ∧ DV K H M d x := by
  unfold atI at e ⊢
  rw [h.len]
  cases q : ixN ds.length i with
  | none => rw [q] at e; cases e
  | some j =>
    rw [q] at e
    exact h.get e
theorem cut_rel {ds : List D} {xs : List V} {lo hi : Option Int} (h : DVs K H M ds xs) :
    DVs K H M ((ds.drop (HT.sIx ds.length 0 lo)).take (HT.sIx ds.length ds.length hi - HT.sIx ds.length 0 lo)) (cutV xs lo hi) := by
  unfold cutV
  rw [h.len]
  exact (h.drop _).take _
end

/-! ### subscripts -/
def rIxD : RD2 := fun d e M Q => match e with
  | .int i => match d with
    | .str z => z.length ≤ sizeLine ∧ optK (atI z.cps.toList i) fun c => Q (.str ⟨#[c]⟩) M
    | d => optK (seqOf M d) fun xs => optK (atI xs i) fun v => Q v M
  | _ => False
def cutL {α : Type} (xs : List α) (lo hi : Option Int) : List α := (xs.drop (HT.sIx xs.length 0 lo)).take (HT.sIx xs.length xs.length hi - HT.sIx xs.length 0 lo)
def rSlD (d : D) (lo hi : Option Int) (M : Mem) (Q : KN) : Prop := match d with
  | .str z => z.length ≤ sizeLine ∧ Q (.str (cutS z lo hi)) M
  | .tup xs => Q (.tup (cutL xs lo hi)) M
  | .lst xs => Q (.lst (cutL xs lo hi)) M
  | .scr ns => Q (.lst ((cutL ns lo hi).map D.int)) M
  | .ref a => optK (moSeq (M a)) fun xs => Q (.lst (cutL xs lo hi)) M
  | _ => False
def liftSl (K : PySem.W.Frag) (r : D → Option Int → Option Int → Mem → KN → Prop) : V → Option Int → Option Int → Hp → VK → Prop := fun x lo hi H Q => ∃ d M F Qd, Rm K H M F ∧ DV K H (uni M F) d x ∧ r d lo hi M Qd ∧ LkG K F (rE K) H M Qd Q
theorem cutV_map {α : Type} (f : α → V) (ns : List α) (lo hi : Option Int) : cutV (ns.map f) lo hi = (cutL ns lo hi).map f := by
  unfold cutV cutL
  rw [List.length_map, List.map_take, List.map_drop]
theorem DVs.ints {K : PySem.W.Frag} {H : Hp} {M : Mem} : ∀ ns : List Int, DVs K H M (ns.map D.int) (ns.map V.int)
  | [] => rfl
  | n :: ns => ⟨.int n, ns.map V.int, rfl, rfl, DVs.ints ns⟩
section
variable {X : Cx}
theorem id_ix : IxR X (liftV2 X.K rIxD) := by
  intro value slice pins s σ H x y v u Q I rx ry hh hsub
  obtain ⟨d, e, M, F, Qd, R, h1, h2, h3, l⟩ := hh
  cases e <;> first | exact h3.elim | skip
  rename_i i
  cases (show y = .int i from h2)
  have seq : optK (seqOf M d) (fun xs => optK (atI xs i) fun v => Qd v M) → wpAny (model X.prog X.w) X.A (subscriptTail value slice v u) (EP X pins σ Q) X.xe s := fun q => by
    obtain ⟨xs, q1, q⟩ := optK_of q
    obtain ⟨w, q2, q⟩ := optK_of q
    obtain ⟨a, ys, e, sq, dv⟩ := seqOf_ok R q1 h1
    subst e
    obtain ⟨z, g1, g2⟩ := atI_rel dv q2
    rcases sq with sq | sq
    · exact ix_list value slice pins s σ H _ _ v u Q I rx ry ⟨a, ys, i, z, rfl, rfl, sq, g1, l z H w M Ext.rfl' R g2 q⟩ hsub
    · exact ix_tup value slice pins s σ H _ _ v u Q I rx ry ⟨a, ys, i, z, rfl, rfl, sq, g1, l z H w M Ext.rfl' R g2 q⟩ hsub
  cases d <;> first | exact seq h3 | skip
  rename_i z
  cases (show x = .str z from h1)
  obtain ⟨hz, h3⟩ := h3
  obtain ⟨c, q1, q⟩ := optK_of h3
  exact ix_str value slice pins s σ H _ _ v u Q I rx ry ⟨z, i, c, rfl, rfl, hz, q1, l (.str ⟨#[c]⟩) H (.str ⟨#[c]⟩) M Ext.rfl' R rfl q⟩ hsub
theorem sd_sl : SlR X (liftSl X.K rSlD) := by
  intro pins s σ H x v vl vu lo hi sl Q I rx hs pl pu hh
  obtain ⟨d, M, F, Qd, R, h1, h3, l⟩ := hh
  cases d <;> first | exact h3.elim | skip
  · rename_i z
    cases (show x = .str z from h1)
    exact sl_str pins s σ H _ v vl vu lo hi sl Q I rx hs pl pu ⟨z, rfl, h3.1, l (.str (cutS z lo hi)) H (.str (cutS z lo hi)) M Ext.rfl' R rfl h3.2⟩
  · rename_i a
    cases (show x = .ref a from h1)
    obtain ⟨xs, e, h3⟩ := optK_of (show optK (moSeq (M a)) (fun xs => Qd (.lst (cutL xs lo hi)) M) from h3)
    unfold moSeq at e
    split at e
    · rename_i zs e'
      cases e
      obtain ⟨ys, q1, q2⟩ := R.get e'
      refine sl_list pins s σ H _ v vl vu lo hi sl Q I rx hs pl pu ⟨a, ys, rfl, SqL.of q1, fun p hp => ?_⟩
      have e' := new_ext R.rel (o := HO.lst (cutV ys lo hi)) hp
      exact l _ _ (.lst (cutL xs lo hi)) M e' (R.new hp) ⟨p, _, rfl, upd_same, R.rel.free hp, DVs.ext R.rel e' _ _ (cut_rel q2)⟩ h3
    · cases e
  · rename_i xs
    obtain ⟨a, ys, e, q1, q2⟩ := h1
    subst e
    refine sl_tupA pins s σ H _ v vl vu lo hi sl Q I rx hs pl pu ⟨a, ys, rfl, q1, fun hw => ?_, fun _ p hp => ?_⟩
    · refine l _ H (.tup (cutL xs lo hi)) M Ext.rfl' R ⟨a, ys, rfl, q1, ?_⟩ h3
      have ee : cutL xs lo hi = xs := by
        rw [q2.len] at hw
        unfold cutL
        rw [hw.1, hw.2, List.drop_zero, Nat.sub_zero, List.take_length]
      rw [ee]
      exact q2
    · have e' := new_ext R.rel (o := HO.tup (cutV ys lo hi)) hp
      exact l _ _ (.tup (cutL xs lo hi)) M e' (R.new hp) ⟨p, _, rfl, SqT.of upd_same, DVs.ext R.rel e' _ _ (cut_rel q2)⟩ h3
  · rename_i xs
    obtain ⟨a, ys, e, q1, qm, q2⟩ := h1
    subst e
    refine sl_list pins s σ H _ v vl vu lo hi sl Q I rx hs pl pu ⟨a, ys, rfl, SqL.of q1, fun p hp => ?_⟩
    have e' := new_ext R.rel (o := HO.lst (cutV ys lo hi)) hp
    exact l _ _ (.lst (cutL xs lo hi)) M e' (R.new hp) ⟨p, _, rfl, upd_same, R.rel.free hp, DVs.ext R.rel e' _ _ (cut_rel q2)⟩ h3
  · rename_i ns
    obtain ⟨a, e, q1⟩ := h1
    subst e
    have sq : SqL X.K H a (ns.map V.int) := by
      rcases q1 with ⟨o, q⟩ | q
      · exact .inl (.inr ⟨o, q⟩)
      · exact .inr q
    refine sl_list pins s σ H _ v vl vu lo hi sl Q I rx hs pl pu ⟨a, _, rfl, sq, fun p hp => ?_⟩
    have e' := new_ext R.rel (o := HO.lst (cutV (ns.map V.int) lo hi)) hp
    refine l _ _ (.lst ((cutL ns lo hi).map D.int)) M e' (R.new hp) ⟨p, _, rfl, upd_same, R.rel.free hp, ?_⟩ h3
    rw [cutV_map]
    exact DVs.ints _
end
/-! slices as expressions -/
abbrev WO := WG (Option Int)
def wNo : WO := fun _ M Q _ => Q none M
def intK : D → (Int → Prop) → Prop
  | .int i, k => k i
  | _, _ => False
def wSome (w : WE) : WO := fun ds M Q Xc => w ds M (fun d M1 => intK d fun i => Q (some i) M1) Xc
def wSl (we : WE) (wl wh : WO) : WE := fun ds M Q Xc => we ds M (fun d M1 => wl ds M1 (fun l M2 => wh ds M2 (fun h M3 => rSlD d l h M3 Q) Xc) Xc) Xc
section
variable {X : Cx} {W : WX} {e : Expr} {we : WE} {lo hi : Option Expr} {wl wh : WO} {pos p2 : Pos}
theorem jo_none : JO X W none wNo := po_mono po_none fun σ H Q h => by
  obtain ⟨ds, M, F, Qd, Xd, hs, _, hw, l1, _⟩ := h
  exact l1 none H none M Ext.rfl' hs.1 rfl hw
theorem jo_some (h : JE X W e we) : JO X W (some e) (wSome we) := po_mono (po_some h) fun σ H Q h => bindE (wa := we) (f := fun d _ M Q _ => intK d fun i => Q (some i) M) h fun v d H1 h => by
  obtain ⟨ds, M, F, Qd, Xd, hs, hv, hw, l1, _⟩ := h
  obtain ⟨_, _, e1, h1, _⟩ := hv
  cases e1
  cases d <;> first | exact hw.elim | skip
  rename_i i
  cases (show v = .int i from h1)
  exact ⟨i, rfl, l1 (some i) H1 (some i) M Ext.rfl' hs.1 rfl hw⟩
theorem j_sl (he : JE X W e we) (hl : JO X W lo wl) (hh : JO X W hi wh) : JE X W (.Subscript e (.Slice lo hi none p2) pos) (wSl we wl wh) :=
  pe_mono (pe_slice sd_sl he hl hh) fun σ H Q h => bindE (wa := we) (f := fun d ds M Q Xc => wl ds M (fun l M2 => wh ds M2 (fun h M3 => rSlD d l h M3 Q) Xc) Xc) h fun v d H1 h =>
    bindO (wa := wl) (f := fun l ds M Q Xc => wh ds M (fun h M3 => rSlD d l h M3 Q) Xc) h fun l H2 h => bindO (wa := wh) (f := fun u _ M Q _ => rSlD d l u M Q) h fun u H3 h => by
      obtain ⟨ds, M, F, Qd, Xd, hs, hv, hw, l1, _⟩ := h
      obtain ⟨_, _, e1, h1, _⟩ := hv
      cases e1
      exact ⟨d, M, F, Qd, hs.1, h1, hw, l1⟩
end

/-! ### built-in functions -/
def rLenD : RDs := fun ds M Q => match ds with
  | [.str z] => z.length ≤ sizeLine ∧ Q (.int z.length) M
  | [d] => optK (seqOf M d) fun xs => Q (.int xs.length) M
  | _ => False
def rIsD : RDs := fun ds M Q => match ds with
  | [d, .ty c] => c ∈ ["bool", "int", "str", "tuple", "list", "dict"] ∧ optK (tyN M d) fun n => Q (.bl (isB n c)) M
  | _ => False
def rIntCD : RDs := fun ds M Q => match ds with
  | [.int i] => Q (.int i) M
  | [.bl b] => Q (.int (if b then 1 else 0)) M
  | _ => False
def rStrCD : RDs := fun ds M Q => match ds with
  | [.int i] => i.natAbs.log2 < 1920 ∧ Q (.str (toString i)) M
  | _ => False
/-- a list of a list's or a tuple's items, one that nobody changes -/
def rListD : RDs := fun ds M Q => match ds with
  | [d] => optK (seqOf M d) fun xs => Q (.lst xs) M
  | _ => False
/-- .. one that is owned -/
def rListO : RDs := fun ds M Q => match ds with
  | [d] => optK (seqOf M d) fun xs => ∀ a, M a = none → Q (.ref a) (mput M a (.lst xs))
  | _ => False
def rTupD : RDs := fun ds M Q => match ds with
  | [d] => optK (seqOf M d) fun xs => Q (.tup xs) M
  | _ => False
def bools : List D → Option (List Bool)
  | [] => some []
  | .bl b :: ds => (bools ds).map (b :: ·)
  | _ => none
def rAllD (any : Bool) : RDs := fun ds M Q => match ds with
  | [.lst xs] => optK (bools xs) fun bs => Q (.bl (if any then bs.any id else bs.all id)) M
  | _ => False
theorem bools_map {α : Type} (f : α → Bool) : ∀ xs : List α, bools (xs.map fun x => D.bl (f x)) = some (xs.map f)
  | [] => rfl
  | x :: xs => by
    show (bools (xs.map fun x => D.bl (f x))).map (f x :: ·) = _
    rw [bools_map f xs]
    rfl
theorem DVs.bools {K : PySem.W.Frag} {H : Hp} {M : Mem} : ∀ {ds : List D} {bs : List Bool} {xs : List V}, bools ds = some bs → DVs K H M ds xs → xs = bs.map V.bl
  | [], bs, xs, h, g => by
    cases h
    exact g
  | d :: ds, bs, xs, h, g => by
    obtain ⟨y, ys, e, g1, g2⟩ := g
    subst e
    cases d <;> first | cases h | skip
    rename_i b
    cases (show y = .bl b from g1)
    cases q : DL.bools ds with
    | none =>
      have h' : (DL.bools ds).map (b :: ·) = some bs := h
      rw [q] at h'
      cases h'
    | some cs =>
      have h' : (DL.bools ds).map (b :: ·) = some bs := h
      rw [q] at h'
      cases h'
      rw [DVs.bools q g2]
      rfl
section
variable {X : Cx}
theorem dv1 {K : PySem.W.Frag} {H : Hp} {M : Mem} {d : D} {xs : List V} (h : DVs K H M [d] xs) : ∃ x, xs = [x] ∧ DV K H M d x := by
  obtain ⟨x, ys, e, h1, h2⟩ := h
  cases (show ys = [] from h2)
  exact ⟨x, e, h1⟩
theorem dv2 {K : PySem.W.Frag} {H : Hp} {M : Mem} {d e : D} {xs : List V} (h : DVs K H M [d, e] xs) : ∃ x y, xs = [x, y] ∧ DV K H M d x ∧ DV K H M e y := by
  obtain ⟨x, ys, e, h1, h2⟩ := h
  obtain ⟨y, e2, h3⟩ := dv1 h2
  subst e2
  exact ⟨x, y, e, h1, h3⟩
theorem cd_len : CallR X (.builtin "len") (liftVs X.K rLenD) := by
  intro pins s σ H xs us Q I r hh
  obtain ⟨ds, M, F, Qd, R, h1, h3, l⟩ := hh
  unfold rLenD at h3
  split at h3
  · rename_i z
    obtain ⟨x, e, g⟩ := dv1 h1
    subst e
    cases (show x = .str z from g)
    exact call_len pins s σ H _ us Q I r ⟨_, z.length, rfl, ⟨h3.1, rfl⟩, l (.int z.length) H (.int z.length) M Ext.rfl' R rfl h3.2⟩
  · rename_i d _
    obtain ⟨x, e, g⟩ := dv1 h1
    subst e
    obtain ⟨ys, q1, q⟩ := optK_of h3
    obtain ⟨a, zs, e, sq, dv⟩ := seqOf_ok R q1 g
    subst e
    refine call_len_seq pins s σ H _ us Q I r ⟨a, zs, rfl, sq, ?_⟩
    rw [dv.len]
    exact l (.int ys.length) H (.int ys.length) M Ext.rfl' R rfl q
  · exact h3.elim
theorem cd_isi : CallR X (.builtin "isinstance") (liftVs X.K rIsD) := by
  intro pins s σ H xs us Q I r hh
  obtain ⟨ds, M, F, Qd, R, h1, h3, l⟩ := hh
  unfold rIsD at h3
  split at h3
  · rename_i d c
    obtain ⟨x, y, e, g1, g2⟩ := dv2 h1
    subst e
    cases (show y = .ty c from g2)
    obtain ⟨hc, h3⟩ := h3
    obtain ⟨n, q1, q⟩ := optK_of h3
    obtain ⟨t, hn⟩ := tyN_ok R q1 g1
    exact call_isi pins s σ H _ us Q I r ⟨x, .ty c, .type n, .type c, isB n c, rfl, .ty c, t, kit_ty (isB_ok n hn c hc), l (.bl (isB n c)) H (.bl (isB n c)) M Ext.rfl' R rfl q⟩
  · exact h3.elim
theorem cd_int : CallR X (.type "int") (liftVs X.K rIntCD) := by
  intro pins s σ H xs us Q I r hh
  obtain ⟨ds, M, F, Qd, R, h1, h3, l⟩ := hh
  unfold rIntCD at h3
  split at h3
  · rename_i i
    obtain ⟨x, e, g⟩ := dv1 h1
    subst e
    cases (show x = .int i from g)
    exact call_int1 pins s σ H _ us Q I r (.inl ⟨i, rfl, l (.int i) H (.int i) M Ext.rfl' R rfl h3⟩)
  · rename_i b
    obtain ⟨x, e, g⟩ := dv1 h1
    subst e
    cases (show x = .bl b from g)
    exact call_int1 pins s σ H _ us Q I r (.inr ⟨b, rfl, l (.int (if b then 1 else 0)) H (.int (if b then 1 else 0)) M Ext.rfl' R rfl h3⟩)
  · exact h3.elim
theorem cd_str : CallR X (.type "str") (liftVs X.K rStrCD) := by
  intro pins s σ H xs us Q I r hh
  obtain ⟨ds, M, F, Qd, R, h1, h3, l⟩ := hh
  unfold rStrCD at h3
  split at h3
  · rename_i i
    obtain ⟨x, e, g⟩ := dv1 h1
    subst e
    cases (show x = .int i from g)
    exact call_str_int pins s σ H _ us Q I r ⟨i, rfl, h3.1, l (.str (toString i)) H (.str (toString i)) M Ext.rfl' R rfl h3.2⟩
  · exact h3.elim
theorem cd_list : CallR X (.type "list") (liftVs X.K rListD) := by
  intro pins s σ H xs us Q I r hh
  obtain ⟨ds, M, F, Qd, R, h1, h3, l⟩ := hh
  unfold rListD at h3
  split at h3
  · rename_i d
    obtain ⟨x, e, g⟩ := dv1 h1
    subst e
    obtain ⟨ys, q1, q⟩ := optK_of h3
    obtain ⟨a, zs, e, sq, dv⟩ := seqOf_ok R q1 g
    subst e
    refine call_list_of pins s σ H _ us Q I r ⟨a, zs, rfl, sq, fun p hp => ?_⟩
    have e' := new_ext R.rel (o := HO.lst zs) hp
    exact l _ _ (.lst ys) M e' (R.new hp) ⟨p, _, rfl, upd_same, R.rel.free hp, DVs.ext R.rel e' _ _ dv⟩ q
  · exact h3.elim
theorem cd_listO : CallR X (.type "list") (liftVs X.K rListO) := by
  intro pins s σ H xs us Q I r hh
  obtain ⟨ds, M, F, Qd, R, h1, h3, l⟩ := hh
  unfold rListO at h3
  split at h3
  · rename_i d
    obtain ⟨x, e, g⟩ := dv1 h1
    subst e
    obtain ⟨ys, q1, q⟩ := optK_of h3
    obtain ⟨a, zs, e, sq, dv⟩ := seqOf_ok R q1 g
    subst e
    refine call_list_of pins s σ H _ us Q I r ⟨a, zs, rfl, sq, fun p hp => ?_⟩
    have e' := R.xown (o := HO.lst zs) (u := .lst ys) hp
    exact l _ _ (.ref p) _ e' (R.own hp ⟨zs, upd_same, DVs.ext R.rel e' _ _ dv⟩) rfl (q p (R.mfree hp))
  · exact h3.elim
theorem cd_tup : CallR X (.type "tuple") (liftVs X.K rTupD) := by
  intro pins s σ H xs us Q I r hh
  obtain ⟨ds, M, F, Qd, R, h1, h3, l⟩ := hh
  unfold rTupD at h3
  split at h3
  · rename_i d
    obtain ⟨x, e, g⟩ := dv1 h1
    subst e
    obtain ⟨ys, q1, q⟩ := optK_of h3
    obtain ⟨a, zs, e, sq, dv⟩ := seqOf_ok R q1 g
    subst e
    rcases sq with sq | sq
    · refine call_tuple_of pins s σ H _ us Q I r ⟨a, zs, rfl, .inl ⟨sq, fun p hp => ?_⟩⟩
      have e' := new_ext R.rel (o := HO.tup zs) hp
      exact l _ _ (.tup ys) M e' (R.new hp) ⟨p, _, rfl, SqT.of upd_same, DVs.ext R.rel e' _ _ dv⟩ q
    · exact call_tuple_of pins s σ H _ us Q I r ⟨a, zs, rfl, .inr ⟨sq, l (.ref a) H (.tup ys) M Ext.rfl' R ⟨a, zs, rfl, sq, dv⟩ q⟩⟩
  · exact h3.elim
theorem cd_all (hc : X.calm = true) : CallR X (.builtin "all") (liftVs X.K (rAllD false)) := by
  intro pins s σ H xs us Q I r hh
  obtain ⟨ds, M, F, Qd, R, h1, h3, l⟩ := hh
  unfold rAllD at h3
  split at h3
  · rename_i ys
    obtain ⟨x, e, g⟩ := dv1 h1
    subst e
    obtain ⟨bs, q1, q⟩ := optK_of h3
    obtain ⟨a, zs, e, g1, _, g2⟩ := g
    subst e
    have e := DVs.bools q1 g2
    subst e
    exact cr_all hc pins s σ H _ us Q I r ⟨a, bs, rfl, SqL.of g1, l (.bl (bs.all id)) H (.bl (bs.all id)) M Ext.rfl' R rfl q⟩
  · exact h3.elim
theorem cd_any (hc : X.calm = true) : CallR X (.builtin "any") (liftVs X.K (rAllD true)) := by
  intro pins s σ H xs us Q I r hh
  obtain ⟨ds, M, F, Qd, R, h1, h3, l⟩ := hh
  unfold rAllD at h3
  split at h3
  · rename_i ys
    obtain ⟨x, e, g⟩ := dv1 h1
    subst e
    obtain ⟨bs, q1, q⟩ := optK_of h3
    obtain ⟨a, zs, e, g1, _, g2⟩ := g
    subst e
    have e := DVs.bools q1 g2
    subst e
    exact cr_any hc pins s σ H _ us Q I r ⟨a, bs, rfl, SqL.of g1, l (.bl (bs.any id)) H (.bl (bs.any id)) M Ext.rfl' R rfl q⟩
  · exact h3.elim
end
section
variable {X : Cx} {W : WX} {x : Str} {p pos : Pos} {e : Expr} {es : List Expr} {wa : WA} {id T : String} {r : RDs}
theorem j_callB (hc : CallR X (.builtin id) (liftVs X.K r)) (hm : X.mg x = none) (hv : bootBuiltins x = some (.builtin id)) (ha : JA X W (e :: es) wa) (hg : Gl X x := by rfl) (hn : x ≠ "__name__" := by decide) (hdb : (x == ("__debug__" : Str)) = false := by decide)
    (he : starEach (e :: es) X.env = (false, eval e X.env) :: starEach es X.env := by rfl) (hpl : (backTo pos (starEach es X.env)).any (·.1) = false := by rfl) : JE X W (.Call (.Name x p) (e :: es) [] pos) (wCB r wa) :=
  pe_mono (pe_callB hc hg hm hv ha hn hdb he hpl) fun σ H Q h => bindA (wa := wa) (f := fun xs _ M Q _ => r xs M Q) h fun xs ds H1 h => finS (by rw [List.append_nil, List.append_nil] at h; exact h)
theorem j_callTy (hc : CallR X (.type T) (liftVs X.K r)) (hm : X.mg x = none) (hv : bootBuiltins x = some (.type T)) (ha : JA X W (e :: es) wa) (hg : Gl X x := by rfl) (hn : x ≠ "__name__" := by decide) (hdb : (x == ("__debug__" : Str)) = false := by decide)
    (he : starEach (e :: es) X.env = (false, eval e X.env) :: starEach es X.env := by rfl) (hpl : (backTo pos (starEach es X.env)).any (·.1) = false := by rfl) : JE X W (.Call (.Name x p) (e :: es) [] pos) (wCB r wa) :=
  pe_mono (pe_callTy hc hg hm hv ha hn hdb he hpl) fun σ H Q h => bindA (wa := wa) (f := fun xs _ M Q _ => r xs M Q) h fun xs ds H1 h => finS (by rw [List.append_nil, List.append_nil] at h; exact h)
end
end DL
namespace DL
open PySem PySem.Spec PyProof.Rows L2

/-! ### tests, truth values -/
def isBl : D → (Bool → Prop) → Prop
  | .bl b, k => k b
  | _, _ => False
def wTest (w : WE) : WT := fun ds M Q Xc => w ds M (fun d M1 => isBl d fun b => Q b M1) Xc
def wAndT (t u : WT) : WT := fun ds M Q Xc => t ds M (fun b M1 => if b = true then u ds M1 Q Xc else Q false M1) Xc
def wOrT (t u : WT) : WT := fun ds M Q Xc => t ds M (fun b M1 => if b = true then Q true M1 else u ds M1 Q Xc) Xc
def wNotT (t : WT) : WT := fun ds M Q Xc => t ds M (fun b M1 => Q (!b) M1) Xc
def wAndV (wa wb : WE) : WE := fun ds M Q Xc => wa ds M (fun d M1 => isBl d fun b => if b = true then wb ds M1 Q Xc else Q (.bl false) M1) Xc
def wOrV (wa wb : WE) : WE := fun ds M Q Xc => wa ds M (fun d M1 => isBl d fun b => if b = true then Q (.bl true) M1 else wb ds M1 Q Xc) Xc
def wNotV (wa : WE) : WE := fun ds M Q Xc => wa ds M (fun d M1 => isBl d fun b => Q (.bl (!b)) M1) Xc
def wIfE (t : WT) (wa wb : WE) : WE := fun ds M Q Xc => t ds M (fun b M1 => if b = true then wa ds M1 Q Xc else wb ds M1 Q Xc) Xc
section
variable {X : Cx} {W : WX} {a b c e : Expr} {wa wb wc : WE} {t u : WT} {rest : List Expr} {pos : Pos} {K : PySem.W.Frag} {σ : L2.St} {H : Hp}
theorem isBl_of {d : D} {k : Bool → Prop} (h : isBl d k) : ∃ b, d = .bl b ∧ k b := by
  cases d <;> first | exact h.elim | skip
  exact ⟨_, rfl, h⟩
/-- the end of a test -/
theorem finT {v : V} {d : D} {Q : Bool → Hp → Prop} (h : lift K W rT [d] [v] (fun _ M Q _ => isBl d fun b => Q b M) σ H Q) : ∃ k, v = .bl k ∧ Q k H := by
  obtain ⟨ds, M, F, Qd, Xd, hs, hv, hw, l1, _⟩ := h
  obtain ⟨_, _, e1, h1, _⟩ := hv
  cases e1
  obtain ⟨b, e2, hw⟩ := isBl_of hw
  subst e2
  cases (show v = .bl b from h1)
  exact ⟨b, rfl, l1 b H b M Ext.rfl' hs.1 rfl hw⟩
theorem finB {b : Bool} {Q : Bool → Hp → Prop} {es : List D} {vs : List V} (h : lift K W rT es vs (fun _ M Q _ => Q b M) σ H Q) : Q b H := by
  obtain ⟨ds, M, F, Qd, Xd, hs, hv, hw, l1, _⟩ := h
  exact l1 b H b M Ext.rfl' hs.1 rfl hw
/-- any expression that gives a bool (no comparison) as a test -/
theorem jt_val (h : JE X W e wa) (he : ∀ whole, isTrue e X.env whole = (do let v ← whole; standAt e.pos; holding [v] (truthy v)) := by intro _; rfl) : JT X W e (wTest wa) :=
  pt_mono (pt_val h he) fun σ H Q h => bindE (wa := wa) (f := fun d _ M Q _ => isBl d fun b => Q b M) h fun v d H1 h => finT h
theorem jt_cmp {op : CmpOp} {r : RD2} (ho : OpR X (compareOp op) (liftV2 X.K r)) (ha : JE X W a wa) (hb : JE X W b wb) (hm : behindInMarks op b = false := by first | exact nomark _ | rfl) : JT X W (.Compare a [op] [b] pos) (wTest (wOp r wa wb)) :=
  pt_mono (pt_cmpR ho ha hb hm) fun σ H Q h => bindE (wa := wa) (f := fun x ds M Q Xc => wb ds M (fun y M2 => r x y M2 fun d M3 => isBl d fun b => Q b M3) Xc) h fun x d H1 h =>
    bindE (wa := wb) (f := fun y _ M Q _ => r d y M fun d M3 => isBl d fun b => Q b M3) h fun y e H2 h => by
      obtain ⟨ds, M, F, Qd, Xd, hs, hv, hw, l1, _⟩ := h
      obtain ⟨_, _, e1, h1, _, _, e2, h2, _⟩ := hv
      cases e1
      cases e2
      refine ⟨d, e, M, F, _, hs.1, h2, h1, hw, fun v H' z M' ex r2 dv q => ?_⟩
      obtain ⟨b, e3, q⟩ := isBl_of q
      subst e3
      cases (show v = .bl b from dv)
      exact ⟨b, rfl, l1 b H' b M' ex r2 rfl q⟩
theorem jt_and1 (ha : JT X W a t) : JW X W (.BoolOp .And [a] pos) t := pw_and1 ha
theorem jt_or1 (ha : JT X W a t) : JW X W (.BoolOp .Or [a] pos) t := pw_or1 ha
theorem ite_tt {A B : Prop} (h : if true = true then A else B) : A := by simpa using h
theorem ite_ff {A B : Prop} (h : if false = true then A else B) : B := by simpa using h
theorem jt_and (ha : JT X W a t) (hb : JW X W (.BoolOp .And (b :: rest) pos) u) : JW X W (.BoolOp .And (a :: b :: rest) pos) (wAndT t u) :=
  pw_mono (pw_and ha hb) fun σ H Q h => bindT (wa := t) (f := fun b ds M Q Xc => if b = true then u ds M Q Xc else Q false M) h fun k H1 h => by
    cases k with
    | true =>
      rw [if_pos rfl]
      obtain ⟨ds, M, F, Qd, Xd, hs, hv, hw, l1, l2⟩ := h
      exact ⟨ds, M, F, Qd, Xd, hs, hv, DL.ite_tt hw, l1, l2⟩
    | false =>
      rw [if_neg Bool.false_ne_true]
      obtain ⟨ds, M, F, Qd, Xd, hs, hv, hw, l1, l2⟩ := h
      exact l1 false H1 false M Ext.rfl' hs.1 rfl (DL.ite_ff hw)
theorem jt_or (ha : JT X W a t) (hb : JW X W (.BoolOp .Or (b :: rest) pos) u) : JW X W (.BoolOp .Or (a :: b :: rest) pos) (wOrT t u) :=
  pw_mono (pw_or ha hb) fun σ H Q h => bindT (wa := t) (f := fun b ds M Q Xc => if b = true then Q true M else u ds M Q Xc) h fun k H1 h => by
    cases k with
    | true =>
      rw [if_pos rfl]
      obtain ⟨ds, M, F, Qd, Xd, hs, hv, hw, l1, l2⟩ := h
      exact l1 true H1 true M Ext.rfl' hs.1 rfl (DL.ite_tt hw)
    | false =>
      rw [if_neg Bool.false_ne_true]
      obtain ⟨ds, M, F, Qd, Xd, hs, hv, hw, l1, l2⟩ := h
      exact ⟨ds, M, F, Qd, Xd, hs, hv, DL.ite_ff hw, l1, l2⟩
theorem jt_not (ha : JT X W a t) : JT X W (.UnaryOp .Not a pos) (wNotT t) :=
  pt_mono (pt_not ha) fun σ H Q h => bindT (wa := t) (f := fun b _ M Q _ => Q (!b) M) h fun k H1 h => by
    obtain ⟨ds, M, F, Qd, Xd, hs, hv, hw, l1, _⟩ := h
    exact l1 (!k) H1 (!k) M Ext.rfl' hs.1 rfl hw
theorem jt_bool (h : JW X W e t) : JT X W e t := PW.pt h
theorem j_one {op} (h : JE X W a wa) : JE X W (.BoolOp op [a] pos) wa := pe_one h
theorem j_and (ha : JE X W a wa) (hb : JE X W (.BoolOp .And (b :: rest) pos) wb) : JE X W (.BoolOp .And (a :: b :: rest) pos) (wAndV wa wb) :=
  pe_mono (pe_and ha hb) fun σ H Q h => bindE (wa := wa) (f := fun d ds M Q Xc => isBl d fun b => if b = true then wb ds M Q Xc else Q (D.bl false) M) h fun v d H1 h => by
    obtain ⟨ds, M, F, Qd, Xd, hs, hv, hw, l1, l2⟩ := h
    obtain ⟨_, _, e1, h1, _⟩ := hv
    cases e1
    obtain ⟨k, e2, hw2⟩ := isBl_of hw
    clear hw
    subst e2
    refine ⟨k, h1, ?_⟩
    cases k with
    | true =>
      rw [if_pos rfl]
      exact ⟨ds, M, F, Qd, Xd, hs, rfl, DL.ite_tt hw2, l1, l2⟩
    | false =>
      rw [if_neg Bool.false_ne_true]
      exact l1 (.bl false) H1 (.bl false) M Ext.rfl' hs.1 rfl (DL.ite_ff hw2)
theorem j_or (ha : JE X W a wa) (hb : JE X W (.BoolOp .Or (b :: rest) pos) wb) : JE X W (.BoolOp .Or (a :: b :: rest) pos) (wOrV wa wb) :=
  pe_mono (pe_or ha hb) fun σ H Q h => bindE (wa := wa) (f := fun d ds M Q Xc => isBl d fun b => if b = true then Q (D.bl true) M else wb ds M Q Xc) h fun v d H1 h => by
    obtain ⟨ds, M, F, Qd, Xd, hs, hv, hw, l1, l2⟩ := h
    obtain ⟨_, _, e1, h1, _⟩ := hv
    cases e1
    obtain ⟨k, e2, hw2⟩ := isBl_of hw
    clear hw
    subst e2
    refine ⟨k, h1, ?_⟩
    cases k with
    | true =>
      rw [if_pos rfl]
      exact l1 (.bl true) H1 (.bl true) M Ext.rfl' hs.1 rfl (DL.ite_tt hw2)
    | false =>
      rw [if_neg Bool.false_ne_true]
      exact ⟨ds, M, F, Qd, Xd, hs, rfl, DL.ite_ff hw2, l1, l2⟩
theorem j_not (ha : JE X W a wa) : JE X W (.UnaryOp .Not a pos) (wNotV wa) :=
  pe_mono (pe_not ha) fun σ H Q h => bindE (wa := wa) (f := fun d _ M Q _ => isBl d fun b => Q (D.bl (!b)) M) h fun v d H1 h => by
    obtain ⟨ds, M, F, Qd, Xd, hs, hv, hw, l1, l2⟩ := h
    obtain ⟨_, _, e1, h1, _⟩ := hv
    cases e1
    obtain ⟨k, e2, hw2⟩ := isBl_of hw
    clear hw
    subst e2
    exact ⟨k, h1, l1 (.bl (!k)) H1 (.bl (!k)) M Ext.rfl' hs.1 rfl hw2⟩
theorem j_if (hc : JT X W c t) (ha : JE X W a wa) (hb : JE X W b wb) : JE X W (.IfExp c a b pos) (wIfE t wa wb) :=
  pe_mono (pe_ifExp hc ha hb) fun σ H Q h => bindT (wa := t) (f := fun b ds M Q Xc => if b = true then wa ds M Q Xc else wb ds M Q Xc) h fun k H1 h => by
    obtain ⟨ds, M, F, Qd, Xd, hs, hv, hw, l1, l2⟩ := h
    cases k with
    | true =>
      rw [if_pos rfl]
      exact ⟨ds, M, F, Qd, Xd, hs, rfl, DL.ite_tt hw, l1, l2⟩
    | false =>
      rw [if_neg Bool.false_ne_true]
      exact ⟨ds, M, F, Qd, Xd, hs, rfl, DL.ite_ff hw, l1, l2⟩
/-- a op b op' c -/
def wChain (r r' : RD2) (wa wb wc : WE) : WE := fun ds M Q Xc => wa ds M (fun x M1 => wb ds M1 (fun y M2 => r x y M2 fun z M3 => isBl z fun k =>
  if k = true then wc ds M3 (fun w M4 => r' y w M4 fun z2 M5 => isBl z2 fun k2 => Q (.bl k2) M5) Xc else Q (.bl false) M3) Xc) Xc
end

/-! ### displays -/
def wTup (wa : WA) : WE := fun ds M Q Xc => wa ds M (fun xs M1 => xs.length ≤ sizeLine ∧ Q (.tup xs) M1) Xc
def wLst (wa : WA) : WE := fun ds M Q Xc => wa ds M (fun xs M1 => xs.length ≤ sizeLine ∧ Q (.lst xs) M1) Xc
def wLstO (wa : WA) : WE := fun ds M Q Xc => wa ds M (fun xs M1 => xs.length ≤ sizeLine ∧ ∀ a, M1 a = none → Q (.ref a) (mput M1 a (.lst xs))) Xc
section
variable {X : Cx} {W : WX} {es : List Expr} {wa : WA} {pos : Pos}
theorem j_tup {k : Nat} (h : JA X W es wa) : JE X W (.Tuple es k pos) (wTup wa) :=
  pe_mono (pe_tup h) fun σ H Q h => bindA (wa := wa) (f := fun xs _ M Q _ => xs.length ≤ sizeLine ∧ Q (D.tup xs) M) h fun xs ds H1 h => by
    obtain ⟨_, M, F, Qd, Xd, hs, hv, hw, l1, l2⟩ := h
    rw [List.append_nil, List.append_nil] at hv
    refine ⟨by rw [hv.len]; exact hw.1, fun p hp => ?_⟩
    have e' := new_ext hs.1.rel (o := HO.tup xs) hp
    exact l1 _ _ (.tup ds) M e' (hs.1.new hp) ⟨p, xs, rfl, SqT.of upd_same, DVs.ext hs.1.rel e' _ _ hv⟩ hw.2
theorem j_lst (h : JA X W es wa) : JE X W (.List es pos) (wLst wa) :=
  pe_mono (pe_lst h) fun σ H Q h => bindA (wa := wa) (f := fun xs _ M Q _ => xs.length ≤ sizeLine ∧ Q (D.lst xs) M) h fun xs ds H1 h => by
    obtain ⟨_, M, F, Qd, Xd, hs, hv, hw, l1, l2⟩ := h
    rw [List.append_nil, List.append_nil] at hv
    refine ⟨by rw [hv.len]; exact hw.1, fun p hp => ?_⟩
    have e' := new_ext hs.1.rel (o := HO.lst xs) hp
    exact l1 _ _ (.lst ds) M e' (hs.1.new hp) ⟨p, xs, rfl, upd_same, hs.1.rel.free hp, DVs.ext hs.1.rel e' _ _ hv⟩ hw.2
theorem j_lstO (h : JA X W es wa) : JE X W (.List es pos) (wLstO wa) :=
  pe_mono (pe_lst h) fun σ H Q h => bindA (wa := wa) (f := fun xs _ M Q _ => xs.length ≤ sizeLine ∧ ∀ a, M a = none → Q (D.ref a) (mput M a (.lst xs))) h fun xs ds H1 h => by
    obtain ⟨_, M, F, Qd, Xd, hs, hv, hw, l1, l2⟩ := h
    rw [List.append_nil, List.append_nil] at hv
    refine ⟨by rw [hv.len]; exact hw.1, fun p hp => ?_⟩
    have e' := hs.1.xown (o := HO.lst xs) (u := .lst ds) hp
    exact l1 _ _ (.ref p) _ e' (hs.1.own hp ⟨xs, upd_same, DVs.ext hs.1.rel e' _ _ hv⟩) rfl (hw.2 p (hs.1.mfree hp))
end

/-! ### in -/
def oneSign (x : Str) : Option Nat := match x.cps.toList with
  | [c] => some c
  | _ => none
def flatD : D → Bool
  | .non => true
  | .bl _ => true
  | .int _ => true
  | .str _ => true
  | _ => false
def inD (d : D) (xs : List D) : Bool := xs.any fun y => deq y d
def rInD (neg : Bool) : RD2 := fun d e M Q => match e with
  | .str z => match d with
    | .str x => optK (oneSign x) fun c => Q (.bl (xor neg (decide (c ∈ z.cps.toList)))) M
    | _ => False
  | e => optK (seqOf M e) fun xs => flatD d = true ∧ xs.all flatD = true ∧ Q (.bl (xor neg (inD d xs))) M
section
variable {X : Cx} {K : PySem.W.Frag} {H : Hp} {M : Mem}
theorem flat_ok {d : D} {x : V} (h : flatD d = true) (g : DV K H M d x) : flatV x = true := by
  cases d <;> first | cases h | skip
  · cases (show x = .non from g); rfl
  · rename_i b; cases (show x = .bl b from g); rfl
  · rename_i b; cases (show x = .int b from g); rfl
  · rename_i b; cases (show x = .str b from g); rfl
theorem eqV_ok {d e : D} {x y : V} (h : flatD d = true) (h2 : flatD e = true) (g : DV K H M d x) (g2 : DV K H M e y) : eqV x y = deq d e := by
  cases d <;> first | cases h | skip
  all_goals (cases e <;> first | cases h2 | skip)
  all_goals (cases (show x = _ from g); cases (show y = _ from g2); rfl)
theorem flats_ok : ∀ {ds : List D} {xs : List V}, ds.all flatD = true → DVs K H M ds xs → xs.all flatV = true
  | [], xs, _, g => by
    cases (show xs = [] from g)
    rfl
  | d :: ds, xs, h, g => by
    obtain ⟨y, ys, e, g1, g2⟩ := g
    subst e
    rw [List.all_cons, Bool.and_eq_true] at h
    rw [List.all_cons, flat_ok h.1 g1, flats_ok h.2 g2]
    rfl
theorem inV_ok {d : D} {x : V} (hd : flatD d = true) (g : DV K H M d x) : ∀ {ds : List D} {xs : List V}, ds.all flatD = true → DVs K H M ds xs → inV x xs = inD d ds
  | [], xs, _, g => by
    cases (show xs = [] from g)
    rfl
  | e :: ds, xs, h, g' => by
    obtain ⟨y, ys, e2, g1, g2⟩ := g'
    subst e2
    rw [List.all_cons, Bool.and_eq_true] at h
    show (eqV y x || inV x ys) = (deq e d || inD d ds)
    rw [eqV_ok h.1 hd g1 g, inV_ok hd g h.2 g2]
theorem one_of {x : Str} {c : Nat} (h : oneSign x = some c) : x = ⟨#[c]⟩ := by
  unfold oneSign at h
  split at h
  · rename_i c' e
    cases h
    cases x with
    | mk a =>
      have e' : a.toList = [c] := e
      have : a = #[c] := by
        apply Array.ext'
        rw [e']
      rw [this]
  · cases h
theorem od_in : OpR X (compareOp .In) (liftV2 X.K (rInD false)) := by
  intro pins s σ H x y v u Q I rx ry hh
  obtain ⟨d, e, M, F, Qd, R, h1, h2, h3, l⟩ := hh
  have seq : optK (seqOf M e) (fun xs => flatD d = true ∧ xs.all flatD = true ∧ Qd (.bl (xor false (inD d xs))) M) → wpAny (model X.prog X.w) X.A (compareOp .In v u) (EP X pins σ Q) X.xe s := fun q => by
    obtain ⟨xs, q1, q2, q3, q⟩ := optK_of q
    obtain ⟨a, ys, e, sq, dv⟩ := seqOf_ok R q1 h2
    subst e
    refine op_in_seq pins s σ H _ _ v u Q I rx ry ⟨a, ys, rfl, sq, flat_ok q2 h1, flats_ok q3 dv, ?_⟩
    rw [inV_ok q2 h1 q3 dv]
    rw [Bool.false_xor] at q
    exact l (.bl _) H (.bl _) M Ext.rfl' R rfl q
  cases e <;> first | exact seq h3 | skip
  rename_i z
  cases (show y = .str z from h2)
  cases d <;> first | exact h3.elim | skip
  rename_i w
  cases (show x = .str w from h1)
  obtain ⟨c, q1, q⟩ := optK_of h3
  rw [Bool.false_xor] at q
  cases one_of q1
  exact op_in_sign pins s σ H _ _ v u Q I rx ry ⟨c, z, rfl, rfl, l (.bl _) H (.bl _) M Ext.rfl' R rfl q⟩
theorem od_notIn : OpR X (compareOp .NotIn) (liftV2 X.K (rInD true)) := by
  intro pins s σ H x y v u Q I rx ry hh
  obtain ⟨d, e, M, F, Qd, R, h1, h2, h3, l⟩ := hh
  have seq : optK (seqOf M e) (fun xs => flatD d = true ∧ xs.all flatD = true ∧ Qd (.bl (xor true (inD d xs))) M) → wpAny (model X.prog X.w) X.A (compareOp .NotIn v u) (EP X pins σ Q) X.xe s := fun q => by
    obtain ⟨xs, q1, q2, q3, q⟩ := optK_of q
    obtain ⟨a, ys, e, sq, dv⟩ := seqOf_ok R q1 h2
    subst e
    refine op_notIn_seq pins s σ H _ _ v u Q I rx ry ⟨a, ys, rfl, sq, flat_ok q2 h1, flats_ok q3 dv, ?_⟩
    rw [inV_ok q2 h1 q3 dv]
    rw [Bool.true_xor] at q
    exact l (.bl _) H (.bl _) M Ext.rfl' R rfl q
  cases e <;> first | exact seq h3 | skip
  rename_i z
  cases (show y = .str z from h2)
  cases d <;> first | exact h3.elim | skip
  rename_i w
  cases (show x = .str w from h1)
  obtain ⟨c, q1, q⟩ := optK_of h3
  rw [Bool.true_xor] at q
  cases one_of q1
  exact op_notIn_sign pins s σ H _ _ v u Q I rx ry ⟨c, z, rfl, rfl, l (.bl _) H (.bl _) M Ext.rfl' R rfl q⟩
end
section
variable {X : Cx} {W : WX} {a b c : Expr} {wa wb wc : WE} {pos : Pos} {K : PySem.W.Frag}
theorem testE {w : WE} {σ : L2.St} {H : Hp} {Q : Bool → Hp → Prop} (h : liftT K W (wTest w) σ H Q) : liftE K W w σ H (fun x H' => ∃ k, x = .bl k ∧ Q k H') :=
  bindE (wa := w) (f := fun d _ M Q _ => isBl d fun b => Q b M) h fun v d H1 h => finT h
theorem chainE {r r' : RD2} {σ : L2.St} {H : Hp} {Q : VK} (h : liftE K W (wChain r r' wa wb wc) σ H Q) : tChain (liftV2 K r) (liftV2 K r') (liftE K W wa) (liftE K W wb) (liftE K W wc) σ H Q :=
  bindE (wa := wa) (f := fun x ds M Q Xc => wb ds M (fun y M2 => r x y M2 fun z M3 => isBl z fun k =>
      if k = true then wc ds M3 (fun w M4 => r' y w M4 fun z2 M5 => isBl z2 fun k2 => Q (D.bl k2) M5) Xc else Q (D.bl false) M3) Xc) h fun x d H1 h =>
    bindE (wa := wb) (f := fun y ds M Q Xc => r d y M fun z M3 => isBl z fun k => if k = true then wc ds M3 (fun w M4 => r' y w M4 fun z2 M5 => isBl z2 fun k2 => Q (D.bl k2) M5) Xc else Q (D.bl false) M3) h fun y e H2 h => by
      obtain ⟨ds, M, F, Qd, Xd, hs, hv, hw, l1, l2⟩ := h
      obtain ⟨_, _, e1, h1, _, _, e2, h2, _⟩ := hv
      cases e1
      cases e2
      refine ⟨d, e, M, F, _, hs.1, h2, h1, hw, fun v H' z M' ex r2 dv q => ?_⟩
      obtain ⟨b, e3, q2⟩ := isBl_of q
      clear q
      subst e3
      cases (show v = .bl b from dv)
      refine ⟨b, rfl, ?_⟩
      cases b with
      | false => exact l1 (.bl false) H' (.bl false) M' ex r2 rfl (DL.ite_ff q2)
      | true =>
        have q := DL.ite_tt q2
        show lift K W (rE K) [] [] wc σ H' _
        refine bindE (wa := wc) (es := [e]) (vs := [y]) (f := fun w _ M Q _ => r' e w M fun z2 M5 => isBl z2 fun k2 => Q (D.bl k2) M5) (Rr := rE K) (Q := Q) ⟨ds, M', F, Qd, Xd, hs.ext ex r2, ⟨y, [], rfl, DV.ext hs.1.rel ex _ _ h1, rfl⟩, q, l1.ext ex, l2.ext ex⟩ fun u g H3 h => ?_
        obtain ⟨ds, M2, F2, Qd2, Xd2, hs2, hv2, hw2, l12, l22⟩ := h
        obtain ⟨_, _, e1, g1, _, _, e2, g2, _⟩ := hv2
        cases e1
        cases e2
        refine ⟨e, g, M2, F2, _, hs2.1, g2, g1, hw2, fun v H' z M' ex r2 dv q => ?_⟩
        obtain ⟨b, e3, q2⟩ := isBl_of q
        clear q
        subst e3
        cases (show v = .bl b from dv)
        exact l12 (.bl b) H' (.bl b) M' ex r2 rfl q2
/-- a op b op' c, b asked once -/
theorem j_chain {op op' : CmpOp} {r r' : RD2} (ho : OpR X (compareOp op) (liftV2 X.K r)) (ho' : OpR X (compareOp op') (liftV2 X.K r')) (ha : JE X W a wa) (hb : JE X W b wb) (hc : JE X W c wc)
    (hm : lastMarks [op, op'] [b, c] = false := by with_unfolding_all rfl) : JE X W (.Compare a [op, op'] [b, c] pos) (wChain r r' wa wb wc) :=
  pe_mono (pe_chain ho ho' ha hb hc hm) fun σ H Q h => chainE h
theorem jt_chain {op op' : CmpOp} {r r' : RD2} (ho : OpR X (compareOp op) (liftV2 X.K r)) (ho' : OpR X (compareOp op') (liftV2 X.K r')) (ha : JE X W a wa) (hb : JE X W b wb) (hc : JE X W c wc)
    (hm : lastMarks [op, op'] [b, c] = false := by with_unfolding_all rfl) : JT X W (.Compare a [op, op'] [b, c] pos) (wTest (wChain r r' wa wb wc)) :=
  pt_mono (pt_chain ho ho' ha hb hc hm) fun σ H Q h => chainE (testE h)
end
end DL
namespace DL
open PySem PySem.Spec PyProof.Rows L2 RZ

/-! ### targets -/
def Sl (K : PySem.W.Frag) (H : Hp) (N : Mem) (σ : L2.St) (ds : SD) : Prop := ds.length = σ.length ∧ ∀ (i : Nat) (d : D), ds[i]? = some (some d) → ∃ v, σ[i]? = some (some v) ∧ DV K H N d v
/-- only the slots is are stored -/
def PW' (is : List Nat) (σ σ' : L2.St) : Prop := ∀ vs, (∀ i ∈ is, i ∈ vs) → wipe σ' vs = wipe σ vs
abbrev GD := D → SD → (SD → Prop) → Prop
abbrev GDs := List D → SD → (SD → Prop) → Prop
def liftG (K : PySem.W.Frag) (is : List Nat) (g : GD) : TG := fun v σ H Q => ∃ d ds N Gd, RelM K H N ∧ Sl K H N σ ds ∧ DV K H N d v ∧ g d ds Gd ∧ ∀ σ' ds', Sl K H N σ' ds' → PW' is σ σ' → Gd ds' → Q σ' H
def liftGs (K : PySem.W.Frag) (is : List Nat) (g : GDs) : TGs := fun vs σ H Q => ∃ es ds N Gd, RelM K H N ∧ Sl K H N σ ds ∧ DVs K H N es vs ∧ g es ds Gd ∧ ∀ σ' ds', Sl K H N σ' ds' → PW' is σ σ' → Gd ds' → Q σ' H
abbrev JG (X : Cx) (tg : Expr) (is : List Nat) (g : GD) : Prop := PG X tg (liftG X.K is g)
abbrev JGs (X : Cx) (ts : List Expr) (is : List Nat) (g : GDs) : Prop := PGs X ts (liftGs X.K is g)
def gN (i : Nat) : GD := fun d ds Q => Q (ds.set i (some d))
def gNil' : GDs := fun es ds Q => match es with
  | [] => Q ds
  | _ => False
def gCons' (g : GD) (gs : GDs) : GDs := fun es ds Q => match es with
  | e :: es => g e ds fun ds2 => gs es ds2 Q
  | _ => False
def gT (n : Nat) (gs : GDs) : GD := fun d ds Q => match d with
  | .tup es => es.length = n ∧ gs es ds Q
  | _ => False
section
variable {X : Cx} {K : PySem.W.Frag} {H : Hp} {N : Mem} {σ : L2.St} {ds : SD}
theorem pg_mono {tg : Expr} {t t' : TG} (h : PG X tg t) (i : ∀ v σ H Q, t' v σ H Q → t v σ H Q) : PG X tg t' := ⟨fun pins s σ H v u Q I r hw => h.run pins s σ H v u Q I r (i v σ H Q hw)⟩
theorem pgs_mono {ts : List Expr} {t t' : TGs} (h : PGs X ts t) (i : ∀ v σ H Q, t' v σ H Q → t v σ H Q) : PGs X ts t' := ⟨fun pins s σ H v u Q I r hw => h.run pins s σ H v u Q I r (i v σ H Q hw)⟩
theorem Sl.set (S : Sl K H N σ ds) {i : Nat} {d : D} {v : V} (h : DV K H N d v) : Sl K H N (σ.set i (some v)) (ds.set i (some d)) := by
  refine ⟨by rw [List.length_set, List.length_set]; exact S.1, fun j e q => ?_⟩
  by_cases hj : i = j
  · subst hj
    by_cases hi : i < ds.length
    · rw [List.getElem?_set_self hi] at q
      cases q
      exact ⟨v, by rw [List.getElem?_set_self (S.1 ▸ hi)], h⟩
    · rw [List.getElem?_eq_none (by rw [List.length_set]; omega)] at q
      cases q
  · rw [List.getElem?_set_ne hj] at q ⊢
    exact S.2 j e q
theorem wipe_get_in {σ : L2.St} {i : Nat} : ∀ {vs : List Nat}, i ∈ vs → i < σ.length → (wipe σ vs)[i]? = some none
  | [], h, _ => by simp at h
  | v :: vs, h, hl => by
    unfold wipe
    by_cases e : v = i
    · subst e
      rw [List.getElem?_set_self (by rw [wipe_length]; exact hl)]
    · rw [List.getElem?_set_ne e]
      refine wipe_get_in (vs := vs) ?_ hl
      rcases List.mem_cons.mp h with q | q
      · exact absurd q.symm e
      · exact q
theorem wipe_eq {σ τ : L2.St} {vs : List Nat} (hl : σ.length = τ.length) (h : ∀ i, i ∉ vs → σ[i]? = τ[i]?) : wipe σ vs = wipe τ vs := by
  refine List.ext_getElem? fun i => ?_
  by_cases hi : i ∈ vs
  · by_cases hlt : i < σ.length
    · rw [wipe_get_in hi hlt, wipe_get_in hi (hl ▸ hlt)]
    · rw [List.getElem?_eq_none (by rw [wipe_length]; omega), List.getElem?_eq_none (by rw [wipe_length]; omega)]
  · rw [wipe_out hi, wipe_out hi]
    exact h i hi
theorem pw_set {i : Nat} {o : Option V} : PW' [i] σ (σ.set i o) := fun vs h => wipe_eq (by rw [List.length_set]) fun j hj => by
  rw [List.getElem?_set_ne]
  intro e
  subst e
  exact hj (h _ List.mem_cons_self)
theorem pw_trans {is js : List Nat} {σ σ1 σ2 : L2.St} (a : PW' is σ σ1) (b : PW' js σ1 σ2) : PW' (is ++ js) σ σ2 := fun vs h =>
  (b vs fun i hi => h i (List.mem_append_right _ hi)).trans (a vs fun i hi => h i (List.mem_append_left _ hi))
theorem pw_refl : PW' [] σ σ := fun _ _ => rfl
/-- a name -/
theorem jg_name {i : Nat} {x : Str} {pos : Pos} (hN : X.N.Nodup) (hi : X.N[i]? = some x := by rfl) (hx : Loc X.env.scope x := by first | exact Or.inl rfl | exact Or.inr rfl) (hf : X.fn x = true ∨ X.env.scope.names.lookup x = some .local := by first | exact .inl rfl | exact .inr rfl | assumption) : JG X (.Name x pos) [i] (gN i) :=
  pg_mono (pg_name hN hi hx hf) fun v σ H Q h => by
    obtain ⟨d, ds, N, Gd, R, S, dv, hw, l⟩ := h
    exact l _ _ (S.set dv) pw_set hw
theorem jgs_nil : JGs X [] [] gNil' := pgs_mono pgs_nil fun vs σ H Q h => by
  obtain ⟨es, ds, N, Gd, R, S, dv, hw, l⟩ := h
  cases es with
  | nil => exact ⟨dv, l _ _ S pw_refl hw⟩
  | cons e es => exact hw.elim
theorem jgs_cons {e : Expr} {es : List Expr} {is js : List Nat} {g : GD} {gs : GDs} (h1 : JG X e is g) (h2 : JGs X es js gs) (hs : (assignEach (e :: es) X.env).map (·.2) = assign e X.env :: (assignEach es X.env).map (·.2) := by rfl) : JGs X (e :: es) (is ++ js) (gCons' g gs) :=
  pgs_mono (pgs_cons h1 h2 hs) fun vs σ H Q h => by
    obtain ⟨es, ds, N, Gd, R, S, dv, hw, l⟩ := h
    cases es with
    | nil => exact hw.elim
    | cons d es =>
      obtain ⟨y, ys, e, d1, d2⟩ := dv
      subst e
      exact ⟨y, ys, rfl, d, ds, N, _, R, S, d1, hw, fun σ' ds' S' P q => ⟨es, ds', N, Gd, R, S', d2, q, fun σ2 ds2 S2 P2 q2 => l σ2 ds2 S2 (pw_trans P P2) q2⟩⟩
/-- (a, b, ..) -/
theorem jg_tup {es : List Expr} {k n : Nat} {is : List Nat} {gs : GDs} {pos : Pos} (hc : X.calm = true) (h : JGs X es is gs)
    (hn : (assignEach es X.env).length = n := by rfl) (hst : (assignEach es X.env).findIdx? (·.1) = none := by rfl) : JG X (.Tuple es k pos) is (gT n gs) :=
  pg_mono (pg_tup hc h hn hst) fun v σ H Q h => by
    obtain ⟨d, ds, N, Gd, R, S, dv, hw, l⟩ := h
    cases d <;> first | exact hw.elim | skip
    rename_i xs
    obtain ⟨a, ys, e, q1, q2⟩ := dv
    exact ⟨a, ys, e, q1, by rw [q2.len]; exact hw.1, xs, ds, N, Gd, R, S, q2, hw.2, l⟩
end

/-! ### what is walked -/
/-- J walks the items, wherever what was frozen stands -/
def Yl (K : PySem.W.Frag) (J : It) (items : List D) (H0 : Hp) (N0 : Mem) : Prop := ∀ (i : Nat) (H : Hp) (N : Mem), Ext H0 N0 H N → RelM K H N →
  (items.length ≤ i → J.stop i H) ∧ ∀ d, items[i]? = some d → J.go i H ∧ ∀ x H', J.yld i H x H' → Ext H N H' N ∧ RelM K H' N ∧ DV K H' N d x
abbrev WI := WG (List D)
def liftI (K : PySem.W.Frag) (W : WX) (w : WI) : TI := fun σ H R => ∃ ds M F Qd Xd, RelS K F σ H ds M ∧ w ds M Qd Xd ∧
  (∀ J H' items M', Ext H (uni M F) H' (uni M' F) → Rm K H' M' F → Yl K J items H' (uni M' F) → Qd items M' → R J H') ∧ LkX K F H M σ Xd W
abbrev JI (X : Cx) (W : WX) (tg iter : Expr) (w : WI) : Prop := PI X tg iter (liftI X.K W w)
def rngD (lo : Int) (n : Nat) : List D := (List.range n).map fun i => D.int (lo + (i : Nat))
def sgnD (x : Str) : List D := x.cps.toList.map fun c => D.str ⟨#[c]⟩
def enumD (xs : List D) : List D := xs.zipIdx.map fun p => D.tup [.int (p.2 : Nat), p.1]
def zipD (xs ys : List D) : List D := List.zipWith (fun x y => D.tup [x, y]) xs ys
section
variable {K : PySem.W.Frag} {H0 : Hp} {N0 : Mem}
theorem sql_inj {H : Hp} {a : Addr} {xs ys : List V} (h : H a = some (.lst xs)) (x : V) (i : Nat) (g : ∀ zs, SqL K H a zs → zs[i]? = some x) : xs[i]? = some x := g xs (SqL.of h)
theorem yl_list {a : Addr} {ds : List D} {xs : List V} (R0 : RelM K H0 N0) (h : H0 a = some (.lst xs)) (m : N0 a = none) (dv : DVs K H0 N0 ds xs) : Yl K (Itl K a) ds H0 N0 := fun i H N e R => by
  obtain ⟨q1, q2⟩ := e.at h m plain_lst
  refine ⟨fun hi => ⟨xs, SqL.of q1, by rw [dv.len]; exact hi⟩, fun d hd => ?_⟩
  obtain ⟨x, h1, h2⟩ := (DVs.ext R0 e _ _ dv).get hd
  refine ⟨⟨xs, x, SqL.of q1, h1⟩, fun y H' hy => ?_⟩
  obtain ⟨e1, e2⟩ := hy
  subst e1
  have e3 := e2 xs (SqL.of q1)
  rw [h1] at e3
  cases e3
  exact ⟨Ext.rfl', R, h2⟩
theorem yl_tup {a : Addr} {ds : List D} {xs : List V} (R0 : RelM K H0 N0) (h : SqT K H0 a xs) (dv : DVs K H0 N0 ds xs) : Yl K (Itt K a) ds H0 N0 := fun i H N e R => by
  have q1 := SqT.ext R0 e h
  refine ⟨fun hi => ⟨xs, q1, by rw [dv.len]; exact hi⟩, fun d hd => ?_⟩
  obtain ⟨x, h1, h2⟩ := (DVs.ext R0 e _ _ dv).get hd
  refine ⟨⟨xs, x, q1, h1⟩, fun y H' hy => ?_⟩
  obtain ⟨e1, e2⟩ := hy
  subst e1
  have e3 := e2 xs q1
  rw [h1] at e3
  cases e3
  exact ⟨Ext.rfl', R, h2⟩
theorem rngD_len (lo : Int) (n : Nat) : (rngD lo n).length = n := by unfold rngD; rw [List.length_map, List.length_range]
theorem yl_rng {lo : Int} {n : Nat} : Yl K (Itr lo n) (rngD lo n) H0 N0 := fun i H N e R => by
  refine ⟨fun hi => by rw [rngD_len] at hi; exact hi, fun d hd => ?_⟩
  have hi : i < n := by
    have q := (List.getElem?_eq_some_iff.mp hd).1
    rw [rngD_len] at q
    exact q
  refine ⟨hi, fun x H' hy => ?_⟩
  obtain ⟨e1, e2⟩ := hy
  subst e1
  subst e2
  unfold rngD at hd
  rw [List.getElem?_map, List.getElem?_range hi] at hd
  cases hd
  exact ⟨Ext.rfl', R, rfl⟩
theorem yl_str {x : Str} : Yl K (Its x) (sgnD x) H0 N0 := fun i H N e R => by
  refine ⟨fun hi => by unfold sgnD at hi; rw [List.length_map, Array.length_toList] at hi; exact hi, fun d hd => ?_⟩
  unfold sgnD at hd
  rw [List.getElem?_map, Array.getElem?_toList] at hd
  cases q : x.cps[i]? with
  | none => rw [q] at hd; cases hd
  | some c =>
    rw [q] at hd
    cases hd
    refine ⟨(Array.getElem?_eq_some_iff.mp q).1, fun v H' hy => ?_⟩
    obtain ⟨e1, c', e2, e3⟩ := hy
    subst e1
    subst e3
    rw [q] at e2
    cases e2
    exact ⟨Ext.rfl', R, rfl⟩
theorem pair_new {H : Hp} {N : Mem} (R : RelM K H N) {T : Addr} {d e : D} {x y : V} (hT : H T = none) (h1 : DV K H N d x) (h2 : DV K H N e y) :
    Ext H N (upd H T (.tup [x, y])) N ∧ RelM K (upd H T (.tup [x, y])) N ∧ DV K (upd H T (.tup [x, y])) N (.tup [d, e]) (.ref T) := by
  have e' := new_ext R (o := HO.tup [x, y]) hT
  exact ⟨e', new_rel R hT, T, [x, y], rfl, SqT.of upd_same, _, _, rfl, DV.ext R e' _ _ h1, _, _, rfl, DV.ext R e' _ _ h2, rfl⟩
theorem yl_enum {a : Addr} {ds : List D} {xs : List V} (R0 : RelM K H0 N0) (h : H0 a = some (.lst xs)) (m : N0 a = none) (dv : DVs K H0 N0 ds xs) : Yl K (Ite K a) (enumD ds) H0 N0 := fun i H N e R => by
  obtain ⟨q1, q2⟩ := e.at h m plain_lst
  refine ⟨fun hi => ⟨xs, SqL.of q1, by unfold enumD at hi; rw [List.length_map, List.length_zipIdx] at hi; rw [dv.len]; exact hi⟩, fun d hd => ?_⟩
  unfold enumD at hd
  rw [List.getElem?_map, List.getElem?_zipIdx] at hd
  cases q : ds[i]? with
  | none => rw [q] at hd; cases hd
  | some u =>
    rw [q] at hd
    simp only [Option.map_some, Option.some.injEq] at hd
    subst hd
    obtain ⟨x, h1, h2⟩ := (DVs.ext R0 e _ _ dv).get q
    refine ⟨⟨xs, x, SqL.of q1, h1⟩, fun y H' hy => ?_⟩
    obtain ⟨T, z, e1, e2, e3, e4⟩ := hy
    subst e1
    subst e3
    have e5 := e4 xs (SqL.of q1)
    rw [h1] at e5
    cases e5
    exact pair_new R e2 (show DV K H N (.int ((0 + i : Nat) : Int)) (.int (i : Nat)) by rw [Nat.zero_add]; rfl) h2
theorem zip_get {xs ys : List D} {i : Nat} {d : D} (h : (zipD xs ys)[i]? = some d) : ∃ x y, xs[i]? = some x ∧ ys[i]? = some y ∧ d = .tup [x, y] := by
  unfold zipD at h
  rw [List.getElem?_zipWith] at h
  cases q : xs[i]? with
  | none => rw [q] at h; cases h
  | some x =>
    rw [q] at h
    cases q2 : ys[i]? with
    | none => rw [q2] at h; cases h
    | some y =>
      rw [q2] at h
      cases h
      exact ⟨x, y, rfl, rfl, rfl⟩
theorem zip_len {xs ys : List D} {i : Nat} (h : (zipD xs ys).length ≤ i) : xs.length ≤ i ∨ ys.length ≤ i := by
  unfold zipD at h
  rw [List.length_zipWith] at h
  omega
theorem yl_zipL {a b : Addr} {ds es : List D} {xs ys : List V} (R0 : RelM K H0 N0) (h : H0 a = some (.lst xs)) (m : N0 a = none) (dv : DVs K H0 N0 ds xs) (h' : H0 b = some (.lst ys)) (m' : N0 b = none) (dv' : DVs K H0 N0 es ys) :
    Yl K (Itz K a b) (zipD ds es) H0 N0 := fun i H N e R => by
  obtain ⟨q1, _⟩ := e.at h m plain_lst
  obtain ⟨q2, _⟩ := e.at h' m' plain_lst
  refine ⟨fun hi => ⟨xs, ys, SqL.of q1, SqL.of q2, by rw [dv.len, dv'.len]; exact zip_len hi⟩, fun d hd => ?_⟩
  obtain ⟨u, v, g1, g2, g3⟩ := zip_get hd
  subst g3
  obtain ⟨x, h1, h2⟩ := (DVs.ext R0 e _ _ dv).get g1
  obtain ⟨y, k1, k2⟩ := (DVs.ext R0 e _ _ dv').get g2
  refine ⟨⟨xs, ys, x, y, SqL.of q1, SqL.of q2, h1, k1⟩, fun z H' hy => ?_⟩
  obtain ⟨T, x', y', e1, e2, e3, e4, e5⟩ := hy
  subst e1
  subst e3
  have f1 := e4 xs (SqL.of q1)
  have f2 := e5 ys (SqL.of q2)
  rw [h1] at f1
  rw [k1] at f2
  cases f1
  cases f2
  exact pair_new R e2 h2 k2
theorem yl_zipT {a b : Addr} {ds es : List D} {xs ys : List V} (R0 : RelM K H0 N0) (h : SqT K H0 a xs) (dv : DVs K H0 N0 ds xs) (h' : SqT K H0 b ys) (dv' : DVs K H0 N0 es ys) :
    Yl K (ItzT K a b) (zipD ds es) H0 N0 := fun i H N e R => by
  have q1 := SqT.ext R0 e h
  have q2 := SqT.ext R0 e h'
  refine ⟨fun hi => ⟨xs, ys, q1, q2, by rw [dv.len, dv'.len]; exact zip_len hi⟩, fun d hd => ?_⟩
  obtain ⟨u, v, g1, g2, g3⟩ := zip_get hd
  subst g3
  obtain ⟨x, h1, h2⟩ := (DVs.ext R0 e _ _ dv).get g1
  obtain ⟨y, k1, k2⟩ := (DVs.ext R0 e _ _ dv').get g2
  refine ⟨⟨xs, ys, x, y, q1, q2, h1, k1⟩, fun z H' hy => ?_⟩
  obtain ⟨T, x', y', e1, e2, e3, e4, e5⟩ := hy
  subst e1
  subst e3
  have f1 := e4 xs q1
  have f2 := e5 ys q2
  rw [h1] at f1
  rw [k1] at f2
  cases f1
  cases f2
  exact pair_new R e2 h2 k2
end
/-- a list (that nobody owns) or a tuple -/
def frzSeq : D → Option (List D)
  | .lst xs => some xs
  | .tup xs => some xs
  | _ => none
def wiSeq (we : WE) : WI := fun ds M Q Xc => we ds M (fun d M1 => optK (frzSeq d) fun xs => Q xs M1) Xc
def wiStr (we : WE) : WI := fun ds M Q Xc => we ds M (fun d M1 => match d with | .str x => Q (sgnD x) M1 | _ => False) Xc
def wiRng1 (wa : WA) : WI := fun ds M Q Xc => wa ds M (fun es M1 => match es with | [.int j] => (-(2 ^ 62) ≤ j ∧ j < 2 ^ 62) ∧ Q (rngD 0 j.toNat) M1 | _ => False) Xc
def wiRng2 (wa : WA) : WI := fun ds M Q Xc => wa ds M (fun es M1 => match es with | [.int i, .int j] => (-(2 ^ 62) ≤ i ∧ i < 2 ^ 62 ∧ -(2 ^ 62) ≤ j ∧ j < 2 ^ 62) ∧ Q (rngD i (j - i).toNat) M1 | _ => False) Xc
def wiEnum (wa : WA) : WI := fun ds M Q Xc => wa ds M (fun es M1 => match es with | [.lst xs] => Q (enumD xs) M1 | _ => False) Xc
def wiZip (wa : WA) : WI := fun ds M Q Xc => wa ds M (fun es M1 => match es with | [.lst xs, .lst ys] => Q (zipD xs ys) M1 | [.tup xs, .tup ys] => Q (zipD xs ys) M1 | _ => False) Xc
section
variable {X : Cx} {W : WX} {tg l a b : Expr} {we : WE} {wa : WA} {p pos : Pos}
theorem pi_mono {iter : Expr} {t t' : TI} (h : PI X tg iter t) (i : ∀ σ H R, t' σ H R → t σ H R) : PI X tg iter t' := ⟨fun pins s σ H R I hw => h.run pins s σ H R I (i σ H R hw)⟩
/-- a list or a tuple, whichever comes -/
theorem pi_any {tl : TE} (hl : PE X l tl) : PI X tg l (fun σ H R => tl σ H fun x H1 => ∃ a, x = V.ref a ∧ (((∃ xs, SqL X.K H1 a xs) ∧ R (Itl X.K a) H1) ∨ ((∃ xs, SqT X.K H1 a xs) ∧ R (Itt X.K a) H1))) := by
  refine ⟨fun pins s σ H R I h => ?_⟩
  refine thn (hl.run pins s σ H _ I h) ?_
  rintro v s1 ⟨x, H1, I1, r1, a, rfl, q⟩
  cases r1
  have fresh := I1.hok.fresh (Nat.le_refl s1.heap.objs.size)
  rcases q with ⟨⟨xs, hq⟩, q⟩ | ⟨⟨xs, hq⟩, q⟩
  · obtain ⟨its, rv, pl, _⟩ := I1.list hq
    refine wpAny_pyIter_list pl.isList ⟨_, [s1.heap.objs.size], _, _, H1, rfl, I1.kept (t' := s1.toks) (fun b o e => Heap.get?_push_of_some _ e), turn_list a _, ⟨_, Heap.get?_push_size _ rfl, rfl, rfl⟩, ?_, q⟩
    intro b hb
    rw [List.mem_singleton.mp hb]
    exact I1.fpOk (Nat.le_refl _) fresh
  · obtain ⟨its, rv, pt, _⟩ := I1.tuple hq
    have pt' : s1.heap.IsTuple a its.toArray := pt
    refine wpAny_pyIter_tuple pt' ⟨_, [s1.heap.objs.size], _, _, H1, rfl, I1.kept (t' := s1.toks) (fun b o e => Heap.get?_push_of_some _ e), turn_tuple a _, ⟨_, Heap.get?_push_size _ rfl, rfl, rfl⟩, ?_, q⟩
    intro b hb
    rw [List.mem_singleton.mp hb]
    exact I1.fpOk (Nat.le_refl _) fresh
theorem ji_seq (h : JE X W l we) : JI X W tg l (wiSeq we) := pi_mono (pi_any h) fun σ H R h => by
  obtain ⟨ds, M, F, Qd, Xd, hs, hw, l1, l2⟩ := h
  refine ⟨ds, M, F, _, Xd, hs, rfl, hw, fun v H' d M' e r dv q => ?_, l2⟩
  obtain ⟨xs, q1, q⟩ := optK_of q
  cases d <;> first | cases q1 | skip
  · obtain ⟨a, ys, e1, g1, g2⟩ := dv
    exact ⟨a, e1, .inr ⟨⟨ys, g1⟩, l1 _ H' _ M' e r (yl_tup r.rel g1 g2) q⟩⟩
  · obtain ⟨a, ys, e1, g1, gm, g2⟩ := dv
    exact ⟨a, e1, .inl ⟨⟨ys, SqL.of g1⟩, l1 _ H' _ M' e r (yl_list r.rel g1 gm g2) q⟩⟩
theorem ji_str (h : JE X W l we) : JI X W tg l (wiStr we) := pi_mono (pi_str h) fun σ H R h => by
  obtain ⟨ds, M, F, Qd, Xd, hs, hw, l1, l2⟩ := h
  refine ⟨ds, M, F, _, Xd, hs, rfl, hw, fun v H' d M' e r dv q => ?_, l2⟩
  cases d <;> first | exact q.elim | skip
  rename_i x
  exact ⟨x, dv, l1 _ H' _ M' e r yl_str q⟩
theorem ji_rng1 (hm : X.mg "range" = none) (ha : JA X W [a] wa) (hg : Gl X "range" := by rfl) (hs : starEach [a] X.env = [(false, eval a X.env)] := by rfl) : JI X W tg (.Call (.Name "range" p) [a] [] pos) (wiRng1 wa) := pi_mono (pi_range1 hg hm ha hs) fun σ H R h => by
  obtain ⟨ds, M, F, Qd, Xd, hs, hw, l1, l2⟩ := h
  refine ⟨ds, M, F, _, Xd, hs, rfl, hw, fun v H' d M' e r dv q => ?_, l2⟩
  dsimp only at q
  split at q
  · rename_i j
    obtain ⟨x, e1, g⟩ := dv1 dv
    subst e1
    cases (show x = .int j from g)
    exact ⟨j, rfl, q.1.1, q.1.2, l1 _ H' _ M' e r yl_rng q.2⟩
  · exact q.elim
theorem ji_rng2 (hm : X.mg "range" = none) (ha : JA X W [a, b] wa) (hg : Gl X "range" := by rfl) (hs : starEach [a, b] X.env = [(false, eval a X.env), (false, eval b X.env)] := by rfl) (hs2 : starEach [b] X.env = [(false, eval b X.env)] := by rfl) :
    JI X W tg (.Call (.Name "range" p) [a, b] [] pos) (wiRng2 wa) := pi_mono (pi_range2 hg hm ha hs hs2) fun σ H R h => by
  obtain ⟨ds, M, F, Qd, Xd, hs, hw, l1, l2⟩ := h
  refine ⟨ds, M, F, _, Xd, hs, rfl, hw, fun v H' d M' e r dv q => ?_, l2⟩
  dsimp only at q
  split at q
  · rename_i i j
    obtain ⟨x, y, e1, g, g'⟩ := dv2 dv
    subst e1
    cases (show x = .int i from g)
    cases (show y = .int j from g')
    exact ⟨i, j, rfl, q.1, l1 _ H' _ M' e r yl_rng q.2⟩
  · exact q.elim
variable {elts : List Expr} {kk : Nat} {tpos : Pos}
theorem ji_enum (hm : X.mg "enumerate" = none) (ha : JA X W [a] wa) (hg : Gl X "enumerate" := by rfl) (hs : starEach [a] X.env = [(false, eval a X.env)] := by rfl) :
    JI X W (.Tuple elts kk tpos) (.Call (.Name "enumerate" p) [a] [] pos) (wiEnum wa) := pi_mono (pi_enum hg hm ha hs) fun σ H R h => by
  obtain ⟨ds, M, F, Qd, Xd, hs, hw, l1, l2⟩ := h
  refine ⟨ds, M, F, _, Xd, hs, rfl, hw, fun v H' d M' e r dv q => ?_, l2⟩
  dsimp only at q
  split at q
  · rename_i xs
    obtain ⟨x, e1, g⟩ := dv1 dv
    subst e1
    obtain ⟨c, ys, e2, g1, gm, g2⟩ := g
    subst e2
    exact ⟨c, ys, rfl, SqL.of g1, l1 _ H' _ M' e r (yl_enum r.rel g1 gm g2) q⟩
  · exact q.elim
theorem ji_zip (hm : X.mg "zip" = none) (ha : JA X W [a, b] wa) (hg : Gl X "zip" := by rfl) (hs : starEach [a, b] X.env = (false, eval a X.env) :: starEach [b] X.env := by rfl) (hpl : (backTo pos (starEach [b] X.env)).any (·.1) = false := by rfl) :
    JI X W (.Tuple elts kk tpos) (.Call (.Name "zip" p) [a, b] [] pos) (wiZip wa) := pi_mono (pi_zipA hg hm ha hs hpl) fun σ H R h => by
  obtain ⟨ds, M, F, Qd, Xd, hs, hw, l1, l2⟩ := h
  refine ⟨ds, M, F, _, Xd, hs, rfl, hw, fun v H' d M' e r dv q => ?_, l2⟩
  dsimp only at q
  split at q
  · obtain ⟨x, y, e1, g, g'⟩ := dv2 dv
    subst e1
    obtain ⟨c, ys, e2, g1, gm, g2⟩ := g
    obtain ⟨c', ys', e2', g1', gm', g2'⟩ := g'
    subst e2
    subst e2'
    exact ⟨c, c', ys, ys', rfl, .inl ⟨SqL.of g1, SqL.of g1', l1 _ H' _ M' e r (yl_zipL r.rel g1 gm g2 g1' gm' g2') q⟩⟩
  · obtain ⟨x, y, e1, g, g'⟩ := dv2 dv
    subst e1
    obtain ⟨c, ys, e2, g1, g2⟩ := g
    obtain ⟨c', ys', e2', g1', g2'⟩ := g'
    subst e2
    subst e2'
    exact ⟨c, c', ys, ys', rfl, .inr ⟨g1, g1', l1 _ H' _ M' e r (yl_zipT r.rel g1 g2 g1' g2') q⟩⟩
  · exact q.elim
end
end DL
namespace DL
open PySem PySem.Spec PyProof.Rows L2 RZ

/-! ### comprehensions -/
def WF : WX := fun _ _ _ _ => False
def XF : KX := fun _ _ => False
def wipeD (ds : SD) : List Nat → SD
  | [] => ds
  | v :: vs => (wipeD ds vs).set v none
def lcR (g : GD) (tt : WT) (te : WE) (ds : SD) : List D → List D → Mem → (List D → Mem → Prop) → Prop
  | [], acc, M, k => k acc M
  | d :: items, acc, M, k => g d ds fun ds2 => tt ds2 M (fun b M1 => if b = true then te ds2 M1 (fun y M2 => acc.length < sizeLine ∧ lcR g tt te ds items (acc ++ [y]) M2 k) XF else lcR g tt te ds items acc M1 k) XF
def wLc (wi : WI) (g : GD) (tt : WT) (te : WE) (vs : List Nat) : WE := fun ds M Q Xc => wi ds M (fun items M1 => lcR g tt te (wipeD ds vs) items [] M1 fun ys M2 => Q (.lst ys) M2) Xc
def wLcO (wi : WI) (g : GD) (tt : WT) (te : WE) (vs : List Nat) : WE := fun ds M Q Xc => wi ds M (fun items M1 => lcR g tt te (wipeD ds vs) items [] M1 fun ys M2 => ∀ a, M2 a = none → Q (.ref a) (mput M2 a (.lst ys))) Xc
def wYes : WT := fun _ M Q _ => Q true M
section
variable {K : PySem.W.Frag} {H H' : Hp} {M M' F N N' : Mem} {σ : L2.St} {ds : SD}
theorem Ext.down {N'' : Mem} (e : Ext H N H' N') (d : ∀ a, N' a = none → N'' a = none) : Ext H N H' N'' := fun a o h m => by
  obtain ⟨q1, q2⟩ := e a o h m
  exact ⟨q1, d a q2⟩
mutual
theorem DV.down (e : ∀ a, N a = none → N' a = none) : ∀ (d : D) (v : V), DV K H N d v → DV K H N' d v
  | .non, v, h => h
  | .bl b, v, h => h
  | .int i, v, h => h
  | .str x, v, h => h
  | .ty n, v, h => h
  | .ref a, v, h => h
  | .tup ds, v, h => by
    obtain ⟨a, xs, h1, h2, h3⟩ := h
    exact ⟨a, xs, h1, h2, DVs.down e ds xs h3⟩
  | .lst ds, v, h => by
    obtain ⟨a, xs, h1, h2, h3, h4⟩ := h
    exact ⟨a, xs, h1, h2, e a h3, DVs.down e ds xs h4⟩
  | .dct ks ds, v, h => by
    obtain ⟨a, kvs, h1, h2, h3, h4, h5⟩ := h
    exact ⟨a, kvs, h1, h2, e a h3, h4, DVs.down e ds _ h5⟩
  | .ins C ns ds, v, h => by
    obtain ⟨a, dx, fs, h1, h2, h3, h4, h5⟩ := h
    exact ⟨a, dx, fs, h1, h2, e a h3, h4, DVs.down e ds _ h5⟩
  | .scr ns, v, h => h
theorem DVs.down (e : ∀ a, N a = none → N' a = none) : ∀ (ds : List D) (xs : List V), DVs K H N ds xs → DVs K H N' ds xs
  | [], xs, h => h
  | d :: ds, xs, h => by
    obtain ⟨y, ys, h1, h2, h3⟩ := h
    exact ⟨y, ys, h1, DV.down e d y h2, DVs.down e ds ys h3⟩
end
theorem RelM.down (R : RelM K H N) (e : ∀ a o, N' a = some o → N a = some o) : RelM K H N' := fun a o h => by
  have e' : ∀ b, N b = none → N' b = none := fun b hb => by
    cases q : N' b with
    | none => rfl
    | some u => rw [e b u q] at hb; cases hb
  have q := R a o (e a o h)
  cases o with
  | lst ds => obtain ⟨xs, h1, h2⟩ := q; exact ⟨xs, h1, DVs.down e' ds xs h2⟩
  | dct ks ds => obtain ⟨kvs, h1, h2, h3⟩ := q; exact ⟨kvs, h1, h2, DVs.down e' ds _ h3⟩
  | ins C ns ds => obtain ⟨dx, fs, h1, h2, h3⟩ := q; exact ⟨dx, fs, h1, h2, DVs.down e' ds _ h3⟩
theorem uni_frame {D : Addr} {o : MO} : uni M (mput F D o) = mput (uni M F) D o := by
  funext b
  unfold uni mput
  by_cases e : b = D
  · simp [e]
  · simp [e]
theorem Sl.ext (R : RelM K H N) (S : Sl K H N σ ds) (e : Ext H N H' N') : Sl K H' N' σ ds := ⟨S.1, fun i d h => by
  obtain ⟨v, h1, h2⟩ := S.2 i d h
  exact ⟨v, h1, DV.ext R e d v h2⟩⟩
theorem wipeD_len (ds : SD) : ∀ vs : List Nat, (wipeD ds vs).length = ds.length
  | [] => rfl
  | v :: vs => by unfold wipeD; rw [List.length_set, wipeD_len ds vs]
theorem wipeD_some {i : Nat} {x : D} : ∀ {vs : List Nat}, (wipeD ds vs)[i]? = some (some x) → ds[i]? = some (some x) ∧ i ∉ vs
  | [], h => ⟨h, by simp⟩
  | v :: vs, h => by
    unfold wipeD at h
    by_cases hi : v = i
    · subst hi
      by_cases hv : v < (wipeD ds vs).length
      · rw [List.getElem?_set_self hv] at h; cases h
      · rw [List.getElem?_eq_none (by rw [List.length_set]; omega)] at h; cases h
    · rw [List.getElem?_set_ne hi] at h
      obtain ⟨h1, h2⟩ := wipeD_some h
      exact ⟨h1, fun z => by rcases List.mem_cons.mp z with q | q; exact hi q.symm; exact h2 q⟩
theorem Sl.wipe (S : Sl K H N σ ds) (vs : List Nat) : Sl K H N (L2.wipe σ vs) (wipeD ds vs) := ⟨by rw [wipeD_len, wipe_length]; exact S.1, fun i d h => by
  obtain ⟨h1, h2⟩ := wipeD_some h
  rw [wipe_out h2]
  exact S.2 i d h1⟩
theorem wipe_wipe (σ : L2.St) (vs : List Nat) : wipe (wipe σ vs) vs = wipe σ vs := wipe_eq (wipe_length _ _) fun i hi => wipe_out hi
theorem lc_run {W : WX} {wi : WI} {g : GD} {tt : WT} {te : WE} {vs is : List Nat} {Q : VK} {k : (D → Mem → Prop) → List D → Mem → Prop}
    (hin : ∀ i ∈ is, i ∈ vs)
    (hk : ∀ (Qd : D → Mem → Prop) (acc : List D) (M : Mem) (F : Mem) (H0 : Hp) (M0 : Mem) (H : Hp) (Dd : Addr), LkG K F (rE K) H0 M0 Qd Q → F Dd = none → Ext H0 (uni M0 F) H (uni M (mput F Dd (.lst acc))) → Rm K H M (mput F Dd (.lst acc)) → k Qd acc M → Q (.ref Dd) H)
    (h : lift K W (rE K) [] [] (fun ds M Q Xc => wi ds M (fun items M1 => lcR g tt te (wipeD ds vs) items [] M1 fun ys M2 => k Q ys M2) Xc) σ H Q) :
    tLc (liftI K W wi) (liftG K is g) (liftT K WF tt) (liftE K WF te) vs σ H Q := by
  obtain ⟨ds, M, F, Qd, Xd, hs, _, hw, l1, l2⟩ := h
  refine ⟨ds, M, F, _, Xd, hs, hw, fun J H1 items M1 e1 r1 yl q => fun D hD => ?_, l2⟩
  have hF : F D = none := (uni_none (r1.rel.free hD)).1
  have S1 : Sl K H1 (uni M1 F) σ ds := Sl.ext hs.1.rel hs.2 e1
  refine ⟨fun i m H' => m = items.length - i ∧ i ≤ items.length ∧ ∃ M' acc, Rm K H' M' (mput F D (.lst acc)) ∧ Ext H1 (uni M1 F) H' (uni M' (mput F D (.lst acc))) ∧ lcR g tt te (wipeD ds vs) (items.drop i) acc M' fun ys M2 => k Qd ys M2,
    ⟨items.length, rfl, Nat.zero_le _, M1, [], ⟨?_, fun a o ha => ?_⟩, ?_, q⟩, ?_⟩
  · rw [uni_frame]
    exact own_rel r1.rel hD ⟨[], upd_same, rfl⟩
  · by_cases hz : a = D
    · subst hz
      exact r1.mfree hD
    · rw [mput_ne hz] at ha
      exact r1.dj a o ha
  · rw [uni_frame]
    exact own_ext r1.rel hD
  · rintro i m H' ⟨rfl, hi, M', acc, R', X', lc⟩
    have hDM : M' D = none := R'.dj D _ mput_same
    have hDu : uni M' (mput F D (.lst acc)) D = some (.lst acc) := by rw [uni_frame, mput_same]
    by_cases hlt : i < items.length
    · have hget : items[i]? = some items[i] := List.getElem?_eq_getElem hlt
      obtain ⟨go, hy⟩ := (yl i H' _ X' R'.rel).2 _ hget
      refine .inr ⟨go, fun H'' => ∃ M' acc, Rm K H'' M' (mput F D (.lst acc)) ∧ Ext H1 (uni M1 F) H'' (uni M' (mput F D (.lst acc))) ∧ lcR g tt te (wipeD ds vs) (items.drop (i + 1)) acc M' fun ys M2 => k Qd ys M2,
        fun H'' hn => ⟨items.length - (i + 1), by omega, rfl, hlt, hn⟩, fun x H'' hyl => ?_⟩
      obtain ⟨x1, x2, x3⟩ := hy x H'' hyl
      rw [List.drop_eq_getElem_cons hlt] at lc
      refine ⟨items[i], wipeD ds vs, _, _, x2, (Sl.ext r1.rel S1 (X'.trans x1)).wipe vs, x3, lc, fun σ' ds' S' P' q' => ⟨by rw [P' vs hin, wipe_wipe], ?_⟩⟩
      refine ⟨ds', M', mput F D (.lst acc), _, XF, ⟨⟨x2, R'.dj⟩, S'⟩, rfl, q', fun b' H3 b M3 e3 r3 rb q3 => ?_, fun _ _ _ _ _ _ _ _ z => z.elim⟩
      have rb' : b' = b := rb
      subst rb'
      have X3 := (X'.trans x1).trans e3
      dsimp only at q3 ⊢
      cases b' with
      | false =>
        rw [if_neg Bool.false_ne_true] at q3 ⊢
        exact ⟨M3, acc, r3, X3, q3⟩
      | true =>
        rw [if_pos rfl] at q3 ⊢
        refine ⟨ds', M3, mput F D (.lst acc), _, XF, ⟨r3, Sl.ext x2 S' e3⟩, rfl, q3, fun y H4 dy M4 e4 r4 dvy q4 => ?_, fun _ _ _ _ _ _ _ _ z => z.elim⟩
        obtain ⟨q4, q5⟩ := q4
        have hDu4 : uni M4 (mput F D (.lst acc)) D = some (.lst acc) := by rw [uni_frame, mput_same]
        obtain ⟨xs, hx1, hx2⟩ := r4.rel D _ hDu4
        refine ⟨xs, hx1, by rw [hx2.len]; exact q4, M4, acc ++ [dy], ⟨?_, fun a o ha => ?_⟩, ?_, q5⟩
        · have e5 : uni M4 (mput F D (.lst (acc ++ [dy]))) = mput (uni M4 (mput F D (.lst acc))) D (.lst (acc ++ [dy])) := by rw [uni_frame, uni_frame, mput_mput]
          rw [e5]
          have xx := set_ext (H := H4) (o := HO.lst (xs ++ [y])) (u := MO.lst (acc ++ [dy])) hDu4
          exact set_rel r4.rel hDu4 ⟨xs ++ [y], upd_same, DVs.app (DVs.ext r4.rel xx _ _ hx2) ⟨y, [], rfl, DV.ext r4.rel xx _ _ dvy, rfl⟩⟩
        · by_cases hz : a = D
          · subst hz
            exact r4.dj a _ mput_same
          · rw [mput_ne hz] at ha
            exact r4.dj a o (by rw [mput_ne hz]; exact ha)
        · have e5 : uni M4 (mput F D (.lst (acc ++ [dy]))) = mput (uni M4 (mput F D (.lst acc))) D (.lst (acc ++ [dy])) := by rw [uni_frame, uni_frame, mput_mput]
          rw [e5]
          exact (X3.trans e4).trans (set_ext hDu4)
    · have e : i = items.length := by omega
      subst e
      refine .inl ⟨(yl _ H' _ X' R'.rel).1 (Nat.le_refl _), ?_⟩
      rw [List.drop_length] at lc
      exact hk Qd acc M' F H1 M1 H' D (l1.ext e1) hF X' R' lc
theorem lc_frz {W : WX} {wi : WI} {g : GD} {tt : WT} {te : WE} {vs is : List Nat} {Q : VK} (hin : ∀ i ∈ is, i ∈ vs) (h : liftE K W (wLc wi g tt te vs) σ H Q) :
    tLc (liftI K W wi) (liftG K is g) (liftT K WF tt) (liftE K WF te) vs σ H Q :=
  lc_run (k := fun Qd acc M => Qd (.lst acc) M) hin (fun Qd acc M F H0 M0 H Dd l hF X' R' q => by
    have hDM : M Dd = none := R'.dj Dd _ mput_same
    have hDu : uni M (mput F Dd (.lst acc)) Dd = some (.lst acc) := by rw [uni_frame, mput_same]
    have dn : ∀ a, uni M (mput F Dd (.lst acc)) a = none → uni M F a = none := fun a ha => by
      rw [uni_frame] at ha
      by_cases hz : a = Dd
      · subst hz
        rw [mput_same] at ha
        cases ha
      · rw [mput_ne hz] at ha
        exact ha
    have up : ∀ a o, uni M F a = some o → uni M (mput F Dd (.lst acc)) a = some o := fun a o ha => by
      rw [uni_frame, mput_ne]
      · exact ha
      · intro z
        subst z
        rw [uni_get hF, hDM] at ha
        cases ha
    obtain ⟨xs, hx1, hx2⟩ := R'.rel Dd _ hDu
    refine l (.ref Dd) H (.lst acc) M (X'.down dn) ⟨R'.rel.down up, fun a o ha => ?_⟩ ⟨Dd, xs, rfl, hx1, by rw [uni_get hF]; exact hDM, DVs.down dn _ _ hx2⟩ q
    have hz : a ≠ Dd := fun z => by subst z; rw [hF] at ha; cases ha
    exact R'.dj a o (by rw [mput_ne hz]; exact ha)) h
theorem lc_own {W : WX} {wi : WI} {g : GD} {tt : WT} {te : WE} {vs is : List Nat} {Q : VK} (hin : ∀ i ∈ is, i ∈ vs) (h : liftE K W (wLcO wi g tt te vs) σ H Q) :
    tLc (liftI K W wi) (liftG K is g) (liftT K WF tt) (liftE K WF te) vs σ H Q :=
  lc_run (k := fun Qd acc M => ∀ a, M a = none → Qd (.ref a) (mput M a (.lst acc))) hin (fun Qd acc M F H0 M0 H Dd l hF X' R' q => by
    have hDM : M Dd = none := R'.dj Dd _ mput_same
    have e : uni (mput M Dd (.lst acc)) F = uni M (mput F Dd (.lst acc)) := by rw [uni_put hF, uni_frame]
    refine l (.ref Dd) H (.ref Dd) (mput M Dd (.lst acc)) (by rw [e]; exact X') ⟨by rw [e]; exact R'.rel, fun a o ha => ?_⟩ rfl (q Dd hDM)
    have hz : a ≠ Dd := fun z => by subst z; rw [hF] at ha; cases ha
    rw [mput_ne hz]
    exact R'.dj a o (by rw [mput_ne hz]; exact ha)) h
end
section
variable {X : Cx} {W : WX} {elt tg iter c : Expr} {ifs : List Expr} {scope : Scope} {own : List (Str × Nat)} {pos : Pos} {wi : WI} {g : GD} {tt : WT} {te : WE} {is : List Nat}
abbrev JTs (X : Cx) (W : WX) (ifs : List Expr) (t : WT) : Prop := PTs X ifs (liftT X.K W t)
theorem pts_mono {t t' : TT} (h : PTs X ifs t) (i : ∀ σ H Q, t' σ H Q → t σ H Q) : PTs X ifs t' := ⟨fun pins s σ H Q I hw => h.run pins s σ H Q I (i σ H Q hw)⟩
theorem jts_nil : JTs X W [] wYes := pts_mono pts_nil fun σ H Q h => finB (b := true) h
theorem jts_one {t : WT} (h : JT X W c t) : JTs X W [c] t := pts_one h
/-- a comprehension; the list that it makes is changed by nobody -/
theorem j_lc (hc : X.calm = true) (hN : X.N.Nodup) (hi : JI X W tg iter wi) (ok : BlkOk X.N X.env.scope scope own)
    (hg : ∀ (s : Shared) (H : Hp) (C : Addr) (cl : List (Str × Addr)) (fp : List Addr), JG (X.blk s H scope (compEnvC scope cl C X.env) fp) tg is g) (ht : ∀ (s : Shared) (H : Hp) (C : Addr) (cl : List (Str × Addr)) (fp : List Addr), JTs (X.blk s H scope (compEnvC scope cl C X.env) fp) WF ifs tt)
    (he : ∀ (s : Shared) (H : Hp) (C : Addr) (cl : List (Str × Addr)) (fp : List Addr), JE (X.blk s H scope (compEnvC scope cl C X.env) fp) WF elt te) (hin : ∀ i ∈ is, i ∈ own.map (·.2) := by decide) (hs : ∀ x, foldedSetIterable iter X.env x = pure x := by intro _; rfl) :
    JE X W (.ListComp elt [⟨tg, iter, ifs, 0⟩] scope pos) (wLc wi g tt te (own.map (·.2))) :=
  pe_mono (pe_lc hc hN hi ok hg ht he hs) fun σ H Q h => lc_frz hin h
theorem j_lcO (hc : X.calm = true) (hN : X.N.Nodup) (hi : JI X W tg iter wi) (ok : BlkOk X.N X.env.scope scope own)
    (hg : ∀ (s : Shared) (H : Hp) (C : Addr) (cl : List (Str × Addr)) (fp : List Addr), JG (X.blk s H scope (compEnvC scope cl C X.env) fp) tg is g) (ht : ∀ (s : Shared) (H : Hp) (C : Addr) (cl : List (Str × Addr)) (fp : List Addr), JTs (X.blk s H scope (compEnvC scope cl C X.env) fp) WF ifs tt)
    (he : ∀ (s : Shared) (H : Hp) (C : Addr) (cl : List (Str × Addr)) (fp : List Addr), JE (X.blk s H scope (compEnvC scope cl C X.env) fp) WF elt te) (hin : ∀ i ∈ is, i ∈ own.map (·.2) := by decide) (hs : ∀ x, foldedSetIterable iter X.env x = pure x := by intro _; rfl) :
    JE X W (.ListComp elt [⟨tg, iter, ifs, 0⟩] scope pos) (wLcO wi g tt te (own.map (·.2))) :=
  pe_mono (pe_lc hc hN hi ok hg ht he hs) fun σ H Q h => lc_own hin h
end
end DL
namespace DL
open PySem PySem.Spec PyProof.Rows L2 RZ

/-! ### statements -/
structure ED where
  nx : SD → Mem → Prop
  rt : KN
  bk : SD → Mem → Prop := fun _ _ => False
  ct : SD → Mem → Prop := fun _ _ => False
  ex : Exn → SD → Mem → Prop
abbrev WS := ED → SD → Mem → Prop
abbrev ED.xc (E : ED) (ds : SD) : KX := fun x M => E.ex x ds M
structure LkS (K : PySem.W.Frag) (F : Mem) (H : Hp) (M : Mem) (E : ED) (D : Ends) (W : WX) : Prop where
  nx : ∀ σ' H' ds' M', Ext H (uni M F) H' (uni M' F) → RelS K F σ' H' ds' M' → E.nx ds' M' → D.nx σ' H'
  rt : LkG K F (rE K) H M E.rt D.rt
  bk : ∀ σ' H' ds' M', Ext H (uni M F) H' (uni M' F) → RelS K F σ' H' ds' M' → E.bk ds' M' → D.bk σ' H'
  ct : ∀ σ' H' ds' M', Ext H (uni M F) H' (uni M' F) → RelS K F σ' H' ds' M' → E.ct ds' M' → D.ct σ' H'
  ex : ∀ cls dc σ' H' x ds' M', Ext H (uni M F) H' (uni M' F) → RelS K F σ' H' ds' M' → ExV K H' (uni M' F) cls dc x → E.ex x ds' M' → W cls dc σ' H'
def liftS (K : PySem.W.Frag) (W : WX) (es : List D) (vs : List V) (w : WS) : TS := fun D σ H =>
  ∃ ds M F E, RelS K F σ H ds M ∧ DVs K H (uni M F) es vs ∧ w E ds M ∧ LkS K F H M E D W
abbrev JS (X : Cx) (W : WX) (st : Stmt) (w : WS) : Prop := PS X st (liftS X.K W [] [] w)
abbrev JSs (X : Cx) (W : WX) (sts : List Stmt) (w : WS) : Prop := PSs X sts (liftS X.K W [] [] w)
section
variable {K : PySem.W.Frag} {W : WX} {H H' : Hp} {M M' F : Mem} {σ : L2.St} {ds : SD} {E : ED} {D' : Ends} {es : List D} {vs : List V}
theorem LkS.ext (l : LkS K F H M E D' W) (e : Ext H (uni M F) H' (uni M' F)) : LkS K F H' M' E D' W :=
  ⟨fun a b c d e2 => l.nx a b c d (e.trans e2), fun a b c d e2 => l.rt a b c d (e.trans e2), fun a b c d e2 => l.bk a b c d (e.trans e2), fun a b c d e2 => l.ct a b c d (e.trans e2), fun a b c d x y z e2 => l.ex a b c d x y z (e.trans e2)⟩
theorem bindSE {wa : WE} {f : D → WS} {R : V → Hp → Prop} (h : liftS K W es vs (fun E ds M => wa ds M (fun d M1 => f d E ds M1) (E.xc ds)) D' σ H)
    (k : ∀ v d H1, liftS K W (d :: es) (v :: vs) (f d) D' σ H1 → R v H1) : liftE K W wa σ H R := by
  obtain ⟨ds, M, F, E, hs, hv, hw, l⟩ := h
  exact ⟨ds, M, F, fun d M1 => f d E ds M1, E.xc ds, hs, rfl, hw, fun v H' d M' e r dv q => k v d H' ⟨ds, M', F, E, hs.ext e r, ⟨v, vs, rfl, dv, DVs.ext hs.1.rel e es vs hv⟩, q, l.ext e⟩,
    fun cls dc H' x M' e r dv q => l.ex cls dc σ H' x ds M' e (hs.ext e r) dv q⟩
theorem bindST {wa : WT} {f : Bool → WS} {R : Bool → Hp → Prop} (h : liftS K W es vs (fun E ds M => wa ds M (fun d M1 => f d E ds M1) (E.xc ds)) D' σ H)
    (k : ∀ b H1, liftS K W es vs (f b) D' σ H1 → R b H1) : liftT K W wa σ H R := by
  obtain ⟨ds, M, F, E, hs, hv, hw, l⟩ := h
  exact ⟨ds, M, F, fun d M1 => f d E ds M1, E.xc ds, hs, rfl, hw, fun v H' d M' e r dv q => k v H' ⟨ds, M', F, E, hs.ext e r, DVs.ext hs.1.rel e es vs hv, by rw [show v = d from dv]; exact q, l.ext e⟩,
    fun cls dc H' x M' e r dv q => l.ex cls dc σ H' x ds M' e (hs.ext e r) dv q⟩
end
def wNx : WS := fun E ds M => E.nx ds M
def wSeq (t u : WS) : WS := fun E ds M => t { E with nx := fun ds' M' => u E ds' M' } ds M
def wIf (t : WT) (a b : WS) : WS := fun E ds M => t ds M (fun c M1 => if c = true then a E ds M1 else b E ds M1) (E.xc ds)
def wRet (we : WE) : WS := fun E ds M => we ds M E.rt (E.xc ds)
def wRetN : WS := fun E _ M => E.rt .non M
def wDrop (we : WE) : WS := fun E ds M => we ds M (fun _ M1 => E.nx ds M1) (E.xc ds)
def wAsg (we : WE) (g : GD) : WS := fun E ds M => we ds M (fun d M1 => g d ds fun ds2 => E.nx ds2 M1) (E.xc ds)
def wNever : WS := fun _ _ _ => False
def wBrk : WS := fun E ds M => E.bk ds M
def wCnt : WS := fun E ds M => E.ct ds M
section
variable {X : Cx} {W : WX} {st : Stmt} {rest : List Stmt} {w u : WS} {e : Expr} {we : WE} {pos : Pos} {t : WT} {a b : List Stmt} {c : Expr}
theorem js_nil : JSs X W [] wNx := pss_mono pss_nil fun D σ H h => by
  obtain ⟨ds, M, F, E, hs, _, hw, l⟩ := h
  exact l.nx _ _ ds M Ext.rfl' hs hw
theorem js_pass : JS X W (.Pass pos) wNx := ps_mono ps_pass fun D σ H h => by
  obtain ⟨ds, M, F, E, hs, _, hw, l⟩ := h
  exact l.nx _ _ ds M Ext.rfl' hs hw
theorem js_brk : JS X W (.Break pos) wBrk := ps_mono ps_break fun D σ H h => by
  obtain ⟨ds, M, F, E, hs, _, hw, l⟩ := h
  exact l.bk _ _ ds M Ext.rfl' hs hw
theorem js_cnt : JS X W (.Continue pos) wCnt := ps_mono ps_continue fun D σ H h => by
  obtain ⟨ds, M, F, E, hs, _, hw, l⟩ := h
  exact l.ct _ _ ds M Ext.rfl' hs hw
theorem js_cons (h1 : JS X W st w) (h2 : JSs X W rest u) : JSs X W (st :: rest) (wSeq w u) := pss_mono (pss_cons h1 h2) fun D σ H h => by
  obtain ⟨ds, M, F, E, hs, _, hw, l⟩ := h
  exact ⟨ds, M, F, _, hs, rfl, hw, ⟨fun σ' H' ds' M' e r q => ⟨ds', M', F, E, r, rfl, q, l.ext e⟩, l.rt, l.bk, l.ct, l.ex⟩⟩
theorem js_one (h1 : JS X W st w) : JSs X W [st] w := pss_one h1
theorem js_if (hc : JT X W c t) (ha : JSs X W a w) (hb : JSs X W b u) : JS X W (.If c a b pos) (wIf t w u) := ps_mono (ps_if hc ha hb) fun D σ H h =>
  bindST (wa := t) (f := fun c E ds M => if c = true then w E ds M else u E ds M) h fun k H1 h => by
    obtain ⟨ds, M, F, E, hs, hv, hw, l⟩ := h
    cases k with
    | true =>
      rw [if_pos rfl]
      exact ⟨ds, M, F, E, hs, hv, DL.ite_tt hw, l⟩
    | false =>
      rw [if_neg Bool.false_ne_true]
      exact ⟨ds, M, F, E, hs, hv, DL.ite_ff hw, l⟩
theorem js_ret (he : JE X W e we) : JS X W (.Return (some e) pos) (wRet we) := ps_mono (ps_ret he) fun D σ H h =>
  bindSE (wa := we) (f := fun d E _ M => E.rt d M) h fun v d H1 h => by
    obtain ⟨ds, M, F, E, hs, hv, hw, l⟩ := h
    obtain ⟨_, _, e1, h1, _⟩ := hv
    cases e1
    exact l.rt v H1 d M Ext.rfl' hs.1 h1 hw
theorem js_retN : JS X W (.Return none pos) wRetN := ps_mono ps_retN fun D σ H h => by
  obtain ⟨ds, M, F, E, hs, hv, hw, l⟩ := h
  exact l.rt .non H .non M Ext.rfl' hs.1 rfl hw
theorem js_expr (he : JE X W e we) (hs : swapsWith e none pos.line X.env = pure false := by rfl) : JS X W (.Expr e pos) (wDrop we) := ps_mono (ps_expr he hs) fun D σ H h =>
  bindSE (wa := we) (f := fun _ E ds M => E.nx ds M) h fun v d H1 h => by
    obtain ⟨ds, M, F, E, hs, hv, hw, l⟩ := h
    exact l.nx _ _ ds M Ext.rfl' hs hw
theorem js_never : JS X W st wNever := ps_mono ps_never fun D σ H h => by
  obtain ⟨ds, M, F, E, hs, hv, hw, l⟩ := h
  exact hw
theorem jss_never {sts : List Stmt} : JSs X W sts wNever := pss_mono pss_never fun D σ H h => by
  obtain ⟨ds, M, F, E, hs, hv, hw, l⟩ := h
  exact hw
theorem asg_run {is : List Nat} {g : GD} {D' : Ends} {σ : L2.St} {H : Hp} (h : liftS X.K W [] [] (wAsg we g) D' σ H) : tAsg (liftE X.K W we) (liftG X.K is g) D' σ H :=
  bindSE (wa := we) (f := fun d E ds M => g d ds fun ds2 => E.nx ds2 M) h fun v d H1 h => by
    obtain ⟨ds, M, F, E, hs, hv, hw, l⟩ := h
    obtain ⟨_, _, e1, h1, _⟩ := hv
    cases e1
    exact ⟨d, ds, uni M F, _, hs.1.rel, hs.2, h1, hw, fun σ' ds' S _ q => l.nx σ' H1 ds' M Ext.rfl' ⟨hs.1, S⟩ q⟩
/-- target = e -/
theorem js_asg {tg : Expr} {is : List Nat} {g : GD} (he : JE X W e we) (hg : JG X tg is g) (hs : swapsWithSole [tg] e pos.line X.env = pure false := by rfl) (hw : swappedStores [tg] e X.env = pure none := by rfl)
    (h1 : (assignEach [tg] X.env).map (·.2) = [assign tg X.env] := by rfl) : JS X W (.Assign [tg] e pos) (wAsg we g) := ps_mono (ps_asg he hg hs hw h1) fun D σ H h => asg_run h
/-- name = e -/
theorem js_set {i : Nat} {x : Str} {pos' : Pos} (hN : X.N.Nodup) (he : JE X W e we) (hi : X.N[i]? = some x := by rfl) (hx : Loc X.env.scope x := by first | exact Or.inl rfl | exact Or.inr rfl) (hs : swapsWith e (some (.Name x pos')) pos.line X.env = pure false := by rfl) (hf : X.fn x = true ∨ X.env.scope.names.lookup x = some .local := by first | exact .inl rfl | exact .inr rfl | assumption) :
    JS X W (.Assign [.Name x pos'] e pos) (wAsg we (gN i)) := ps_mono (ps_set hN hi hx he hs hf) fun D σ H h =>
  bindSE (wa := we) (f := fun d E ds M => E.nx (ds.set i (some d)) M) h fun v d H1 h => by
    obtain ⟨ds, M, F, E, hs, hv, hw, l⟩ := h
    obtain ⟨_, _, e1, h1, _⟩ := hv
    cases e1
    exact l.nx _ H1 _ M Ext.rfl' ⟨hs.1, Sl.set hs.2 h1⟩ hw
variable {elt tg iter : Expr} {ifs : List Expr} {scope : Scope} {own : List (Str × Nat)} {wi : WI} {g : GD} {tt : WT} {te : WE} {is : List Nat} {spos py : Pos}
/-- name = [.. for ..] on one line, the name a local -/
theorem js_setLc {i : Nat} {y : Str} (hc : X.calm = true) (hN : X.N.Nodup) (hi : JI X W tg iter wi) (ok : BlkOk X.N X.env.scope scope own)
    (hg : ∀ (s : Shared) (H : Hp) (C : Addr) (cl : List (Str × Addr)) (fp : List Addr), JG (X.blk s H scope (compEnvC scope cl C X.env) fp) tg is g) (ht : ∀ (s : Shared) (H : Hp) (C : Addr) (cl : List (Str × Addr)) (fp : List Addr), JTs (X.blk s H scope (compEnvC scope cl C X.env) fp) WF ifs tt)
    (he : ∀ (s : Shared) (H : Hp) (C : Addr) (cl : List (Str × Addr)) (fp : List Addr), JE (X.blk s H scope (compEnvC scope cl C X.env) fp) WF elt te) (hy : X.N[i]? = some y := by rfl) (hyl : X.env.scope.names.lookup y = some .local := by rfl)
    (hsw : swapsWith (.ListComp elt [⟨tg, iter, ifs, 0⟩] scope pos) (some (.Name y py)) spos.line X.env = pure true := by exact sw_true rfl rfl rfl (by decide +kernel)) (hin : ∀ i ∈ is, i ∈ own.map (·.2) := by decide) (hs : ∀ x, foldedSetIterable iter X.env x = pure x := by intro _; rfl) :
    JS X W (.Assign [.Name y py] (.ListComp elt [⟨tg, iter, ifs, 0⟩] scope pos) spos) (wAsg (wLc wi g tt te (own.map (·.2))) (gN i)) :=
  ps_mono (ps_setLc hc hN hy hyl hsw hi ok hg ht he hs) fun D σ H h => lc_frz hin <|
    bindSE (wa := wLc wi g tt te (own.map (·.2))) (f := fun d E ds M => E.nx (ds.set i (some d)) M) h fun v d H1 h => by
      obtain ⟨ds, M, F, E, hs, hv, hw, l⟩ := h
      obtain ⟨_, _, e1, h1, _⟩ := hv
      cases e1
      exact l.nx _ H1 _ M Ext.rfl' ⟨hs.1, Sl.set hs.2 h1⟩ hw
theorem js_setLcO {i : Nat} {y : Str} (hc : X.calm = true) (hN : X.N.Nodup) (hi : JI X W tg iter wi) (ok : BlkOk X.N X.env.scope scope own)
    (hg : ∀ (s : Shared) (H : Hp) (C : Addr) (cl : List (Str × Addr)) (fp : List Addr), JG (X.blk s H scope (compEnvC scope cl C X.env) fp) tg is g) (ht : ∀ (s : Shared) (H : Hp) (C : Addr) (cl : List (Str × Addr)) (fp : List Addr), JTs (X.blk s H scope (compEnvC scope cl C X.env) fp) WF ifs tt)
    (he : ∀ (s : Shared) (H : Hp) (C : Addr) (cl : List (Str × Addr)) (fp : List Addr), JE (X.blk s H scope (compEnvC scope cl C X.env) fp) WF elt te) (hy : X.N[i]? = some y := by rfl) (hyl : X.env.scope.names.lookup y = some .local := by rfl)
    (hsw : swapsWith (.ListComp elt [⟨tg, iter, ifs, 0⟩] scope pos) (some (.Name y py)) spos.line X.env = pure true := by exact sw_true rfl rfl rfl (by decide +kernel)) (hin : ∀ i ∈ is, i ∈ own.map (·.2) := by decide) (hs : ∀ x, foldedSetIterable iter X.env x = pure x := by intro _; rfl) :
    JS X W (.Assign [.Name y py] (.ListComp elt [⟨tg, iter, ifs, 0⟩] scope pos) spos) (wAsg (wLcO wi g tt te (own.map (·.2))) (gN i)) :=
  ps_mono (ps_setLc hc hN hy hyl hsw hi ok hg ht he hs) fun D σ H h => lc_own hin <|
    bindSE (wa := wLcO wi g tt te (own.map (·.2))) (f := fun d E ds M => E.nx (ds.set i (some d)) M) h fun v d H1 h => by
      obtain ⟨ds, M, F, E, hs, hv, hw, l⟩ := h
      obtain ⟨_, _, e1, h1, _⟩ := hv
      cases e1
      exact l.nx _ H1 _ M Ext.rfl' ⟨hs.1, Sl.set hs.2 h1⟩ hw
end

/-! ### for -/
/-- the loop over the items -/
def forR (g : GD) (wb : WS) (E : ED) : List D → SD → Mem → Prop
  | [], ds, M => E.nx ds M
  | d :: items, ds, M => g d ds fun ds2 => wb { E with nx := fun ds3 M3 => forR g wb E items ds3 M3, ct := fun ds3 M3 => forR g wb E items ds3 M3, bk := E.nx } ds2 M
def wFor (wi : WI) (g : GD) (wb : WS) : WS := fun E ds M => wi ds M (fun items M1 => forR g wb E items ds M1) (E.xc ds)
section
variable {X : Cx} {W : WX} {tg iter : Expr} {body : List Stmt} {pos : Pos} {wi : WI} {g : GD} {wb : WS} {is : List Nat}
theorem js_for (hp : PassesOwn (model X.prog X.w) X.A X.env X.xe) (hc : X.calm = true) (hi : JI X W tg iter wi) (hg : JG X tg is g) (hb : JSs X W body wb)
    (hs : ∀ x, foldedSetIterable iter X.env x = pure x := by intro _; rfl) : JS X W (.For tg iter body [] pos) (wFor wi g wb) := ps_mono (ps_for hp hc hi hg hb hs) fun D' σ H h => by
  obtain ⟨ds, M, F, E, hs, _, hw, l⟩ := h
  refine ⟨ds, M, F, fun items M1 => forR g wb E items ds M1, E.xc ds, hs, hw, fun J H1 items M1 e1 r1 yl q => ?_, fun cls dc H' x M' e r dv q => l.ex cls dc σ H' x ds M' e (hs.ext e r) dv q⟩
  refine ⟨fun i m σ' H' => m = items.length - i ∧ i ≤ items.length ∧ ∃ ds' M', RelS X.K F σ' H' ds' M' ∧ Ext H1 (uni M1 F) H' (uni M' F) ∧ forR g wb E (items.drop i) ds' M',
    ⟨items.length, rfl, Nat.zero_le _, ds, M1, hs.ext e1 r1, Ext.rfl', q⟩, ?_⟩
  rintro i m σ' H' ⟨rfl, hi, ds', M', R', X', q'⟩
  by_cases hlt : i < items.length
  · obtain ⟨go, hy⟩ := (yl i H' _ X' R'.1.rel).2 _ (List.getElem?_eq_getElem hlt)
    refine .inr ⟨go, fun σ2 H2 => ∃ ds' M', RelS X.K F σ2 H2 ds' M' ∧ Ext H1 (uni M1 F) H2 (uni M' F) ∧ forR g wb E (items.drop (i + 1)) ds' M', fun σ2 H2 hn => ⟨items.length - (i + 1), by omega, rfl, hlt, hn⟩, fun x H2 hyl => ?_⟩
    obtain ⟨x1, x2, x3⟩ := hy x H2 hyl
    rw [List.drop_eq_getElem_cons hlt] at q'
    refine ⟨items[i], ds', uni M' F, _, x2, Sl.ext R'.1.rel R'.2 x1, x3, q', fun σ3 ds3 S3 _ q3 => ?_⟩
    have X2 := X'.trans x1
    refine ⟨ds3, M', F, _, ⟨⟨x2, R'.1.dj⟩, S3⟩, rfl, q3, ⟨fun σ4 H4 ds4 M4 e4 r4 q4 => ⟨ds4, M4, r4, X2.trans e4, q4⟩, fun v H4 d M4 e4 => l.rt v H4 d M4 ((e1.trans X2).trans e4),
      fun σ4 H4 ds4 M4 e4 r4 q4 => l.nx σ4 H4 ds4 M4 ((e1.trans X2).trans e4) r4 q4, fun σ4 H4 ds4 M4 e4 r4 q4 => ⟨ds4, M4, r4, X2.trans e4, q4⟩, fun cls dc σ4 H4 x ds4 M4 e4 => l.ex cls dc σ4 H4 x ds4 M4 ((e1.trans X2).trans e4)⟩⟩
  · have e : i = items.length := by omega
    subst e
    rw [List.drop_length] at q'
    exact .inl ⟨(yl _ H' _ X' R'.1.rel).1 (Nat.le_refl _), l.nx σ' H' ds' M' (e1.trans X') R' q'⟩
end

/-! ### while -/
def wWhile (t : WT) (wb : WS) : WS := fun E ds M => ∃ I : Nat → SD → Mem → Prop, (∃ m, I m ds M) ∧ ∀ m ds M, I m ds M →
  t ds M (fun b M1 => if b = true then wb { E with nx := fun ds' M' => ∃ m', m' < m ∧ I m' ds' M', ct := fun ds' M' => ∃ m', m' < m ∧ I m' ds' M', bk := E.nx } ds M1 else E.nx ds M1) (E.xc ds)
section
variable {X : Cx} {W : WX} {c : Expr} {body : List Stmt} {pos : Pos} {t : WT} {wb : WS}
theorem js_while (hp : PassesOwn (model X.prog X.w) X.A X.env X.xe) (hc : JT X W c t) (hb : JSs X W body wb) : JS X W (.While c body [] pos) (wWhile t wb) := ps_mono (ps_while hp hc hb) fun D' σ H h => by
  obtain ⟨ds, M, F, E, hs, _, ⟨I, ⟨m0, h0⟩, turn⟩, l⟩ := h
  refine ⟨fun m σ' H' => ∃ ds' M', RelS X.K F σ' H' ds' M' ∧ Ext H (uni M F) H' (uni M' F) ∧ I m ds' M', ⟨m0, ds, M, hs, Ext.rfl', h0⟩, ?_⟩
  rintro m σ' H' ⟨ds', M', R', X', q'⟩
  refine ⟨ds', M', F, _, E.xc ds', R', rfl, turn m ds' M' q', fun b' H2 b M2 e2 r2 rb q2 => ?_, fun cls dc H2 x M2 e2 r2 dv q => l.ex cls dc σ' H2 x ds' M2 (X'.trans e2) (R'.ext e2 r2) dv q⟩
  have rb' : b' = b := rb
  subst rb'
  dsimp only at q2 ⊢
  have X2 := X'.trans e2
  cases b' with
  | false =>
    rw [if_neg Bool.false_ne_true] at q2 ⊢
    exact l.nx σ' H2 ds' M2 X2 (R'.ext e2 r2) q2
  | true =>
    rw [if_pos rfl] at q2 ⊢
    refine ⟨fun σ3 H3 => ∃ m', m' < m ∧ ∃ ds3 M3, RelS X.K F σ3 H3 ds3 M3 ∧ Ext H (uni M F) H3 (uni M3 F) ∧ I m' ds3 M3, fun σ3 H3 ⟨m', h1, h2⟩ => ⟨m', h1, h2⟩, ?_⟩
    exact ⟨ds', M2, F, _, R'.ext e2 r2, rfl, q2, ⟨fun σ4 H4 ds4 M4 e4 r4 ⟨m', h1, h2⟩ => ⟨m', h1, ds4, M4, r4, X2.trans e4, h2⟩, fun v H4 d M4 e4 => l.rt v H4 d M4 (X2.trans e4),
      fun σ4 H4 ds4 M4 e4 r4 q4 => l.nx σ4 H4 ds4 M4 (X2.trans e4) r4 q4, fun σ4 H4 ds4 M4 e4 r4 ⟨m', h1, h2⟩ => ⟨m', h1, ds4, M4, r4, X2.trans e4, h2⟩, fun cls dc σ4 H4 x ds4 M4 e4 => l.ex cls dc σ4 H4 x ds4 M4 (X2.trans e4)⟩⟩
end
end DL
namespace DL
open PySem PySem.Spec PyProof.Rows L2 RZ

/-! ### freezing at a def's end -/
structure Fz (d : D) (M : Mem) (d' : D) (M' : Mem) : Prop where
  sub : ∀ a o, M' a = some o → M a = some o
  dv : ∀ (K : PySem.W.Frag) (H : Hp) (F : Mem) (v : V), Rm K H M F → DV K H (uni M F) d v → DV K H (uni M' F) d' v
structure FzS (ds : List D) (M : Mem) (ds' : List D) (M' : Mem) : Prop where
  sub : ∀ a o, M' a = some o → M a = some o
  dv : ∀ (K : PySem.W.Frag) (H : Hp) (F : Mem) (vs : List V), Rm K H M F → DVs K H (uni M F) ds vs → DVs K H (uni M' F) ds' vs
section
variable {M M' : Mem}
theorem sub_none (h : ∀ a o, M' a = some o → M a = some o) {F : Mem} : ∀ a, uni M F a = none → uni M' F a = none := fun a e => by
  obtain ⟨h1, h2⟩ := uni_none e
  rw [uni_get h1]
  cases q : M' a with
  | none => rfl
  | some o => rw [h a o q] at h2; cases h2
theorem sub_some (h : ∀ a o, M' a = some o → M a = some o) {F : Mem} : ∀ a o, uni M' F a = some o → uni M F a = some o := fun a o e => by
  cases q : F a with
  | some u =>
    have e1 : uni M' F a = some u := by unfold uni; rw [q]
    have e2 : uni M F a = some u := by unfold uni; rw [q]
    rw [e1] at e
    rw [e2]
    exact e
  | none =>
    rw [uni_get q] at e ⊢
    exact h a o e
theorem Fz.dn {d : D} (h : ∀ a o, M' a = some o → M a = some o) : Fz d M d M' := ⟨h, fun K H F v R g => DV.down (sub_none h) d v g⟩
theorem Fz.rfl' {d : D} : Fz d M d M := Fz.dn fun _ _ h => h
theorem FzS.dn {ds : List D} (h : ∀ a o, M' a = some o → M a = some o) : FzS ds M ds M' := ⟨h, fun K H F v R g => DVs.down (sub_none h) ds v g⟩
theorem FzS.nil (h : ∀ a o, M' a = some o → M a = some o) : FzS [] M [] M' := FzS.dn h
theorem FzS.cons {d d' : D} {ds ds' : List D} (h1 : Fz d M d' M') (h2 : FzS ds M ds' M') : FzS (d :: ds) M (d' :: ds') M' := ⟨h1.sub, fun K H F v R g => by
  obtain ⟨y, ys, e, g1, g2⟩ := g
  exact ⟨y, ys, e, h1.dv K H F y R g1, h2.dv K H F ys R g2⟩⟩
theorem Fz.tup {ds ds' : List D} (h : FzS ds M ds' M') : Fz (.tup ds) M (.tup ds') M' := ⟨h.sub, fun K H F v R g => by
  obtain ⟨a, xs, e, g1, g2⟩ := g
  exact ⟨a, xs, e, g1, h.dv K H F xs R g2⟩⟩
theorem Fz.lst' {ds ds' : List D} (h : FzS ds M ds' M') : Fz (.lst ds) M (.lst ds') M' := ⟨h.sub, fun K H F v R g => by
  obtain ⟨a, xs, e, g1, g2, g3⟩ := g
  exact ⟨a, xs, e, g1, sub_none h.sub a g2, h.dv K H F xs R g3⟩⟩
/-- an owned list -/
theorem Fz.lst {a : Addr} {ds ds' : List D} (e : M a = some (.lst ds)) (n : M' a = none) (h : FzS ds M ds' M') : Fz (.ref a) M (.lst ds') M' := ⟨h.sub, fun K H F v R g => by
  obtain ⟨xs, h1, h2⟩ := R.get e
  exact ⟨a, xs, g, h1, by rw [uni_get (R.fr e)]; exact n, h.dv K H F xs R h2⟩⟩
/-- an owned instance -/
theorem Fz.ins {a C : Addr} {ns : List Str} {ds ds' : List D} (e : M a = some (.ins C ns ds)) (n : M' a = none) (h : FzS ds M ds' M') : Fz (.ref a) M (.ins C ns ds') M' := ⟨h.sub, fun K H F v R g => by
  obtain ⟨dx, fs, h1, h2, h3⟩ := R.get e
  exact ⟨a, dx, fs, g, h1, by rw [uni_get (R.fr e)]; exact n, h2, h.dv K H F _ R h3⟩⟩
theorem Rm.sub {K : PySem.W.Frag} {H : Hp} {F : Mem} (R : Rm K H M F) (h : ∀ a o, M' a = some o → M a = some o) : Rm K H M' F := ⟨R.rel.down (sub_some h), fun a o e => by
  cases q : M' a with
  | none => rfl
  | some u => have z := R.dj a o e; rw [h a u q] at z; cases z⟩
end
def Fin (Q : KN) : KN := fun d M => ∃ d' M', Fz d M d' M' ∧ Q d' M'
theorem fin_of {Q : KN} {d : D} {M : Mem} (h : Q d M) : Fin Q d M := ⟨d, M, Fz.rfl', h⟩

/-! ### defs -/
abbrev SpD := List D → Mem → KN → KX → Prop
def liftSp (K : PySem.W.Frag) (sp : SpD) : Sp := fun vs H Q E => ∃ ds M F Qd Xd, Rm K H M F ∧ DVs K H (uni M F) ds vs ∧ sp ds M Qd Xd ∧ LkG K F (rE K) H M Qd Q ∧
  ∀ cls dc H' x M', Ext H (uni M F) H' (uni M' F) → Rm K H' M' F → ExV K H' (uni M' F) cls dc x → Xd x M' → E cls dc H'
/-- the def at f keeps sp -/
structure FnJ (P : Program) (w : World) (K : PySem.W.Frag) (mg : Str → Option Value) (base : Heap) (k : Nat) (f : Addr) (sp : SpD) : Prop where
  ex : ∃ fd ps, FnOk P w K mg base (L2.CX P w) k f fd ps (liftSp K sp) ∧ Binds K fd ps []
  kp : PySem.W.keepIn K (.ref f) = true
theorem FnJ.mono {P : Program} {w : World} {K : PySem.W.Frag} {mg : Str → Option Value} {base : Heap} {j k : Nat} {f : Addr} {sp : SpD} (F : FnJ P w K mg base j f sp) (h : j ≤ k) : FnJ P w K mg base k f sp := by
  obtain ⟨fd, ps, h1, h2⟩ := F.ex
  exact ⟨⟨fd, ps, h1.mono h, h2⟩, F.kp⟩
theorem FnJ.imp {P : Program} {w : World} {K : PySem.W.Frag} {mg : Str → Option Value} {base : Heap} {k : Nat} {f : Addr} {sp sp' : SpD} (F : FnJ P w K mg base k f sp) (h : ∀ ds M Q Xc, sp' ds M Q Xc → sp ds M Q Xc) : FnJ P w K mg base k f sp' := by
  obtain ⟨fd, ps, h1, h2⟩ := F.ex
  refine ⟨⟨fd, ps, h1.imp fun vs H Q E q => ?_, h2⟩, F.kp⟩
  obtain ⟨ds, M, F, Qd, Xd, q1, q2, q3, q4, q5⟩ := q
  exact ⟨ds, M, F, Qd, Xd, q1, q2, h _ _ _ _ q3, q4, q5⟩
def wCall (sp : SpD) (wa : WA) : WE := fun ds M Q Xc => wa ds M (fun xs M1 => sp xs M1 Q Xc) Xc
def startD (N : List Str) (ds : List D) : SD := ds.map some ++ List.replicate (N.length - ds.length) none
/-- what a def's body wishes of an exception -/
abbrev WD (E : XK) : WX := fun c d _ H => E c d H
section
variable {X : Cx} {W : WX} {x : Str} {p pos : Pos} {e : Expr} {es : List Expr} {wa : WA} {k j : Nat} {f : Addr} {sp : SpD}
theorem finSp {vs : List V} {xs : List D} {σ : L2.St} {H : Hp} {Q : VK} {K : PySem.W.Frag} (h : lift K W (rE K) xs vs (fun _ M Q Xc => sp xs M Q Xc) σ H Q) : liftSp K sp vs H Q (L2.WE W σ) := by
  obtain ⟨_, M, F, Qd, Xd, hs, hv, hw, l1, l2⟩ := h
  exact ⟨xs, M, F, Qd, Xd, hs.1, hv, hw, l1, l2⟩
theorem j_call (F : FnJ X.prog X.w X.K X.mg X.base k f sp) (hr : Room j X.A) (hkj : k ≤ j) (hm : X.mg x = some (.ref f)) (tk : Takes X W) (ha : JA X W (e :: es) wa) (hg : Gl X x := by rfl)
    (hdb : (x == ("__debug__" : Str)) = false := by decide) (he : starEach (e :: es) X.env = (false, eval e X.env) :: starEach es X.env := by rfl) (hpl : (backTo pos (starEach es X.env)).any (·.1) = false := by rfl) :
    JE X W (.Call (.Name x p) (e :: es) [] pos) (wCall sp wa) := by
  obtain ⟨fd, ps, h1, h2⟩ := F.ex
  exact pe_mono (pe_callS h1 (hr.mono hkj) hg hm F.kp h2 (fun σ => passAt tk σ) ha hdb he hpl) fun σ H Q h => bindA (wa := wa) (f := fun xs _ M Q Xc => sp xs M Q Xc) h fun vs xs H1 h => finSp (by rw [List.append_nil, List.append_nil] at h; exact h)
end
theorem Sl.start {K : PySem.W.Frag} {H : Hp} {N : Mem} {Ns : List Str} {ds : List D} {vs : List V} (h : DVs K H N ds vs) : Sl K H N (L2.start Ns vs) (startD Ns ds) := by
  refine ⟨?_, fun i d e => ?_⟩
  · unfold startD L2.start
    rw [List.length_append, List.length_append, List.length_map, List.length_map, List.length_replicate, List.length_replicate, h.len]
  · unfold startD at e
    unfold L2.start
    by_cases hi : i < ds.length
    · rw [List.getElem?_append_left (by rw [List.length_map]; exact hi), List.getElem?_map] at e
      cases q : ds[i]? with
      | none => rw [q] at e; cases e
      | some d' =>
        rw [q] at e
        cases e
        obtain ⟨x, h1, h2⟩ := h.get q
        exact ⟨x, by rw [List.getElem?_append_left (by rw [List.length_map, h.len]; exact hi), List.getElem?_map, h1]; rfl, h2⟩
    · rw [List.getElem?_append_right (by rw [List.length_map]; omega), List.getElem?_replicate] at e
      split at e <;> cases e
/-- THE RULE for a def -/
theorem FnJ.mk' {P : Program} {w : World} {K : PySem.W.Frag} {mg : Str → Option Value} {base : Heap} {k : Nat} {x qual : Str} {st : Stmt} {f : Addr} {fd : FuncData} {N ps : List Str} {sp : SpD} {wb : WS}
    (F : Fun K x qual st f fd) (S : FnScope N ps (defScope st)) (b : Binds K fd ps [])
    (body : ∀ (cdv : Value) (A : Around) (outer : List Env) (s : Shared) (H : Hp) (E : XK), Room k (A.deeper (envOfC qual (defScope st) s.heap.objs.size f cdv)) →
      Takes (cxOf (L2.CX P w) P w K mg base N qual (defScope st) f cdv A outer s H E) (WD E) →
      JSs (cxOf (L2.CX P w) P w K mg base N qual (defScope st) f cdv A outer s H E) (WD E) (defBody st) wb)
    (h : ∀ ds M Q Xc, sp ds M Q Xc → ds.length = ps.length ∧ wb { nx := fun _ M => Fin Q .non M, rt := Fin Q, ex := fun x _ M => Xc x M } (startD N ds) M) : FnJ P w K mg base (k + 1) f sp := by
  refine ⟨⟨fd, ps, F.okX S (fun vs H Q E hh => ?_) (fun cdv A outer s H vs Q E hr hh => ?_), b⟩, F.kp⟩
  · obtain ⟨ds, M, Fr, Qd, Xd, q1, q2, q3, _⟩ := hh
    rw [q2.len]
    exact (h _ _ _ _ q3).1
  · obtain ⟨ds, M, Fr, Qd, Xd, q1, q2, q3, l1, l2⟩ := hh
    refine ⟨_, body cdv A outer s H E hr (takes_of rfl rfl rfl rfl), ?_⟩
    have fin : ∀ (v : V) (H' : Hp) (d : D) (M' : Mem), Ext H (uni M Fr) H' (uni M' Fr) → Rm K H' M' Fr → DV K H' (uni M' Fr) d v → Fin Qd d M' → Q v H' := fun v H' d M' e r dv ⟨d2, M2, fz, q⟩ =>
      l1 v H' d2 M2 (e.down (sub_none fz.sub)) (r.sub fz.sub) (fz.dv K H' Fr v r dv) q
    exact ⟨startD N ds, M, Fr, _, ⟨q1, Sl.start q2⟩, rfl, (h _ _ _ _ q3).2, ⟨fun σ' H' ds' M' e r q => fin .non H' .non M' e r.1 rfl q, fin, fun _ _ _ _ _ _ z => z.elim, fun _ _ _ _ _ _ z => z.elim, fun cls dc σ' H' x ds' M' e r dv q => l2 cls dc H' x M' e r.1 dv q⟩⟩

/-! ### methods of lists and texts -/
def liftM (K : PySem.W.Frag) (r : D → List D → Mem → KN → Prop) : V → List V → Hp → VK → Prop := fun x xs H Q => ∃ d ds M F Qd, Rm K H M F ∧ DV K H (uni M F) d x ∧ DVs K H (uni M F) ds xs ∧ r d ds M Qd ∧ LkG K F (rE K) H M Qd Q
def tyD (T : String) (M : Mem) : D → Prop
  | .str _ => T = "str"
  | .lst _ => T = "list"
  | .ref a => T = "list" ∧ optK (moSeq (M a)) fun _ => True
  | _ => False
def wBM (T : String) (r : D → List D → Mem → KN → Prop) (we : WE) (wa : WA) : WE := fun ds M Q Xc => we ds M (fun d M1 => tyD T M1 d ∧ wa ds M1 (fun xs M2 => r d xs M2 Q) Xc) Xc
def ownL (M : Mem) (d : D) (k : Addr → List D → Prop) : Prop := match d with
  | .ref a => optK (moSeq (M a)) fun xs => k a xs
  | _ => False
def rAppD (d : D) (ds : List D) (M : Mem) (Q : KN) : Prop := match ds with
  | [y] => ownL M d fun a xs => xs.length < sizeLine ∧ Q .non (mput M a (.lst (xs ++ [y])))
  | _ => False
def rPopD (d : D) (ds : List D) (M : Mem) (Q : KN) : Prop := match ds with
  | [] => ownL M d fun a xs => optK xs[xs.length - 1]? fun y => Q y (mput M a (.lst xs.dropLast))
  | [.int i] => ownL M d fun a xs => optK (ixN xs.length i) fun k => optK xs[k]? fun y => (xs.length ≤ sizeLine ∧ Q y (mput M a (.lst (xs.eraseIdx k))))
  | _ => False
def rExtD (d : D) (ds : List D) (M : Mem) (Q : KN) : Prop := match ds with
  | [.lst ys] => ownL M d fun a xs => xs.length + ys.length ≤ sizeLine ∧ Q .non (mput M a (.lst (xs ++ ys)))
  | _ => False
def rInsD (d : D) (ds : List D) (M : Mem) (Q : KN) : Prop := match ds with
  | [.int i, y] => ownL M d fun a xs => xs.length < sizeLine ∧ 0 ≤ i ∧ i < 2 ^ 63 ∧ Q .non (mput M a (.lst (xs.take i.toNat ++ [y] ++ xs.drop i.toNat)))
  | _ => False
def rClrD (d : D) (ds : List D) (M : Mem) (Q : KN) : Prop := match ds with
  | [] => ownL M d fun a _ => Q .non (mput M a (.lst []))
  | _ => False
theorem DVs.dropLast {K : PySem.W.Frag} {H : Hp} {M : Mem} {ds : List D} {xs : List V} (h : DVs K H M ds xs) : DVs K H M ds.dropLast xs.dropLast := by
  rw [List.dropLast_eq_take, List.dropLast_eq_take, h.len]
  exact h.take _
theorem DVs.erase {K : PySem.W.Frag} {H : Hp} {M : Mem} {ds : List D} {xs : List V} (h : DVs K H M ds xs) (k : Nat) : DVs K H M (ds.eraseIdx k) (xs.eraseIdx k) := by
  rw [List.eraseIdx_eq_take_drop_succ, List.eraseIdx_eq_take_drop_succ]
  exact DVs.app (h.take _) (h.drop _)
theorem DVs.one {K : PySem.W.Frag} {H : Hp} {M : Mem} {d : D} {x : V} (h : DV K H M d x) : DVs K H M [d] [x] := ⟨x, [], rfl, h, rfl⟩
theorem moSeq_of {o : Option MO} {xs : List D} (h : moSeq o = some xs) : o = some (.lst xs) := by
  unfold moSeq at h
  split at h
  · cases h; rfl
  · cases h
theorem ownL_of {M : Mem} {d : D} {k : Addr → List D → Prop} (h : ownL M d k) : ∃ a xs, d = .ref a ∧ M a = some (.lst xs) ∧ k a xs := by
  unfold ownL at h
  split at h
  · rename_i a
    obtain ⟨xs, e, q⟩ := optK_of h
    exact ⟨a, xs, rfl, moSeq_of e, q⟩
  · exact h.elim
section
variable {X : Cx}
theorem tyD_ok {K : PySem.W.Frag} {H : Hp} {M F : Mem} {T : String} {d : D} {x : V} (R : Rm K H M F) (h : tyD T M d) (g : DV K H (uni M F) d x) : tyV K T x H := by
  cases d <;> first | exact h.elim | skip
  · rename_i z
    cases (show x = .str z from g)
    exact h
  · rename_i a
    cases (show x = .ref a from g)
    obtain ⟨xs, e, _⟩ := optK_of h.2
    obtain ⟨ys, q1, _⟩ := R.get (moSeq_of e)
    exact .inl ⟨h.1, ys, SqL.of q1⟩
  · obtain ⟨a, ys, e, q1, _, q2⟩ := g
    subst e
    exact .inl ⟨h, ys, SqL.of q1⟩
/-- a change of an owned list -/
theorem chg {K : PySem.W.Frag} {H : Hp} {M F : Mem} {Qd : KN} {Q : VK} {a : Addr} {ds' : List D} {o : MO} {xs' : List V} {v : V} {d : D} (R : Rm K H M F) (l : LkG K F (rE K) H M Qd Q) (e : M a = some o)
    (h : DVs K H (uni M F) ds' xs') (hd : DV K H (uni M F) d v) (q : Qd d (mput M a (.lst ds'))) : Q v (upd H a (.lst xs')) := by
  have x := R.xset (K := K) (o := HO.lst xs') (u := .lst ds') e
  exact l v _ d _ x (R.set e ⟨xs', upd_same, DVs.ext R.rel x _ _ h⟩) (DV.ext R.rel x _ _ hd) q
theorem md_append : MtR X "list.append" (liftM X.K rAppD) := by
  intro pins s σ H x xs v us Q I rx rs hh
  obtain ⟨d, ds, M, F, Qd, R, h1, h2, h3, l⟩ := hh
  unfold rAppD at h3
  split at h3
  · rename_i y
    obtain ⟨a, ys, e, e2, q1, q2⟩ := ownL_of h3
    subst e
    cases (show x = .ref a from h1)
    obtain ⟨y', e3, g⟩ := dv1 h2
    subst e3
    obtain ⟨zs, g1, g2⟩ := R.get e2
    exact mt_append pins s σ H _ _ v us Q I rx rs ⟨a, zs, y', rfl, rfl, g1, by rw [g2.len]; exact q1, chg R l e2 (d := .non) (DVs.app g2 (DVs.one g)) rfl q2⟩
  · exact h3.elim
theorem md_pop : MtR X "list.pop" (liftM X.K rPopD) := by
  intro pins s σ H x xs v us Q I rx rs hh
  obtain ⟨d, ds, M, F, Qd, R, h1, h2, h3, l⟩ := hh
  unfold rPopD at h3
  split at h3
  · obtain ⟨a, ys, e, e2, q⟩ := ownL_of h3
    obtain ⟨y, e3, q⟩ := optK_of q
    subst e
    cases (show x = .ref a from h1)
    cases (show xs = [] from h2)
    obtain ⟨zs, g1, g2⟩ := R.get e2
    obtain ⟨y', k1, k2⟩ := g2.get e3
    exact mt_pop pins s σ H _ _ v us Q I rx rs ⟨a, zs, y', rfl, rfl, g1, by rw [g2.len]; exact k1, chg R l e2 g2.dropLast k2 q⟩
  · rename_i i
    obtain ⟨a, ys, e, e2, q⟩ := ownL_of h3
    obtain ⟨j, e3, q⟩ := optK_of q
    obtain ⟨y, e4, q5, q⟩ := optK_of q
    subst e
    cases (show x = .ref a from h1)
    obtain ⟨i', e5, g⟩ := dv1 h2
    subst e5
    cases (show i' = .int i from g)
    obtain ⟨zs, g1, g2⟩ := R.get e2
    obtain ⟨y', k1, k2⟩ := g2.get e4
    obtain ⟨z1, z2, z3, z4⟩ := ixN_seq e3
    have hl : (sizeLine : Nat) < 2 ^ 63 := line63
    exact mt_popAt pins s σ H _ _ v us Q I rx rs ⟨a, zs, i, j, y', rfl, rfl, g1, by omega, by omega, by rw [g2.len]; exact z1, k1, chg R l e2 (g2.erase j) k2 q⟩
  · exact h3.elim
theorem md_extend : MtR X "list.extend" (liftM X.K rExtD) := by
  intro pins s σ H x xs v us Q I rx rs hh
  obtain ⟨d, ds, M, F, Qd, R, h1, h2, h3, l⟩ := hh
  unfold rExtD at h3
  split at h3
  · rename_i y
    obtain ⟨a, ys, e, e2, q1, q2⟩ := ownL_of h3
    subst e
    cases (show x = .ref a from h1)
    obtain ⟨y', e3, g⟩ := dv1 h2
    subst e3
    obtain ⟨b, ws, e4, g3, _, g4⟩ := g
    subst e4
    obtain ⟨zs, g1, g2⟩ := R.get e2
    exact mt_extend pins s σ H _ _ v us Q I rx rs ⟨a, b, zs, ws, rfl, rfl, g1, g3, by rw [g2.len, g4.len]; exact q1, chg R l e2 (d := .non) (DVs.app g2 g4) rfl q2⟩
  · exact h3.elim
theorem md_insert : MtR X "list.insert" (liftM X.K rInsD) := by
  intro pins s σ H x xs v us Q I rx rs hh
  obtain ⟨d, ds, M, F, Qd, R, h1, h2, h3, l⟩ := hh
  unfold rInsD at h3
  split at h3
  · rename_i i y
    obtain ⟨a, ys, e, e2, q1, q3, q4, q2⟩ := ownL_of h3
    subst e
    cases (show x = .ref a from h1)
    obtain ⟨i', y', e3, gi, g⟩ := dv2 h2
    subst e3
    cases (show i' = .int i from gi)
    obtain ⟨zs, g1, g2⟩ := R.get e2
    exact mt_insert pins s σ H _ _ v us Q I rx rs ⟨a, zs, i, y', rfl, rfl, g1, by rw [g2.len]; exact q1, q3, q4, chg R l e2 (d := .non) (DVs.app (DVs.app (g2.take _) (DVs.one g)) (g2.drop _)) rfl q2⟩
  · exact h3.elim
theorem md_clear : MtR X "list.clear" (liftM X.K rClrD) := by
  intro pins s σ H x xs v us Q I rx rs hh
  obtain ⟨d, ds, M, F, Qd, R, h1, h2, h3, l⟩ := hh
  unfold rClrD at h3
  split at h3
  · obtain ⟨a, ys, e, e2, q⟩ := ownL_of h3
    subst e
    cases (show x = .ref a from h1)
    cases (show xs = [] from h2)
    obtain ⟨zs, g1, g2⟩ := R.get e2
    exact mt_clear pins s σ H _ _ v us Q I rx rs ⟨a, zs, rfl, rfl, g1, chg R l e2 (d := .non) (ds' := []) (xs' := []) rfl rfl q⟩
  · exact h3.elim
/-- xs[i] = v -/
def rSetD (o i v : D) (M : Mem) (k : Mem → Prop) : Prop := match i with
  | .int j => ownL M o fun a xs => optK (ixN xs.length j) fun n => k (mput M a (.lst (xs.set n v)))
  | _ => False
end
section
variable {X : Cx} {W : WX} {o e : Expr} {es : List Expr} {we : WE} {wa : WA} {name : Str} {apos cpos : Pos} {T id : String} {r : D → List D → Mem → KN → Prop}
theorem finM {d : D} {ds : List D} {x : V} {xs : List V} {σ : L2.St} {H : Hp} {Q : VK} {K : PySem.W.Frag} (h : lift K W (rE K) (ds ++ [d]) (xs ++ [x]) (fun _ M Q _ => r d ds M Q) σ H Q) : liftM K r x xs H Q := by
  obtain ⟨_, M, F, Qd, Xd, hs, hv, hw, l1, _⟩ := h
  have key : ∀ (ds : List D) (xs : List V), DVs K H (uni M F) (ds ++ [d]) (xs ++ [x]) → DVs K H (uni M F) ds xs ∧ DV K H (uni M F) d x := by
    intro ds
    induction ds with
    | nil =>
      intro xs h
      obtain ⟨y, ys, e, h1, h2⟩ := h
      cases (show ys = [] from h2)
      cases xs with
      | nil => cases e; exact ⟨rfl, h1⟩
      | cons z zs =>
        exfalso
        have := congrArg List.length e
        simp at this
    | cons c cs ih =>
      intro xs h
      obtain ⟨y, ys, e, h1, h2⟩ := h
      cases xs with
      | nil =>
        exfalso
        have e3 : ys = [] := by
          have := congrArg List.length e
          simp at this
          exact this
        subst e3
        cases cs with
        | nil => obtain ⟨_, _, z, _⟩ := h2; cases z
        | cons _ _ => obtain ⟨_, _, z, _⟩ := h2; cases z
      | cons z zs =>
        cases e
        obtain ⟨g1, g2⟩ := ih zs h2
        exact ⟨⟨_, _, rfl, h1, g1⟩, g2⟩
  obtain ⟨k1, k2⟩ := key ds xs hv
  exact ⟨d, ds, M, F, Qd, hs.1, k2, k1, hw, l1⟩
theorem j_bm (pa : PlainAttrs T) (slot : Slot T name id) (hty : typeOf (.builtin id) = pure (.type "method_descriptor")) (hm : MtR X id (liftM X.K r)) (ho : JE X W o we) (ha : JA X W (e :: es) wa)
    (hbase : attributeBase o name X.env (eval o X.env) = eval o X.env := by rfl)
    (hfew : ((backTo cpos (starEach (e :: es) X.env)).all (fun x => !x.1) && (backToKw cpos (keywordEach [] X.env)).all (fun x => x.1.isSome)
      && decide ((e :: es).length + ([] : List Keyword).length + (if ([] : List Keyword).isEmpty then 0 else 1) < 30)) = true := by rfl)
    (hline : (apos.endLine == cpos.line) = true := by rfl) (hs : starEach (e :: es) X.env = (false, eval e X.env) :: starEach es X.env := by rfl) (hplain : (backTo cpos (starEach es X.env)).any (·.1) = false := by rfl) :
    JE X W (.Call (.Attribute o name apos) (e :: es) [] cpos) (wBM T r we wa) :=
  pe_mono (pe_bm pa slot hty hm ho ha hbase hfew hline hs hplain) fun σ H Q h => by
    obtain ⟨ds, M, F, Qd, Xd, hs, hv, hw, l1, l2⟩ := h
    refine ⟨ds, M, F, _, Xd, hs, rfl, hw, fun v H' d M' ex rr dv q => ⟨tyD_ok rr q.1 dv, ?_⟩, l2⟩
    refine bindA (Rr := rE X.K) (Q := Q) (wa := wa) (es := [d]) (vs := [v]) (f := fun xs _ M Q _ => r d xs M Q) ⟨ds, M', F, Qd, Xd, hs.ext ex rr, DVs.one dv, q.2, l1.ext ex, l2.ext ex⟩ fun xs es' H1 h => finM h
theorem j_bm0 (pa : PlainAttrs T) (slot : Slot T name id) (hty : typeOf (.builtin id) = pure (.type "method_descriptor")) (hm : MtR X id (liftM X.K r)) (ho : JE X W o we)
    (hbase : attributeBase o name X.env (eval o X.env) = eval o X.env := by rfl) (hline : (apos.endLine == cpos.line) = true := by rfl) : JE X W (.Call (.Attribute o name apos) [] [] cpos) (wBM T r we wNil) :=
  pe_mono (pe_bm0 pa slot hty hm ho hbase hline) fun σ H Q h => by
    obtain ⟨ds, M, F, Qd, Xd, hs, hv, hw, l1, l2⟩ := h
    exact ⟨ds, M, F, _, Xd, hs, rfl, hw, fun v H' d M' ex rr dv q => ⟨tyD_ok rr q.1 dv, d, [], M', F, Qd, rr, dv, rfl, q.2, l1.ext ex⟩, l2⟩
end
end DL
namespace DL
open PySem PySem.Spec PyProof.Rows L2 RZ

/-! ### xs[i] = v, x op= v -/
def wSub (we wo wi : WE) (r : D → D → D → Mem → (Mem → Prop) → Prop) : WS := fun E ds M => we ds M (fun v M1 => wo ds M1 (fun o M2 => wi ds M2 (fun i M3 => r o i v M3 fun M4 => E.nx ds M4) (E.xc ds)) (E.xc ds)) (E.xc ds)
def wAug (i : Nat) (we : WE) (r : RD2) : WS := fun E ds M => wGet ds[i]? fun d => we ds M (fun e M1 => r d e M1 fun z M2 => E.nx (ds.set i (some z)) M2) (E.xc ds)
section
variable {X : Cx} {W : WX} {o i e : Expr} {wo wi we : WE} {pos : Pos}
theorem js_sub {spos : Pos} (he : JE X W e we) (ho : JE X W o wo) (hi : JE X W i wi)
    (ha : ∀ v, assign (.Subscript o i pos) X.env v = (do
      let ov ← holding [v] (eval o X.env)
      let iv ← holding [v, ov] (eval i X.env)
      standAt pos
      holding [v, ov, iv] (setItem ov iv v)
      release [v, ov, iv] []) := by intro _; rfl)
    (hs : swapsWithSole [.Subscript o i pos] e spos.line X.env = pure false := by rfl) (hw : swappedStores [.Subscript o i pos] e X.env = pure none := by rfl)
    (h1 : (assignEach [.Subscript o i pos] X.env).map (·.2) = [assign (.Subscript o i pos) X.env] := by rfl) : JS X W (.Assign [.Subscript o i pos] e spos) (wSub we wo wi rSetD) :=
  ps_mono (ps_asg he (pg_sub ho hi set_list ha) hs hw h1) fun D' σ H h =>
    bindSE (wa := we) (f := fun v E ds M => wo ds M (fun o M2 => wi ds M2 (fun i M3 => rSetD o i v M3 fun M4 => E.nx ds M4) (E.xc ds)) (E.xc ds)) h fun v d H1 h =>
    bindSE (wa := wo) (f := fun o E ds M => wi ds M (fun i M3 => rSetD o i d M3 fun M4 => E.nx ds M4) (E.xc ds)) h fun ov od H2 h =>
    bindSE (wa := wi) (f := fun i E ds M => rSetD od i d M fun M4 => E.nx ds M4) h fun iv id H3 h => by
      obtain ⟨ds, M, F, E, hs, hv, hw, l⟩ := h
      obtain ⟨_, _, e1, g1, _, _, e2, g2, _, _, e3, g3, _⟩ := hv
      cases e1
      cases e2
      cases e3
      unfold rSetD at hw
      split at hw
      · rename_i j
        obtain ⟨a, ys, e4, e5, q⟩ := ownL_of hw
        obtain ⟨n, e6, q⟩ := optK_of q
        subst e4
        cases (show ov = .ref a from g2)
        cases (show iv = .int j from g1)
        obtain ⟨zs, k1, k2⟩ := hs.1.get e5
        refine ⟨a, zs, j, n, rfl, rfl, k1, by rw [k2.len]; exact e6, ?_⟩
        have x := hs.1.xset (o := HO.lst (zs.set n v)) (u := .lst (ys.set n d)) e5
        have st : DVs X.K H3 (uni M F) (ys.set n d) (zs.set n v) := DVs.of_get (by rw [List.length_set, List.length_set, k2.len]) fun m c hm => by
          by_cases hz : n = m
          · subst hz
            by_cases hl : n < ys.length
            · rw [List.getElem?_set_self hl] at hm
              cases hm
              exact ⟨v, by rw [List.getElem?_set_self (by rw [k2.len]; exact hl)], g3⟩
            · rw [List.getElem?_eq_none (by rw [List.length_set]; omega)] at hm
              cases hm
          · rw [List.getElem?_set_ne hz] at hm ⊢
            exact k2.get hm
        exact l.nx _ _ ds _ x (hs.ext x (hs.1.set e5 ⟨_, upd_same, DVs.ext hs.1.rel x _ _ st⟩)) q
      · exact hw.elim
/-- an operator's step in place -/
theorem ip_of {op : Operator} {r : RD2} (h : OpR X (inplaceOp op) (liftV2 X.K r)) : PIp X op (liftV2 X.K r) := fun pins s σ H x y v u Q I r1 r2 hh => h pins s σ H x y v u Q I r1 r2 hh
theorem oi_add : OpR X (inplaceOp .Add) (liftV2 X.K (rInt0D fun i j => .int (i + j))) := od_int0 iop_add fun _ _ _ _ => rfl
theorem oi_sub : OpR X (inplaceOp .Sub) (liftV2 X.K (rInt0D fun i j => .int (i - j))) := od_int0 iop_sub fun _ _ _ _ => rfl
theorem js_aug {k : Nat} {x : Str} {op : Operator} {r : RD2} {pos' : Pos} (hN : X.N.Nodup) (he : JE X W e we) (ho : OpR X (inplaceOp op) (liftV2 X.K r)) (hi : X.N[k]? = some x := by rfl) (hx : Loc X.env.scope x := by first | exact Or.inl rfl | exact Or.inr rfl)
    (hf : X.fn x = true ∨ X.env.scope.names.lookup x = some .local := by first | exact .inl rfl | exact .inr rfl | assumption) : JS X W (.AugAssign (.Name x pos') op e pos) (wAug k we r) :=
  ps_mono (ps_aug hN hi hx he (ip_of ho) hf) fun D' σ H h => by
    obtain ⟨ds, M, F, E, hs, hv, hw, l⟩ := h
    unfold wAug at hw
    cases q : ds[k]? with
    | none => rw [q] at hw; exact hw.elim
    | some od =>
      cases od with
      | none => rw [q] at hw; exact hw.elim
      | some d =>
        rw [q] at hw
        obtain ⟨v, h1, h2⟩ := hs.2.2 k d q
        refine ⟨v, h1, ?_⟩
        refine bindSE (es := [d]) (vs := [v]) (wa := we) (f := fun e E ds M => r d e M fun z M2 => E.nx (ds.set k (some z)) M2) (D' := D') ⟨ds, M, F, E, hs, DVs.one h2, hw, l⟩ fun u e H1 h => ?_
        obtain ⟨ds, M, F, E, hs, hv, hw, l⟩ := h
        obtain ⟨_, _, e1, g1, _, _, e2, g2, _⟩ := hv
        cases e1
        cases e2
        exact ⟨d, e, M, F, _, hs.1, g2, g1, hw, fun z H' dz M' ex rr dv q => l.nx _ H' _ M' ex ⟨rr, Sl.set (hs.ext ex rr).2 dv⟩ q⟩
end

/-! ### instances -/
def moIns : Option MO → Option (Addr × List Str × List D)
  | some (.ins C ns xs) => some (C, ns, xs)
  | _ => none
def insOf (M : Mem) : D → Option (Addr × List Str × List D)
  | .ins C ns xs => some (C, ns, xs)
  | .ref a => moIns (M a)
  | _ => none
/-- an instance of C whose fields are ns: its values -/
def insK (C : Addr) (ns : List Str) (M : Mem) (d : D) (k : List D → Prop) : Prop := optK (insOf M d) fun p => p.1 = C ∧ p.2.1 = ns ∧ k p.2.2
theorem insK_of {K : PySem.W.Frag} {H : Hp} {M F : Mem} {C : Addr} {ns : List Str} {d : D} {x : V} {k : List D → Prop} (R : Rm K H M F) (h : insK C ns M d k) (g : DV K H (uni M F) d x) :
    ∃ a dx fs xs, x = .ref a ∧ H a = some (.ins C dx fs) ∧ fs.map (·.1) = ns ∧ DVs K H (uni M F) xs (fs.map (·.2)) ∧ k xs := by
  obtain ⟨⟨C', ns', xs⟩, e, rfl, rfl, q⟩ := optK_of h
  cases d <;> first | cases e | skip
  · rename_i a
    cases (show x = .ref a from g)
    have e' : moIns (M a) = some (C', ns', xs) := e
    unfold moIns at e'
    split at e'
    · rename_i e2
      cases e'
      obtain ⟨dx, fs, q1, q2, q3⟩ := R.get e2
      exact ⟨a, dx, fs, xs, rfl, q1, q2, q3, q⟩
    · cases e'
  · obtain ⟨a, dx, fs, e1, q1, _, q2, q3⟩ := g
    exact ⟨a, dx, fs, xs, e1, q1, q2, q3, q⟩
theorem look_at {f : Str} {i : Nat} : ∀ {fs : List (Str × V)} {ns : List Str}, fs.map (·.1) = ns → ns.findIdx? (· == f) = some i → fs.lookup f = (fs.map (·.2))[i]?
  | [], ns, h, e => by
    subst h
    cases e
  | (g, v) :: fs, ns, h, e => by
    subst h
    rw [List.map_cons, List.findIdx?_cons] at e
    by_cases hg : g = f
    · subst hg
      rw [if_pos (beq_self_eq_true g)] at e
      cases e
      simp [List.lookup]
    · have hb : ((g, v).1 == f) = false := by simpa using hg
      rw [hb, if_neg Bool.false_ne_true] at e
      cases q : List.findIdx? (· == f) (fs.map (·.1)) with
      | none => rw [q] at e; cases e
      | some j =>
        rw [q] at e
        cases e
        have hb' : (f == g) = false := by simpa using fun z => hg z.symm
        rw [List.lookup, hb', List.map_cons, List.getElem?_cons_succ]
        exact look_at rfl q
theorem look_no {f : Str} : ∀ {fs : List (Str × V)} {ns : List Str}, fs.map (·.1) = ns → ns.findIdx? (· == f) = none → fs.lookup f = none
  | [], ns, h, e => rfl
  | (g, v) :: fs, ns, h, e => by
    subst h
    rw [List.map_cons, List.findIdx?_cons] at e
    by_cases hg : g = f
    · subst hg
      rw [if_pos (beq_self_eq_true g)] at e
      cases e
    · have hb : ((g, v).1 == f) = false := by simpa using hg
      rw [hb, if_neg Bool.false_ne_true] at e
      have hb' : (f == g) = false := by simpa using fun z => hg z.symm
      rw [List.lookup, hb']
      refine look_no rfl ?_
      cases q : List.findIdx? (· == f) (fs.map (·.1)) with
      | none => rfl
      | some j => rw [q] at e; cases e
/-- a field stored: in its place, or as a new one -/
def putD (ns : List Str) (xs : List D) (f : Str) (d : D) : Option Nat → List Str × List D
  | some i => (ns, xs.set i d)
  | none => (ns ++ [f], xs ++ [d])
theorem putF_rel {K : PySem.W.Frag} {H : Hp} {N : Mem} {f : Str} {v : V} {d : D} (dv : DV K H N d v) : ∀ {fs : List (Str × V)} {ns : List Str} {xs : List D} {o : Option Nat}, fs.map (·.1) = ns → DVs K H N xs (fs.map (·.2)) → ns.findIdx? (· == f) = o →
    (putF f v fs).map (·.1) = (putD ns xs f d o).1 ∧ DVs K H N (putD ns xs f d o).2 ((putF f v fs).map (·.2))
  | [], ns, xs, o, h, g, e => by
    subst h
    have e' : xs = [] := by
      cases xs with
      | nil => rfl
      | cons _ _ => obtain ⟨_, _, z, _⟩ := g; cases z
    subst e'
    cases e
    exact ⟨rfl, DVs.one dv⟩
  | (k, w) :: fs, ns, xs, o, h, g, e => by
    subst h
    cases xs with
    | nil => cases (show _ = [] from g)
    | cons c cs =>
      obtain ⟨y, ys, e1, g1, g2⟩ := g
      rw [List.map_cons] at e1
      cases e1
      rw [List.map_cons, List.findIdx?_cons] at e
      by_cases hg : k = f
      · subst hg
        rw [if_pos (beq_self_eq_true k)] at e
        subst e
        refine ⟨?_, ?_⟩
        · show ((if k = k then (k, v) :: fs else _) : List (Str × V)).map (·.1) = _
          rw [if_pos rfl]
          rfl
        · show DVs K H N _ (((if k = k then (k, v) :: fs else _) : List (Str × V)).map (·.2))
          rw [if_pos rfl]
          exact ⟨v, _, rfl, dv, g2⟩
      · have hb : ((k, w).1 == f) = false := by simpa using hg
        rw [hb, if_neg Bool.false_ne_true] at e
        have ih := putF_rel (f := f) (v := v) dv (fs := fs) rfl g2 rfl
        have ee : putF f v ((k, w) :: fs) = (k, w) :: putF f v fs := if_neg hg
        rw [ee]
        cases q : List.findIdx? (· == f) (fs.map (·.1)) with
        | none =>
          rw [q] at e ih
          subst e
          refine ⟨?_, ?_⟩
          · show k :: (putF f v fs).map (·.1) = _
            rw [ih.1]
            rfl
          · exact ⟨w, _, rfl, g1, ih.2⟩
        | some j =>
          rw [q] at e ih
          subst e
          refine ⟨?_, ?_⟩
          · show k :: (putF f v fs).map (·.1) = _
            rw [ih.1]
            rfl
          · exact ⟨w, _, rfl, g1, ih.2⟩
def wFld (C : Addr) (ns : List Str) (i : Nat) (we : WE) : WE := fun ds M Q Xc => we ds M (fun d M1 => insK C ns M1 d fun xs => optK xs[i]? fun v => Q v M1) Xc
/-- o.f = e, o an owned instance -/
def wFst (C : Addr) (ns : List Str) (f : Str) (o : Option Nat) (we wo : WE) : WS := fun E ds M => we ds M (fun v M1 => wo ds M1 (fun d M2 => match d with
  | .ref a => optK (moIns (M2 a)) fun p => p.1 = C ∧ p.2.1 = ns ∧ E.nx ds (mput M2 a (.ins C (putD ns p.2.2 f v o).1 (putD ns p.2.2 f v o).2))
  | _ => False) (E.xc ds)) (E.xc ds)
def wMeth (C : Addr) (ns : List Str) (sp : SpD) (we : WE) (wa : WA) : WE := fun ds M Q Xc => we ds M (fun d M1 => insK C ns M1 d fun _ => wa ds M1 (fun xs M2 => sp (d :: xs) M2 Q Xc) Xc) Xc
def wProp (C : Addr) (ns : List Str) (sp : SpD) (we : WE) : WE := fun ds M Q Xc => we ds M (fun d M1 => insK C ns M1 d fun _ => sp [d] M1 Q XF) Xc
def wMake (C : Addr) (sp : SpD) (wa : WA) : WE := fun ds M Q Xc => wa ds M (fun xs M1 => ∀ a, M1 a = none → sp (.ref a :: xs) (mput M1 a (.ins C [] [])) (fun d M2 => d = .non ∧ Fin Q (.ref a) M2) Xc) Xc
section
variable {X : Cx} {W : WX} {o e : Expr} {es : List Expr} {wo we : WE} {wa : WA} {f m x : Str} {pos apos p : Pos} {C g fI : Addr} {ns : List Str} {k j : Nat} {sp : SpD}
theorem j_fld {i : Nat} (c : Cls X.K C) (n : NoAttr X.K C f) (hi : ns.findIdx? (· == f) = some i) (he : JE X W o we) (hb : attributeBase o f X.env (eval o X.env) = eval o X.env := by rfl) : JE X W (.Attribute o f pos) (wFld C ns i we) :=
  pe_mono (pe_fld he hb) fun σ H Q h => bindE (wa := we) (f := fun d _ M Q _ => insK C ns M d fun xs => optK xs[i]? fun v => Q v M) h fun v d H1 h => by
    obtain ⟨_, M, F, Qd, Xd, hs, hv, hw, l1, _⟩ := h
    obtain ⟨_, _, e1, h1, _⟩ := hv
    cases e1
    obtain ⟨a, dx, fs, xs, e2, q1, q2, q3, q⟩ := insK_of hs.1 hw h1
    obtain ⟨z, e3, q⟩ := optK_of q
    obtain ⟨y, k1, k2⟩ := q3.get e3
    exact ⟨a, C, dx, fs, y, e2, q1, c, n, by rw [look_at q2 hi]; exact k1, l1 y H1 z M Ext.rfl' hs.1 k2 q⟩
theorem js_fld {o' : Option Nat} {value : Expr} {wv : WE} {pos' : Pos} (c : Cls X.K C) (n : NoAttr X.K C f) (ho : ns.findIdx? (· == f) = o') (hl : ns.length < 1000) (ha : JE X W o wo) (hv : JE X W value wv) (hs : swapsWith value (some (.Attribute o f pos')) pos.line X.env = pure false := by rfl) :
    JS X W (.Assign [.Attribute o f pos'] value pos) (wFst C ns f o' wv wo) :=
  ps_mono (ps_fld ha hv hs) fun D' σ H h => bindSE (wa := wv) (f := fun v E ds M => wo ds M (fun d M2 => match d with
      | .ref a => optK (moIns (M2 a)) fun p => p.1 = C ∧ p.2.1 = ns ∧ E.nx ds (mput M2 a (.ins C (putD ns p.2.2 f v o').1 (putD ns p.2.2 f v o').2))
      | _ => False) (E.xc ds)) h fun v d H1 h => bindSE (wa := wo) (f := fun z E ds M => match z with
      | .ref a => optK (moIns (M a)) fun p => p.1 = C ∧ p.2.1 = ns ∧ E.nx ds (mput M a (.ins C (putD ns p.2.2 f d o').1 (putD ns p.2.2 f d o').2))
      | _ => False) h fun ov od H2 h => by
    obtain ⟨ds, M, F, E, hs, hv, hw, l⟩ := h
    obtain ⟨_, _, e1, g1, _, _, e2, g2, _⟩ := hv
    cases e1
    cases e2
    split at hw
    · rename_i a
      cases (show ov = .ref a from g1)
      obtain ⟨⟨C', ns', xs⟩, e3, e4, e5, q⟩ := optK_of hw
      dsimp only at e4 e5 q
      subst e4
      subst e5
      unfold moIns at e3
      split at e3
      · rename_i e6
        cases e3
        obtain ⟨dx, fs, q1, q2, q3⟩ := hs.1.get e6
        refine ⟨a, C', dx, fs, rfl, q1, c, n, ?_, ?_⟩
        · rw [← List.length_map (f := (·.1)), q2]
          exact hl
        · obtain ⟨k1, k2⟩ := putF_rel (f := f) g2 q2 q3 ho
          have x := hs.1.xset (o := HO.ins C' dx (putF f v fs)) (u := .ins C' (putD ns' xs f d o').1 (putD ns' xs f d o').2) e6
          exact l.nx _ _ ds _ x (hs.ext x (hs.1.set e6 ⟨dx, _, upd_same, k1, DVs.ext hs.1.rel x _ _ k2⟩)) q
      · cases e3
    · exact hw.elim
theorem fnlen {fd : FuncData} {ps : List Str} {CX : CXT} {q : Sp} (F : FnOk X.prog X.w X.K X.mg X.base CX k g fd ps q) {vs : List V} {us : List Value} {H : Hp} {Q : VK} {E : XK} (r : Vals vs us) (h : q vs H Q E) : us.length = ps.length := by
  rw [← r.length]
  exact F.len _ _ _ _ h
/-- o.m(e, ..) of an instance -/
theorem j_meth {pl : Sem Bool} (he : JE X W o we) (c : Cls X.K C) (hm : Meth X.K C m g) (hn : ns.findIdx? (· == m) = none) (F : FnJ X.prog X.w X.K X.mg X.base k g sp) (hr : Room j X.A) (hkj : k ≤ j) (tk : Takes X W) (ha : JA X W (e :: es) wa)
    (hst : starEach (e :: es) X.env = (false, eval e X.env) :: starEach es X.env := by rfl) (hpl : (backTo pos (starEach es X.env)).any (·.1) = false := by rfl)
    (ht : eval (.Call (.Attribute o m apos) (e :: es) [] pos) X.env = (do
      let ov ← eval o X.env
      standAt apos.atName
      let (f, first) ← holding [ov] (getMethod ov m pl)
      callWith pos f first (backTo pos (starEach (e :: es) X.env)) (backToKw pos (keywordEach [] X.env))) := by rfl) :
    JE X W (.Call (.Attribute o m apos) (e :: es) [] pos) (wMeth C ns sp we wa) := by
  obtain ⟨fd, ps, h1, h2⟩ := F.ex
  refine ⟨fun pins s σ H Q I h => ?_⟩
  have hh : liftE X.K W we σ H (fun x H1 => ∃ a dx fs, x = V.ref a ∧ H1 a = some (.ins C dx fs) ∧ fs.lookup m = none ∧ liftA X.K W wa σ H1 fun vs H2 => liftSp X.K sp (x :: vs) H2 Q (L2.WE W σ)) :=
    bindE (wa := we) (f := fun d ds M Q Xc => insK C ns M d fun _ => wa ds M (fun xs M2 => sp (d :: xs) M2 Q Xc) Xc) h fun v d H1 h => by
      obtain ⟨ds, M, Fr, Qd, Xd, hs, hv, hw, l1, l2⟩ := h
      have hv' := hv
      obtain ⟨_, _, e1, g1, _⟩ := hv
      cases e1
      obtain ⟨a, dx, fs, xs, e2, q1, q2, q3, q⟩ := insK_of hs.1 hw g1
      refine ⟨a, dx, fs, e2, q1, look_no q2 hn, bindA (Rr := rE X.K) (Q := Q) (wa := wa) (es := [d]) (vs := [v]) (f := fun xs _ M Q Xc => sp (d :: xs) M Q Xc) ⟨ds, M, Fr, Qd, Xd, hs, hv', q, l1, l2⟩ fun ys zs H2 h => ?_⟩
      obtain ⟨_, M2, F2, Qd2, Xd2, hs2, hv2, hw2, m1, m2⟩ := h
      have key : ∀ (zs : List D) (ys : List V), DVs X.K H2 (uni M2 F2) (zs ++ [d]) (ys ++ [v]) → DVs X.K H2 (uni M2 F2) (d :: zs) (v :: ys) := fun zs ys hz => by
        have z := finM (r := fun _ _ _ _ => True) (K := X.K) (W := WF) (d := d) (ds := zs) (x := v) (xs := ys) (σ := σ) (H := H2) (Q := fun _ _ => True)
          ⟨_, M2, F2, fun _ _ => True, XF, hs2, hz, trivial, fun _ _ _ _ _ _ _ _ => trivial, fun _ _ _ _ _ _ _ _ z => z.elim⟩
        have n1 := DVs.len hz
        rw [List.length_append, List.length_append, List.length_singleton, List.length_singleton] at n1
        have t1 := hz.take zs.length
        have t2 := hz.drop zs.length
        rw [List.take_left, show zs.length = ys.length by omega, List.take_left] at t1
        rw [List.drop_left, show zs.length = ys.length by omega, List.drop_left] at t2
        obtain ⟨y, w, e, k1, k2⟩ := t2
        cases e
        exact ⟨_, _, rfl, k1, t1⟩
      exact ⟨d :: zs, M2, F2, Qd2, Xd2, hs2.1, key zs ys hv2, hw2, m1, m2⟩
  refine PySem.W.methodCall_KW (pl := pl) (thn (he.run pins s σ H _ I hh) ?_) ht
  rintro u s1 ⟨x, H1, I1, rx, a, dx, fs, rfl, ea, l, q⟩
  cases (show u = Value.ref a from rx)
  refine getmeth_ok I1 ea c hm l (PySem.W.callWith_K (first := [.ref a]) (h₀ := X.base) I.ok.mod.kin hm.kp (thn (ha.run pos pins s1 σ H1 _ I1 q) ?_) hst hpl)
  rintro us s2 ⟨vs, H2, I2, r, q2⟩
  exact ⟨I2.kIn, run_fnS (us := .ref a :: us) (vs := .ref a :: vs) h1 (hr.mono hkj) h2 (passAt tk σ) I2 (.cons rfl r) q2⟩
/-- o.m() -/
theorem j_meth0 {pl : Sem Bool} (he : JE X W o we) (c : Cls X.K C) (hm : Meth X.K C m g) (hn : ns.findIdx? (· == m) = none) (F : FnJ X.prog X.w X.K X.mg X.base k g sp) (hr : Room j X.A) (hkj : k ≤ j) (tk : Takes X W)
    (ht : eval (.Call (.Attribute o m apos) [] [] pos) X.env = (do
      let ov ← eval o X.env
      standAt apos.atName
      let (f, first) ← holding [ov] (getMethod ov m pl)
      callWith pos f first (backTo pos (starEach [] X.env)) (backToKw pos (keywordEach [] X.env))) := by rfl) :
    JE X W (.Call (.Attribute o m apos) [] [] pos) (wMeth C ns sp we wNil) := by
  obtain ⟨fd, ps, h1, h2⟩ := F.ex
  refine ⟨fun pins s σ H Q I h => ?_⟩
  have hh : liftE X.K W we σ H (fun x H1 => ∃ a dx fs, x = V.ref a ∧ H1 a = some (.ins C dx fs) ∧ fs.lookup m = none ∧ liftSp X.K sp [x] H1 Q (L2.WE W σ)) :=
    bindE (wa := we) (f := fun d ds M Q Xc => insK C ns M d fun _ => sp [d] M Q Xc) h fun v d H1 h => by
      obtain ⟨ds, M, Fr, Qd, Xd, hs, hv, hw, l1, l2⟩ := h
      have hv' := hv
      obtain ⟨_, _, e1, g1, _⟩ := hv
      cases e1
      obtain ⟨a, dx, fs, xs, e2, q1, q2, q3, q⟩ := insK_of hs.1 hw g1
      exact ⟨a, dx, fs, e2, q1, look_no q2 hn, [d], M, Fr, Qd, Xd, hs.1, hv', q, l1, l2⟩
  refine PySem.W.methodCall_KW (pl := pl) (thn (he.run pins s σ H _ I hh) ?_) ht
  rintro u s1 ⟨x, H1, I1, rx, a, dx, fs, rfl, ea, l, q⟩
  cases (show u = Value.ref a from rx)
  refine getmeth_ok I1 ea c hm l ?_
  exact PySem.W.callWith_K0 (first := [.ref a]) I1.kIn hm.kp (run_fnS (us := [.ref a]) (vs := [.ref a]) h1 (hr.mono hkj) h2 (passAt tk σ) I1 (.cons rfl .nil) q)
/-- o.f, a property -/
theorem j_prop {pp : Addr} (he : JE X W o we) (c : Cls X.K C) (hp : PropOf X.K C f pp g) (F : FnJ X.prog X.w X.K X.mg X.base k g sp) (hr : Room j X.A) (hkj : k + 1 ≤ j) (hb : attributeBase o f X.env (eval o X.env) = eval o X.env := by rfl) : JE X W (.Attribute o f pos) (wProp C ns sp we) := by
  obtain ⟨fd, ps, h1, h2⟩ := F.ex
  refine pe_mono (pe_prop he c hp h1 (hr.mono hkj) h2 .nil passL hb) fun σ H Q h => bindE (wa := we) (f := fun d ds M Q Xc => insK C ns M d fun _ => sp [d] M Q XF) h fun v d H1 h => ?_
  obtain ⟨ds, M, Fr, Qd, Xd, hs, hv, hw, l1, l2⟩ := h
  have hv' := hv
  obtain ⟨_, _, e1, g1, _⟩ := hv
  cases e1
  obtain ⟨a, dx, fs, xs, e2, q1, q2, q3, q⟩ := insK_of hs.1 hw g1
  subst e2
  exact ⟨a, dx, fs, rfl, q1, [d], M, Fr, Qd, XF, hs.1, hv', q, l1, fun _ _ _ _ _ _ _ _ z => z.elim⟩
/-- C(..) made: the callee is __init__ -/
theorem run_mk {CX : CXT} {q : Sp} {E : XK} {fd : FuncData} {ps : List Str} {pins : List (Addr × Obj)} {σ : L2.St} {H : Hp} {s : Shared} {Q : VK} {us : List Value} {vs : List V} (Z : Mk X.K C fI) (F : FnOk X.prog X.w X.K X.mg X.base CX k fI fd ps q) (hr : Room (k + 1) X.A) (hb : Binds X.K fd ps [])
    (hx : PassesAt CX X σ E) (I : Inv X pins σ H s) (r : Vals vs us)
    (h : ∀ x dx, H x = none → H dx = none → dx ≠ x → q (.ref x :: vs) (upd (upd H dx (.own x)) x (.ins C dx [])) (fun v H2 => v = .non ∧ Q (.ref x) H2) E) : wpAny (model X.prog X.w) X.A (call (.ref C) us) (EP X pins σ Q) X.xe s := by
  obtain ⟨n, hn⟩ : ∃ n, n = s.heap.objs.size := ⟨_, rfl⟩
  have f1 : H n = none := I.hok.fresh (Nat.le_of_eq hn.symm)
  have f2 : H (n + 1) = none := I.hok.fresh (Nat.le_trans (Nat.le_of_eq hn.symm) (Nat.le_succ n))
  have hq := h (n + 1) n f2 f1 (Nat.ne_of_lt (Nat.lt_succ_self n))
  subst hn
  have J := Inv.made (C := C) I
  have rr : Vals (V.ref (s.heap.objs.size + 1) :: vs) (Value.ref (s.heap.objs.size + 1) :: us) := .cons rfl r
  have hl : (Value.ref (s.heap.objs.size + 1) :: us).length = ps.length := by
    rw [← rr.length]
    exact F.len _ _ _ _ hq
  have hbt := hb { s with heap := _ } (Value.ref (s.heap.objs.size + 1) :: us) J.kIn (by rw [List.append_nil]; exact hl)
  rw [List.append_nil] at hbt
  refine wpAny_call (make_map (f := fI) I.kIn Z.makes Z.init (beq_iff_eq.mp Z.fn) (codeAny_mono (F.run _ X.stack _ _ ⟨_, []⟩ _ _ _ E (hr.make C us []) (J.env0.make C us []) hbt rr hq) fun res s' hres => ?_))
  cases res with
  | error e => exact hx pins _ _ e s' J hres
  | ok fl =>
    cases fl with
    | ret u =>
      obtain ⟨v, H', I3, rv, ev, q3⟩ := J.after hres
      subst ev
      exact ⟨rv, V.ref (s.heap.objs.size + 1), H', I3, rfl, q3⟩
    | next => exact hres.elim
    | brk => exact hres.elim
    | cont => exact hres.elim
theorem mk_lift {xs : List D} {vs : List V} {σ : L2.St} {H : Hp} {Q : VK} (h : lift X.K W (rE X.K) xs vs (fun _ M Q Xc => ∀ a, M a = none → sp (.ref a :: xs) (mput M a (.ins C [] [])) (fun d M2 => d = .non ∧ Fin Q (.ref a) M2) Xc) σ H Q) :
    ∀ x dx, H x = none → H dx = none → dx ≠ x → liftSp X.K sp (.ref x :: vs) (upd (upd H dx (.own x)) x (.ins C dx [])) (fun v H2 => v = .non ∧ Q (.ref x) H2) (L2.WE W σ) := by
  intro x dx hx hdx hne
  obtain ⟨_, M, F, Qd, Xd, hs, hv, hw, l1, l2⟩ := h
  have R1 := hs.1.new (o := HO.own x) hdx
  have e1 := new_ext hs.1.rel (o := HO.own x) hdx
  have hx1 : upd H dx (.own x) x = none := by rw [upd_ne (fun z => hne z.symm)]; exact hx
  have e2 := R1.xown (o := HO.ins C dx []) (u := .ins C [] []) hx1
  have R2 := R1.own (o := HO.ins C dx []) (u := .ins C [] []) hx1 ⟨dx, [], upd_same, rfl, rfl⟩
  have e := e1.trans e2
  refine ⟨.ref x :: xs, _, F, _, Xd, R2, ⟨_, _, rfl, rfl, DVs.ext hs.1.rel e _ _ hv⟩, hw x (hs.1.mfree hx), fun v H' d M' e' r' dv q => ?_, fun cls dc H' z M' e' r' dv q => l2 cls dc H' z M' (e.trans e') r' dv q⟩
  obtain ⟨q1, d2, M2, fz, q⟩ := q
  subst q1
  exact ⟨dv, l1 (.ref x) H' d2 M2 ((e.trans e').down (sub_none fz.sub)) (r'.sub fz.sub) (fz.dv _ _ _ _ r' rfl) q⟩
theorem j_make (Z : Mk X.K C fI) (F : FnJ X.prog X.w X.K X.mg X.base k fI sp) (hr : Room j X.A) (hkj : k + 1 ≤ j) (hm : X.mg x = some (.ref C)) (tk : Takes X W) (ha : JA X W (e :: es) wa) (hg : Gl X x := by rfl)
    (hdb : (x == ("__debug__" : Str)) = false := by decide) (he : starEach (e :: es) X.env = (false, eval e X.env) :: starEach es X.env := by rfl) (hpl : (backTo pos (starEach es X.env)).any (·.1) = false := by rfl) :
    JE X W (.Call (.Name x p) (e :: es) [] pos) (wMake C sp wa) := by
  obtain ⟨fd, ps, h1, h2⟩ := F.ex
  refine ⟨fun pins s σ H Q I h => wpAny_Call_Name_kw (ld_glob I hg hm ?_ hdb)⟩
  have hh : liftA X.K W wa σ H (fun vs H1 => ∀ x dx, H1 x = none → H1 dx = none → dx ≠ x → liftSp X.K sp (.ref x :: vs) (upd (upd H1 dx (.own x)) x (.ins C dx [])) (fun v H2 => v = .non ∧ Q (.ref x) H2) (L2.WE W σ)) :=
    bindA (wa := wa) (f := fun xs _ M Q Xc => ∀ a, M a = none → sp (.ref a :: xs) (mput M a (.ins C [] [])) (fun d M2 => d = .non ∧ Fin Q (.ref a) M2) Xc) h fun vs xs H1 h => mk_lift (by rw [List.append_nil, List.append_nil] at h; exact h)
  refine PySem.W.callWith_K (h₀ := X.base) I.ok.mod.kin Z.kp (thn (ha.run pos pins s σ H _ I hh) ?_) he hpl
  rintro us s1 ⟨vs, H1, I1, r, q⟩
  exact ⟨I1.kIn, run_mk Z h1 (hr.mono hkj) h2 (passAt tk σ) I1 r q⟩
/-- C.f, a constant of the class -/
theorem j_cval {mc u : Value} {v : V} {d : D} (he : JE X W o we) (r : ClX.CRead X.K C mc) (c : ClX.CVal X.K C mc f v u) (rd : ∀ H M, DV X.K H M d v) (hb : attributeBase o f X.env (eval o X.env) = eval o X.env := by rfl) :
    JE X W (.Attribute o f pos) (fun ds M Q Xc => we ds M (fun z M1 => z = .ref C ∧ Q d M1) Xc) :=
  pe_mono (ClX.pe_cval he hb) fun σ H Q h => bindE (wa := we) (f := fun z _ M Q _ => z = .ref C ∧ Q d M) h fun x z H1 h => by
    obtain ⟨ds, M, Fr, Qd, Xd, hs, hv, hw, l1, l2⟩ := h
    obtain ⟨_, _, e1, g1, _⟩ := hv
    cases e1
    obtain ⟨e2, hw⟩ := hw
    subst e2
    exact ⟨C, mc, v, u, g1, r, c, l1 v H1 d M Ext.rfl' hs.1 (rd _ _) hw⟩
end
end DL
namespace DL
open PySem PySem.Spec PyProof.Rows L2 RZ

theorem tkF {X : Cx} : Takes X WF := takes0
theorem bo_len : bootBuiltins "len" = some (.builtin "len") := by decide +kernel
theorem bo_isinstance : bootBuiltins "isinstance" = some (.builtin "isinstance") := by decide +kernel
theorem bo_all : bootBuiltins "all" = some (.builtin "all") := by decide +kernel
theorem bo_any : bootBuiltins "any" = some (.builtin "any") := by decide +kernel
theorem bo_int : bootBuiltins "int" = some (.type "int") := by decide +kernel
theorem bo_str : bootBuiltins "str" = some (.type "str") := by decide +kernel
theorem bo_bool : bootBuiltins "bool" = some (.type "bool") := by decide +kernel
theorem bo_list : bootBuiltins "list" = some (.type "list") := by decide +kernel
theorem bo_tuple : bootBuiltins "tuple" = some (.type "tuple") := by decide +kernel
theorem bo_dict : bootBuiltins "dict" = some (.type "dict") := by decide +kernel

/-! ### isinstance(x, (A, B, ..)) -/
def wIsT (cs : List String) (we : WE) : WE := fun ds M Q Xc => we ds M (fun d M1 => cs.all (fun c => ["bool", "int", "str", "tuple", "list", "dict"].contains c) = true ∧ optK (tyN M1 d) fun n => Q (.bl (cs.any (isB n))) M1) Xc
section
variable {X : Cx} {W : WX} {e : Expr} {es : List Expr} {we : WE} {p pos p2 : Pos} {cs : List String} {k2 : Nat}
theorem pcs_nil : PA X [] (fun _ H Q => Q (([] : List String).map V.ty) H) := pa_nil
theorem pcs_cons {n : String} (h : PE X e (tC (.ty n))) (hr : PA X es (fun _ H Q => Q (cs.map V.ty) H)) (hs : starEach (e :: es) X.env = (false, eval e X.env) :: starEach es X.env := by rfl) : PA X (e :: es) (fun _ H Q => Q ((n :: cs).map V.ty) H) := pa_cons h hr hs
theorem kit_any {K : PySem.W.Frag} {n : String} (hn : n ∈ ["NoneType", "bool", "int", "str", "tuple", "list", "dict"]) : ∀ cs : List String, cs.all (fun c => ["bool", "int", "str", "tuple", "list", "dict"].contains c) = true → PySem.W.kitAny K (.type n) (cs.map Value.type) = some (cs.any (isB n))
  | [], _ => rfl
  | c :: cs, h => by
    rw [List.all_cons, Bool.and_eq_true] at h
    have hc : c ∈ ["bool", "int", "str", "tuple", "list", "dict"] := List.contains_iff_mem.mp h.1
    rw [List.map_cons, List.any_cons]
    refine kitAny_cons (b := isB n c) (kit_ty (isB_ok n hn c hc)) (fun e => ?_) (fun e => ?_)
    · rw [e, kit_any hn cs h.2, Bool.false_or]
    · rw [e, Bool.true_or]
theorem paired_cls : ∀ cs : List String, Paired ClsV (cs.map V.ty) (cs.map Value.type)
  | [] => .nil
  | c :: cs => .cons (.ty c) (paired_cls cs)
theorem j_isiT (hm : X.mg "isinstance" = none) (he : JE X W e we) (ht : PA X es (fun _ H Q => Q (cs.map V.ty) H)) (hl : cs.length ≤ 1000 := by decide) (hg : Gl X "isinstance" := by rfl)
    (h1 : starEach [e, .Tuple es k2 p2] X.env = (false, eval e X.env) :: starEach [.Tuple es k2 p2] X.env := by rfl) (h2 : starEach [.Tuple es k2 p2] X.env = (false, eval (.Tuple es k2 p2) X.env) :: starEach [] X.env := by rfl) (hpl : (backTo pos (starEach [.Tuple es k2 p2] X.env)).any (·.1) = false := by rfl) :
    JE X W (.Call (.Name "isinstance" p) [e, .Tuple es k2 p2] [] pos) (wIsT cs we) :=
  pe_mono (pe_callB call_isiT hg hm bo_isinstance (pa_cons he (pa_cons (pe_tup ht) pa_nil h2) h1) (by decide) (by decide) h1 hpl) fun σ H Q h =>
    bindE (wa := we) (f := fun d _ M Q _ => cs.all (fun c => ["bool", "int", "str", "tuple", "list", "dict"].contains c) = true ∧ optK (tyN M d) fun n => Q (D.bl (cs.any (isB n))) M) h fun v d H1 h => by
      obtain ⟨ds, M, F, Qd, Xd, hs, hv, hw, l1, l2⟩ := h
      obtain ⟨_, _, e1, g1, _⟩ := hv
      cases e1
      obtain ⟨hc, hw⟩ := hw
      obtain ⟨n, hn, q⟩ := optK_of hw
      refine ⟨by rw [List.length_map]; exact Nat.le_trans hl (by decide), fun tp htp => ?_⟩
      have x := new_ext hs.1.rel (o := HO.tup (cs.map V.ty)) htp
      have R := hs.1.new (o := HO.tup (cs.map V.ty)) htp
      obtain ⟨t, hn2⟩ := tyN_ok R hn (DV.ext hs.1.rel x _ _ g1)
      exact ⟨v, tp, _, .type n, _, cs.any (isB n), rfl, upd_same, paired_cls cs, t, kit_any hn2 cs hc, l1 (.bl _) _ (.bl _) M x R rfl q⟩
end

/-! ### a, b = x, y with plain local names -/
def wPar (i j : Nat) (wa : WA) : WS := fun E ds M => wa ds M (fun es M1 => match es with | [d, e] => E.nx ((ds.set i (some d)).set j (some e)) M1 | _ => False) (E.xc ds)
section
variable {X : Cx} {W : WX}
theorem js_par {i j : Nat} {x y : Str} {a b : Expr} {wa : WA} {px py pt pos : Pos} {kt k2 pt2} (hc : X.calm = true) (hN : X.N.Nodup) (ha : JA X W [a, b] wa) (hij : i ≠ j := by decide) (hi : X.N[i]? = some x := by rfl) (hj : X.N[j]? = some y := by rfl)
    (hx : X.env.scope.names.lookup x = some .local := by rfl) (hy : X.env.scope.names.lookup y = some .local := by rfl)
    (hw : swappedStores [.Tuple [.Name x px, .Name y py] kt pt] (.Tuple [a, b] k2 pt2) X.env = pure (some [x, y]) := by rfl)
    (hs : swapsWithSole [.Tuple [.Name x px, .Name y py] kt pt] (.Tuple [a, b] k2 pt2) pos.line X.env = pure false := by rfl) :
    JS X W (.Assign [.Tuple [.Name x px, .Name y py] kt pt] (.Tuple [a, b] k2 pt2) pos) (wPar i j wa) :=
  ps_mono (ps_par hc hN hi hj hij hx hy ha hw hs) fun D' σ H h => by
    obtain ⟨ds, M, F, E, hs, hv, hw, l⟩ := h
    refine ⟨ds, M, F, _, E.xc ds, hs, rfl, hw, fun vs H' es M' e r dv q => ?_, fun cls dc H' x M' e r dv q => l.ex cls dc σ H' x ds M' e (hs.ext e r) dv q⟩
    dsimp only at q
    split at q
    · obtain ⟨v, u, e1, g1, g2⟩ := dv2 dv
      subst e1
      exact ⟨v, u, rfl, l.nx _ H' _ M' e ⟨r, Sl.set (Sl.set (hs.ext e r).2 g1) g2⟩ q⟩
    · exact q.elim
end

/-! ### xs * n; join -/
def rRepD : RD2 := fun d e M Q => match d, e with
  | .lst xs, .int k => -(2 ^ 63) ≤ k ∧ k < 2 ^ 63 ∧ xs.length * k.toNat ≤ sizeLine ∧ Q (.lst (List.replicate k.toNat xs).flatten) M
  | _, _ => False
def strsD : List D → Option (List Str)
  | [] => some []
  | .str x :: ds => (strsD ds).map (x :: ·)
  | _ => none
def rJoinD (d : D) (ds : List D) (M : Mem) (Q : KN) : Prop := match d, ds with
  | .str a, [.lst xs] => optK (strsD xs) fun ys => (ys.map (·.length)).sum + ys.length * a.length ≤ 16777216 ∧ Q (.str (Txt.join a ys)) M
  | _, _ => False
theorem strsD_map {α : Type} (f : α → Str) : ∀ xs : List α, strsD (xs.map fun x => D.str (f x)) = some (xs.map f)
  | [] => rfl
  | x :: xs => by
    show (strsD (xs.map fun x => D.str (f x))).map (f x :: ·) = _
    rw [strsD_map f xs]
    rfl
theorem DVs.rep {K : PySem.W.Frag} {H : Hp} {M : Mem} {ds : List D} {xs : List V} (h : DVs K H M ds xs) : ∀ n : Nat, DVs K H M (List.replicate n ds).flatten (List.replicate n xs).flatten
  | 0 => rfl
  | n + 1 => by
    rw [List.replicate_succ, List.replicate_succ, List.flatten_cons, List.flatten_cons]
    exact DVs.app h (DVs.rep h n)
theorem DVs.strs {K : PySem.W.Frag} {H : Hp} {M : Mem} : ∀ {ds : List D} {ys : List Str} {xs : List V}, strsD ds = some ys → DVs K H M ds xs → xs = ys.map V.str
  | [], ys, xs, h, g => by
    cases h
    exact g
  | d :: ds, ys, xs, h, g => by
    obtain ⟨y, zs, e, g1, g2⟩ := g
    subst e
    cases d <;> first | cases h | skip
    rename_i b
    cases (show y = .str b from g1)
    have h' : (strsD ds).map (b :: ·) = some ys := h
    cases q : strsD ds with
    | none =>
      rw [q] at h'
      cases h'
    | some cs =>
      rw [q] at h'
      cases h'
      rw [DVs.strs q g2]
      rfl
section
variable {X : Cx}
theorem od_rep : OpR X (binaryOp .Mult) (liftV2 X.K rRepD) := by
  intro pins s σ H x y v u Q I rx ry hh
  obtain ⟨d, e, M, F, Qd, R, h1, h2, h3, l⟩ := hh
  unfold rRepD at h3
  split at h3
  · rename_i xs k
    obtain ⟨a, ys, e1, g1, _, g2⟩ := h1
    subst e1
    cases (show y = .int k from h2)
    obtain ⟨q1, q2, q3, q⟩ := h3
    refine op_rep pins s σ H _ _ v u Q I rx ry ⟨a, k, ys, rfl, rfl, g1, q1, q2, by rw [g2.len]; exact q3, fun p hp => ?_⟩
    have e' := new_ext R.rel (o := HO.lst (List.replicate k.toNat ys).flatten) hp
    exact l _ _ (.lst (List.replicate k.toNat xs).flatten) M e' (R.new hp) ⟨p, _, rfl, upd_same, R.rel.free hp, DVs.ext R.rel e' _ _ (g2.rep _)⟩ q
  · exact h3.elim
theorem md_join : MtR X "str.join" (liftM X.K rJoinD) := by
  intro pins s σ H x xs v us Q I rx rs hh
  obtain ⟨d, ds, M, F, Qd, R, h1, h2, h3, l⟩ := hh
  unfold rJoinD at h3
  split at h3
  · rename_i a zs
    cases (show x = .str a from h1)
    obtain ⟨y, e, g⟩ := dv1 h2
    subst e
    obtain ⟨b, ws, e1, g1, _, g2⟩ := g
    subst e1
    obtain ⟨ys, q1, q2, q⟩ := optK_of h3
    have e2 := DVs.strs q1 g2
    subst e2
    exact mt_join pins s σ H _ _ v us Q I rx rs ⟨a, b, ys, rfl, rfl, .inl (SqL.of g1), q2, l (.str _) H (.str _) M Ext.rfl' R rfl q⟩
  · exact h3.elim
end
/-- an expression whose value is a list that was made here and is owned: from here on nobody changes it -/
def wFz (w : WE) : WE := fun ds M Q Xc => w ds M (Fin Q) Xc
theorem j_fz {X : Cx} {W : WX} {e : Expr} {w : WE} (h : JE X W e w) : JE X W e (wFz w) := pe_mono h fun σ H Q h => by
  obtain ⟨ds, M, F, Qd, Xd, hs, hv, hw, l1, l2⟩ := h
  refine ⟨ds, M, F, Fin Qd, Xd, hs, hv, hw, fun v H' d M' e r dv q => ?_, l2⟩
  obtain ⟨d2, M2, fz, q⟩ := q
  exact l1 v H' d2 M2 (e.down (sub_none fz.sub)) (r.sub fz.sub) (fz.dv _ _ _ _ r dv) q
end DL
/-! sets of whole numbers and texts: how many unlike items; constants of modules and classes; owned lists in == -/
namespace DL
open PySem PySem.Spec PyProof.Rows L2 RZ

def kIn (k : Key) (xs : List Key) : Bool := xs.any fun x => decide (k = x)
theorem kIn_iff {k : Key} {xs : List Key} : kIn k xs = true ↔ k ∈ xs := by
  unfold kIn
  rw [List.any_eq_true]
  constructor
  · rintro ⟨x, h, e⟩
    rw [of_decide_eq_true e]
    exact h
  · exact fun h => ⟨k, h, decide_eq_true rfl⟩
/-- the unlike ones of the first i -/
def metK (ks : List Key) : Nat → List Key
  | 0 => []
  | i + 1 => match ks[i]? with
    | some k => if kIn k (metK ks i) = true then metK ks i else metK ks i ++ [k]
    | none => metK ks i
theorem metK_le (ks : List Key) : ∀ i, (metK ks i).length ≤ i
  | 0 => Nat.le_refl 0
  | i + 1 => by
    have ih := metK_le ks i
    show (match ks[i]? with
      | some k => if kIn k (metK ks i) = true then metK ks i else metK ks i ++ [k]
      | none => metK ks i).length ≤ i + 1
    split
    · split
      · omega
      · rw [List.length_append, List.length_singleton]; omega
    · omega
theorem metK_some {ks : List Key} {i : Nat} {k : Key} (h : ks[i]? = some k) : metK ks (i + 1) = if kIn k (metK ks i) = true then metK ks i else metK ks i ++ [k] := by
  show (match ks[i]? with
      | some k => if kIn k (metK ks i) = true then metK ks i else metK ks i ++ [k]
      | none => metK ks i) = _
  rw [h]
theorem metK_mem (ks : List Key) (x : Key) : ∀ i, x ∈ metK ks i ↔ x ∈ ks.take i
  | 0 => by simp [metK]
  | i + 1 => by
    cases h : ks[i]? with
    | none =>
      have e : metK ks (i + 1) = metK ks i := by
        show (match ks[i]? with
          | some k => if kIn k (metK ks i) = true then metK ks i else metK ks i ++ [k]
          | none => metK ks i) = _
        rw [h]
      rw [e, metK_mem ks x i, List.take_add_one, h]
      simp
    | some k =>
      rw [metK_some h, List.take_add_one, h]
      have ih := metK_mem ks x i
      split
      · rename_i hm
        rw [ih]
        simp only [Option.toList_some, List.mem_append, List.mem_singleton]
        constructor
        · exact .inl
        · rintro (q | q)
          · exact q
          · rw [q]; exact (metK_mem ks k i).mp (kIn_iff.mp hm)
      · simp [ih]
/-- as many as there are items: all are unlike -/
theorem metK_nodup (ks : List Key) : ∀ i, i ≤ ks.length → ((metK ks i).length = i ↔ (ks.take i).Nodup)
  | 0, _ => by simp [metK]
  | i + 1, hi => by
    have hlt : i < ks.length := hi
    have h : ks[i]? = some ks[i] := List.getElem?_eq_getElem hlt
    have ih := metK_nodup ks i (Nat.le_of_lt hlt)
    have le := metK_le ks i
    rw [metK_some h, List.take_add_one, h, Option.toList_some, List.nodup_append]
    have hm := metK_mem ks ks[i] i
    split
    · rename_i hin
      constructor
      · intro q; omega
      · rintro ⟨_, _, q⟩
        exact absurd rfl (q _ (hm.mp (kIn_iff.mp hin)) _ (List.mem_singleton.mpr rfl))
    · rename_i hin
      rw [List.length_append, List.length_singleton]
      constructor
      · intro q
        refine ⟨ih.mp (by omega), by simp, fun a ha b hb e => ?_⟩
        rw [List.mem_singleton.mp hb] at e
        subst e
        exact hin (kIn_iff.mpr (hm.mpr ha))
      · rintro ⟨q, _⟩
        rw [ih.mpr q]
theorem setK_congr {prog : Program} {w : World} {h : Heap} {a : Addr} {S S' : Key → Bool} {n n' : Nat} (hS : h.SetOf (mixKind prog w) a S n) (e : ∀ k, S k = S' k) (en : n = n') : h.SetOf (mixKind prog w) a S' n' := by
  have q : S = S' := funext e
  subst q
  subst en
  exact hS
theorem keys_at {ks : List Key} {us : List Value} (h : Vals (ks.map kV) us) (i : Nat) (v : Value) (e : us[i]? = some v) : ∃ k, ks[i]? = some k ∧ RelV (kV k) v := by
  have hl : ks.length = us.length := by have q := h.length; rw [List.length_map] at q; exact q
  have hi : i < ks.length := by rw [hl]; exact (List.getElem?_eq_some_iff.mp e).1
  obtain ⟨u, hu, r⟩ := h.get (i := i) (x := kV ks[i]) (by simp [hi])
  rw [e] at hu
  cases hu
  exact ⟨ks[i], List.getElem?_eq_getElem hi, r⟩
/-! a new set is filled from what walks: by mixKind's own facts and the library's WalksS -/
section
variable {prog : Program} {w : World}
/-- i of the n keys are in -/
abbrev InK (prog : Program) (w : World) (h : Heap) (S : Addr) (ks : List Key) (i : Nat) : Prop := h.SetOf (mixKind prog w) S (fun x => kIn x (metK ks i)) (metK ks i).length
theorem InK.next {h : Heap} {S : Addr} {ks : List Key} {i : Nat} {y : Key} (hy : ks[i]? = some y)
    (g : h.SetOf (mixKind prog w) S (fun x => kIn x (metK ks i) || decide (x = y)) (if kIn y (metK ks i) = true then (metK ks i).length else (metK ks i).length + 1)) : InK prog w h S ks (i + 1) := by
  have e := metK_some hy
  by_cases hin : kIn y (metK ks i) = true
  · rw [if_pos hin] at e g
    refine setK_congr g (fun x => ?_) (by rw [e])
    rw [e]
    by_cases hx : x = y
    · rw [hx, hin, Bool.true_or]
    · rw [decide_eq_false hx, Bool.or_false]
  · rw [if_neg hin] at e g
    refine setK_congr g (fun x => ?_) (by rw [e, List.length_append, List.length_singleton])
    rw [e]
    unfold kIn
    rw [List.any_append, List.any_cons, List.any_nil, Bool.or_false]
theorem InK.moved {h h' : Heap} {S : Addr} {ks : List Key} {i : Nat} (g : InK prog w h S ks i) (m : ∀ o, h.get? S = some o → h'.get? S = some o) : InK prog w h' S ks i := setOf_at g m
theorem fill {A : Around} {R : Result → Shared → Prop} {I : Addr} {fp wr : List Addr} {G : Array GenState → Array GenState → Prop} {P : Nat → Value → Prop} {St : Nat → Shared → Prop} {ks : List Key} (S : Addr) (out : S ∉ fp) (few : ks.length + 1 < scanBound)
    (W : WalksS prog w A.in1 I fp wr G ks.length P St) (hP : ∀ i v, P i v → ∃ k, ks[i]? = some k ∧ RelV (kV k) v) : ∀ (left i : Nat) (s : Shared), i + left = ks.length → St i s → InK prog w s.heap S ks i →
      (∀ s', Moved (S :: wr) G s s' → InK prog w s'.heap S ks ks.length → R (.ok (.ret .none)) s') → codeAny (model prog w) A (.builtin "set.update.loop" ⟨[.ref S, .ref I], []⟩) R s
  | 0, i, s, hi, st, g, k => by
    obtain rfl : i = ks.length := hi
    refine codeAny_builtin PyProof.Rows.F.entry_set_update_loop (by
      rw [Around.under_plainId PyProof.Rows.F.plain_set_update_loop _]
      exact wpAny_bind (m := pyNext (.ref I)) (W.done s _ _ st fun s' m => wpAny_pure (k s' (m.mono fun b hb => List.mem_cons_of_mem _ hb) (g.moved fun o e => m.heap S o (fun h => out (W.sub _ h)) e))))
  | left + 1, i, s, hi, st, g, k => by
    refine codeAny_builtin PyProof.Rows.F.entry_set_update_loop (by
      rw [Around.under_plainId PyProof.Rows.F.plain_set_update_loop _]
      refine wpAny_bind (m := pyNext (.ref I)) (W.item i s _ _ (by omega) st fun v s1 hv st1 m => ?_)
      obtain ⟨y, hy, ry⟩ := hP i v hv
      have g1 := g.moved fun o e => m.heap S o (fun h => out (W.sub _ h)) e
      refine wpAny_bind (m := holding [v] (setAdd S v)) (wpAny_holding ?_)
      unfold setAdd
      refine wpAny_holding (wpAny_bind ((mixKind prog w).pyHash (k := y) (kV_is ry) ?_))
      refine wpAny_setAddHashed_of (s := { s1 with toks := s1.toks + 1 }) (knd := mixKind prog w) (kV_is ry) (key_scan ry) g1 (by have := metK_le ks i; omega) fun h2 only g2 => wpAny_pure ⟨plainId_quiet PyProof.Rows.F.plain_set_update_loop _, ?_⟩
      refine fill S out few W hP left (i + 1) _ (by omega) (W.frame _ s1 _ _ st1 (Nat.le_add_right _ 1) fun b hb o e => ?_) (InK.next hy g2) fun s3 m3 g3 => k s3 ?_ g3
      · exact (only.2 b fun z => out (z ▸ hb)).trans e
      · refine Moved.trans W.gtrans (Moved.then_heap (m.mono fun b hb => List.mem_cons_of_mem _ hb) (Nat.le_add_right _ 1) fun b o hb e => ?_) m3
        exact (only.2 b fun z => hb (z ▸ List.mem_cons_self)).trans e)
/-- a set without items -/
abbrev eS (led : Bool) : Obj := { cls := .type "set", dict := none, data := .set #[] 0 (.fresh 0 0 led) }
/-- us stand at l, in a list or in a tuple -/
def Sq (h : Heap) (l : Addr) (us : Array Value) : Prop := h.IsList l us ∨ h.IsTuple l us
theorem Sq.more {h : Heap} {l : Addr} {us : Array Value} (q : Sq h l us) (o : Obj) : Sq (h.push o) l us := q.imp (fun x => x.push o) fun x => x.push o
abbrev Full (prog : Program) (w : World) (ks : List Key) (S : Addr) (s : Shared) (r : Value) (s' : Shared) : Prop :=
  r = .none ∧ ∃ h' tk, s' = { s with heap := h', toks := tk } ∧ InK prog w h' S ks ks.length ∧ ∀ b o, b ≠ S → s.heap.get? b = some o → h'.get? b = some o
/-- the walk's iterator stands at the heap's end; the set is filled through it -/
theorem fill_new {A : Around} {s : Shared} {S l I : Addr} {ks : List Key} {led : Bool} {it : Obj} {P : Nat → Value → Prop} {St : Nat → Shared → Prop} {G : Array GenState → Array GenState → Prop}
    (hI : I = s.heap.objs.size) (hS : s.heap.get? S = some (eS led)) (hl : l < s.heap.objs.size) (ne : S ≠ l) (few : ks.length + 1 < scanBound) (W : WalksS prog w A.in1 I [I, l] [I] G ks.length P St) (hP : ∀ i v, P i v → ∃ k, ks[i]? = some k ∧ RelV (kV k) v)
    (hG : ∀ s' : Shared, Moved [S, I] G { s with heap := s.heap.push it } s' → s'.gens = s.gens ∧ s'.drawn = s.drawn ∧ s'.os = s.os) (st : St 0 { s with heap := s.heap.push it }) {R : Result → Shared → Prop} (k : ∀ s', Full prog w ks S s .none s' → R (.ok (.ret .none)) s') :
    codeAny (model prog w) A (.builtin "set.update.loop" ⟨[.ref S, .ref I], []⟩) R { s with heap := s.heap.push it } := by
  have lS := Heap.lt_size hS
  have z : (s.heap.push it).get? S = some (eS led) := Heap.get?_push_of_some _ hS
  refine fill S (by subst hI; simp only [List.mem_cons, List.not_mem_nil, or_false, not_or]; exact ⟨Nat.ne_of_lt lS, ne⟩) few W hP ks.length 0 _ (Nat.zero_add _) st
    ⟨_, #[], 0, _, z, ⟨rfl, rfl, rfl⟩, rfl, fun e he => absurd he (by simp), fun x => by simp [kIn, metK], by decide, rfl, rfl⟩ fun s' m g => k s' ⟨rfl, s'.heap, s'.toks, ?_, g, fun b o hb e => ?_⟩
  · obtain ⟨e1, e2, e3⟩ := hG s' m
    cases s'
    cases e1
    cases e2
    cases e3
    rfl
  · have lb := Heap.lt_size e
    refine m.heap b o ?_ (Heap.get?_push_of_some _ e)
    subst hI
    simp only [List.mem_cons, List.not_mem_nil, or_false, not_or]
    exact ⟨hb, Nat.ne_of_lt lb⟩
end
section
variable {prog : Program} {w : World} {A : Around} {E : Value → Shared → Prop} {s : Shared} {S l : Addr} {us : Array Value} {ks : List Key} {led : Bool}
set_option maxHeartbeats 3200000 in
theorem init_sq (free : A.handled = none) (hS : s.heap.get? S = some (eS led)) (hl : Sq s.heap l us) (ne : S ≠ l) (hks : Vals (ks.map kV) us.toList) (few : ks.length + 1 < scanBound) :
    codeAny (model prog w) A (.call (.builtin "set.__init__") ⟨[.ref S, .ref l], []⟩) (wants (Full prog w ks S s) E) s := by
  have n : ks.length = us.size := by
    have q := hks.length
    rwa [List.length_map, Array.length_toList] at q
  have hP : ∀ (i : Nat) (v : Value), us[i]? = some v → ∃ k, ks[i]? = some k ∧ RelV (kV k) v := fun i v e => keys_at hks i v (by rw [Array.getElem?_toList]; exact e)
  have f3 : A.in1.in1.handled = none := free
  have notD : (Value.type "list" == Value.type "dict") = false := by decide
  have notT : (Value.type "tuple" == Value.type "dict") = false := by decide
  refine codeAny_call_builtin PySem.F.called_set.init.plain PySem.F.entry_set_init (check_set_init_1 ⟨_, hS, rfl⟩ ?_)
  rcases hl with hl | hl
  · have hl' := hl
    obtain ⟨⟨c1, c2, c3, c4⟩, a1, a2, k1, a3⟩ := hl'
    cases a2
    cases a3
    have n1 := PySem.F.sub_list_set
    have n2 := PySem.F.sub_list_frozenset
    unfold Builtin.«set.__init__» noKeywords Builtin.Frozenset.updateFrom
    generalize hp : pyIter = next
    wp_walk
    subst hp
    have lt := Heap.lt_size a1
    have W := (Walks.list (prog := prog) (w := w) f3 s.heap.objs.size l (Nat.ne_of_lt lt) us).toS
    rw [← n] at W
    refine wpAny_pyIter_list hl (wpAny_bind (wpAny_runValue ?_))
    refine fill_new (led := led) (G := fun a b => b = a) rfl hS lt ne few W hP (fun s' m => ⟨m.gens, m.drawn, m.os⟩) ⟨⟨_, Heap.get?_push_size _ rfl, rfl, rfl⟩, hl.push _⟩ fun s' fin => ?_
    exact wpAny_pure (wpAny_pure fin)
  · have hl' := hl
    obtain ⟨⟨c1, c2, c3, c4⟩, a1, a2, k1, a3⟩ := hl'
    cases a2
    cases a3
    have n1 := PySem.F.sub_tuple_set
    have n2 := PySem.F.sub_tuple_frozenset
    unfold Builtin.«set.__init__» noKeywords Builtin.Frozenset.updateFrom
    generalize hp : pyIter = next
    wp_walk
    subst hp
    have lt := Heap.lt_size a1
    have W := (Walks.tuple (prog := prog) (w := w) f3 s.heap.objs.size l (Nat.ne_of_lt lt) us).toS
    rw [← n] at W
    refine wpAny_pyIter_tuple hl (wpAny_bind (wpAny_runValue ?_))
    refine fill_new (led := led) (G := fun a b => b = a) rfl hS lt ne few W hP (fun s' m => ⟨m.gens, m.drawn, m.os⟩) ⟨⟨_, Heap.get?_push_size _ rfl, rfl, rfl⟩, hl.push _⟩ fun s' fin => ?_
    exact wpAny_pure (wpAny_pure fin)
set_option maxHeartbeats 3200000 in
/-- set(xs), xs a list or a tuple of keys -/
theorem set_sq {Q : Value → Shared → Prop} (free : A.handled = none) (hl : Sq s.heap l us) (hks : Vals (ks.map kV) us.toList) (few : ks.length + 1 < scanBound)
    (q : ∀ (h' : Heap) (tk : Nat), InK prog w h' s.heap.objs.size ks ks.length → (∀ b o, b < s.heap.objs.size → s.heap.get? b = some o → h'.get? b = some o) → Q (.ref s.heap.objs.size) { s with heap := h', toks := tk }) :
    wpAny (model prog w) A (call (.type "set") [.ref l]) Q E s := by
  have lt : l < s.heap.objs.size := by
    rcases hl with ⟨o, e, _⟩ | ⟨o, e, _⟩ <;> exact Heap.lt_size e
  obtain ⟨_, _, order⟩ := PySem.F.called_set.mro
  have t1 := PySem.F.called_set.made
  have t2 := PySem.F.called_set.sub
  have t3 := PySem.F.called_set.notType
  have t4 := PySem.F.called_set.canCreate
  have t5 := PySem.F.typeCall_set_1 (.ref l)
  refine wpAny_call (codeAny_of_tree (wpAny_pure ⟨Code.quiet_builtin _ (by decide +kernel), codeAny_builtin PySem.F.entry_type_call ?_⟩))
  rw [Around.under_plain (weight_type_call_type "set" [.ref l] []) rfl]
  repeat any_goals first | assumption | wp_step
  refine codeAny_mono (code_set_new_1 (.ref l) (E := E) (Q₁ := fun x s1 => x = .ref s.heap.objs.size ∧ ∃ led, s1 = { s with heap := s.heap.push (eS led) }) fun led => ⟨rfl, led, rfl⟩) fun res s1 made => ?_
  rcases res with e | fl
  · exact made
  · cases fl <;> first | exact made.elim | skip
    obtain ⟨e1, led, e2⟩ := made
    cases e1
    cases e2
    have here : (s.heap.push (eS led)).get? s.heap.objs.size = some (eS led) := Heap.get?_push_size _ rfl
    have isS : Shared.TypeIs { s with heap := s.heap.push (eS led) } (.ref s.heap.objs.size) "set" := ⟨_, here, rfl⟩
    have t6 := PySem.F.called_set.init.lookup
    have t7 := PySem.F.called_set.init.bind (.ref s.heap.objs.size)
    repeat any_goals first | assumption | wp_step
    refine codeAny_mono (init_sq (E := E) (led := led) free here (hl.more _) (Nat.ne_of_gt lt) hks few) fun res s2 fin => ?_
    rcases res with e | fl
    · exact fin
    · cases fl <;> first | exact fin.elim | skip
      obtain ⟨e1, h', tk, e2, g, keep⟩ := fin
      cases e1
      cases e2
      repeat any_goals first | assumption | wp_step
      exact q h' tk g fun b o hb e => keep b o (Nat.ne_of_lt hb) (Heap.get?_push_of_some _ e)
end
def keyD : D → Option Key
  | .int i => some (.inl i)
  | .str x => some (.inr x)
  | _ => none
def keysD : List D → Option (List Key)
  | [] => some []
  | d :: ds => match keyD d with
    | some k => (keysD ds).map (k :: ·)
    | none => none
theorem keysD_ok {K : PySem.W.Frag} {H : Hp} {M : Mem} : ∀ {ds : List D} {ks : List Key} {xs : List V}, keysD ds = some ks → DVs K H M ds xs → xs = ks.map kV
  | [], ks, xs, h, g => by
    cases h
    exact g
  | d :: ds, ks, xs, h, g => by
    obtain ⟨y, ys, e, g1, g2⟩ := g
    subst e
    unfold keysD at h
    split at h
    · rename_i k hk
      cases q : keysD ds with
      | none => rw [q] at h; cases h
      | some js =>
        rw [q] at h
        cases h
        rw [keysD_ok q g2, List.map_cons]
        have e : y = kV k := by
          cases d <;> first | cases hk; exact g1 | cases hk
        rw [e]
    · cases h
/-- len(set(xs)) -/
def wLenSet (we : WE) : WE := fun ds M Q Xc => we ds M (fun d M1 => optK (seqOf M1 d) fun xs => optK (keysD xs) fun ks => ks.length < 4000 ∧ Q (.int (metK ks ks.length).length) M1) Xc
section
variable {X : Cx} {W : WX}
theorem j_lenSet {a : Expr} {we : WE} {p p2 q pos : Pos} (hc : X.calm = true) (hm : X.mg "len" = none) (hm2 : X.mg "set" = none) (ha : JE X W a we) (hg : Gl X "len" := by rfl) (hg2 : Gl X "set" := by rfl)
    (na : starEach [a] X.env = (false, eval a X.env) :: starEach [] X.env := by rfl) : JE X W (.Call (.Name "len" p) [.Call (.Name "set" p2) [a] [] q] [] pos) (wLenSet we) := by
  refine ⟨fun pins s σ H Q I h => ?_⟩
  refine Call_ (ld_blt I hg hm boot_len ?_)
  refine PyProof.Rows.callWith_builtin1 (PyProof.Rows.args_cons ?_ rfl) rfl rfl
  refine Call_ (ld_blt I hg2 hm2 boot_set ?_)
  have hh := bindE (R := fun v H1 => ∃ l ks, v = V.ref l ∧ (SqL X.K H1 l (ks.map kV) ∨ SqT X.K H1 l (ks.map kV)) ∧ ks.length < 4000 ∧ Q (.int (metK ks ks.length).length) H1) (wa := we) (f := fun d _ M Q _ => optK (seqOf M d) fun xs => optK (keysD xs) fun ks => ks.length < 4000 ∧ Q (D.int (metK ks ks.length).length) M) h fun v d H1 h => by
    obtain ⟨ds, M, F, Qd, Xd, hs, hv, hw, l1, l2⟩ := h
    obtain ⟨_, _, e1, g1, _⟩ := hv
    cases e1
    obtain ⟨xs, e2, hw⟩ := optK_of hw
    obtain ⟨ks, e3, hl, q⟩ := optK_of hw
    obtain ⟨l, ys, e4, sq, dv⟩ := seqOf_ok hs.1 e2 g1
    have e5 := keysD_ok e3 dv
    subst e5
    exact ⟨l, ks, e4, sq, hl, l1 (.int _) H1 (.int _) M Ext.rfl' hs.1 rfl q⟩
  refine PyProof.Rows.callWith_type1 (PyProof.Rows.args_cons (thn (ha.run pins s σ H _ I hh) fun v s1 ⟨x, H1, I1, r1, q1⟩ => PyProof.Rows.args_nil ?_) na) na rfl
  obtain ⟨l, ks, rfl, hq, h1, q1⟩ := q1
  cases r1
  have go : ∀ its : List Value, Vals (ks.map kV) its → Sq s1.heap l its.toArray → wpAny (model X.prog X.w) X.A (call (.type "set") [.ref l]) (fun v s₂ => wpAny (model X.prog X.w) X.A (spliced (backTo pos (starEach [] X.env))) (fun vs s₃ => wpAny (model X.prog X.w) X.A (call (.builtin "len") (v :: vs)) (EP X pins σ Q) X.xe s₃) X.xe s₂) X.xe s1 := fun its r at_ => by
    refine set_sq (I1.ok.hd hc) at_ (by simpa using r) (by unfold scanBound; omega) fun h' tk g keep => PyProof.Rows.args_nil ?_
    obtain ⟨o, es, ep, t, g1, g2, g3, _, _, _, g4, g5⟩ := g
    have le := metK_le ks ks.length
    refine call_len_set g1 g2 g3 g4 (by rw [g5]; omega) ⟨.int (metK ks ks.length).length, H1, (I1.kept fun b o e => keep b o (Heap.lt_size e) e).tok _, ⟨_, by rw [g5]⟩, q1⟩
  rcases hq with hq | hq
  · obtain ⟨its, r, at_, _⟩ := I1.list hq
    exact go its r (.inl at_.isList)
  · obtain ⟨its, r, at_, _⟩ := I1.tuple hq
    exact go its r (.inr at_)
end

/-! ### constants of modules and classes; defs -/
structure GK (K : PySem.W.Frag) (mg : Str → Option Value) (x : Str) (d : D) : Prop where
  ex : ∃ u v, mg x = some u ∧ RelV v u ∧ ∀ H M, DV K H M d v
theorem j_k {X : Cx} {W : WX} {x : Str} {d : D} {pos : Pos} (h : GK X.K X.mg x d) (hg : Gl X x := by rfl) (hd : (x == ("__debug__" : Str)) = false := by decide) : JE X W (.Name x pos) (wC d) := by
  obtain ⟨u, v, h1, h2, h3⟩ := h.ex
  exact j_glob h1 h2 h3 hg hd
structure DefAt (K : PySem.W.Frag) (x qual : Str) (st : Stmt) (ps : List Str) (f : Addr) : Prop where
  ex : ∃ fd, Fun K x qual st f fd ∧ Binds K fd ps []
structure CVk (K : PySem.W.Frag) (C : Addr) (f : Str) (d : D) : Prop where
  ex : ∃ mc v u, ClX.CRead K C mc ∧ ClX.CVal K C mc f v u ∧ ∀ H M, DV K H M d v
def wCv (C : Addr) (d : D) (we : WE) : WE := fun ds M Q Xc => we ds M (fun z M1 => z = .ref C ∧ Q d M1) Xc
theorem j_cv {X : Cx} {W : WX} {o : Expr} {f : Str} {pos : Pos} {we : WE} {C : Addr} {d : D} (c : CVk X.K C f d) (he : JE X W o we) (hb : attributeBase o f X.env (eval o X.env) = eval o X.env := by rfl) : JE X W (.Attribute o f pos) (wCv C d we) := by
  obtain ⟨mc, v, u, h1, h2, h3⟩ := c.ex
  exact j_cval he h1 h2 h3 hb
theorem FnJ.mkAt {P : Program} {w : World} {K : PySem.W.Frag} {mg : Str → Option Value} {base : Heap} {k : Nat} {x qual : Str} {st : Stmt} {f : Addr} {N ps : List Str} {sp : SpD} {wb : WS}
    (F : DefAt K x qual st ps f) (S : FnScope N ps (defScope st))
    (body : ∀ (cdv : Value) (A : Around) (outer : List Env) (s : Shared) (H : Hp) (E : XK), Room k (A.deeper (envOfC qual (defScope st) s.heap.objs.size f cdv)) →
      Takes (cxOf (L2.CX P w) P w K mg base N qual (defScope st) f cdv A outer s H E) (WD E) →
      JSs (cxOf (L2.CX P w) P w K mg base N qual (defScope st) f cdv A outer s H E) (WD E) (defBody st) wb)
    (h : ∀ ds M Q Xc, sp ds M Q Xc → ds.length = ps.length ∧ wb { nx := fun _ M => Fin Q .non M, rt := Fin Q, ex := fun x _ M => Xc x M } (startD N ds) M) : FnJ P w K mg base (k + 1) f sp := by
  obtain ⟨fd, h1, h2⟩ := F.ex
  exact FnJ.mk' h1 S h2 body h
/-- -x -/
def rNegD : RD1 := fun d M Q => match d with
  | .int i => Q (.int (-i)) M
  | _ => False
/-- what == sees of an owned list -/
def viw (M : Mem) : D → D
  | .ref a => match M a with
    | some (.lst xs) => .lst xs
    | _ => .ref a
  | d => d
def rEqVD (neg : Bool) : RD2 := fun d e M Q => Dat (viw M d) 60 ∧ Dat (viw M e) 60 ∧ Q (.bl (xor neg (deq (viw M d) (viw M e)))) M
section
variable {X : Cx}
theorem ud_neg : UnR X (unaryOp .USub) (liftV1 X.K rNegD) := by
  intro pins s σ H x v Q I rx hh
  obtain ⟨d, M, F, Qd, R, h1, h3, l⟩ := hh
  cases d <;> first | exact h3.elim | skip
  rename_i i
  cases (show x = .int i from h1)
  exact un_neg pins s σ H _ v Q I rx ⟨i, rfl, l (.int (-i)) H (.int (-i)) M Ext.rfl' R rfl h3⟩
theorem viw_dp {K : PySem.W.Frag} {H : Hp} {M F : Mem} {d : D} {n : Nat} {x : V} (R : Rm K H M F) (h : Dat (viw M d) n) (g : DV K H (uni M F) d x) : Dp K H x (toPy (viw M d)) := by
  have other : viw M d = d → Dp K H x (toPy (viw M d)) := fun e => by
    rw [e] at h ⊢
    exact h.dp g
  cases d with
  | ref a =>
    cases e : M a with
    | none => exact other (by unfold viw; simp only [e])
    | some o =>
      cases o with
      | lst xs =>
        have e2 : viw M (.ref a) = .lst xs := by unfold viw; simp only [e]
        rw [e2] at h ⊢
        obtain ⟨ys, h1, h2⟩ := R.get e
        cases (show x = .ref a from g)
        exact .lst (SqL.of h1) (Dats.dp h.2 h2)
      | dct _ _ => exact other (by unfold viw; simp only [e])
      | ins _ _ _ => exact other (by unfold viw; simp only [e])
  | _ => exact other rfl
theorem od_eqV (hu : X.A.units + 64 < cLine) : OpR X (compareOp .Eq) (liftV2 X.K (rEqVD false)) := by
  intro pins s σ H x y v u Q I rx ry hh
  obtain ⟨d, e, M, F, Qd, R, h1, h2, ⟨p1, p2, q⟩, l⟩ := hh
  exact op_eqD hu pins s σ H x y v u Q I rx ry ⟨_, _, viw_dp R p1 h1, viw_dp R p2 h2, p1.shaped (by decide), p2.shaped (by decide), l _ H (.bl _) M Ext.rfl' R rfl (by rw [Bool.false_xor] at q; exact q)⟩
theorem od_neV (hu : X.A.units + 64 < cLine) : OpR X (compareOp .NotEq) (liftV2 X.K (rEqVD true)) := by
  intro pins s σ H x y v u Q I rx ry hh
  obtain ⟨d, e, M, F, Qd, R, h1, h2, ⟨p1, p2, q⟩, l⟩ := hh
  exact op_neD hu pins s σ H x y v u Q I rx ry ⟨_, _, viw_dp R p1 h1, viw_dp R p2 h2, p1.shaped (by decide), p2.shaped (by decide), l _ H (.bl _) M Ext.rfl' R rfl (by rw [Bool.true_xor] at q; exact q)⟩
end
end DL
/-! type tests decided; inductions over comprehensions and loops; freezing -/
namespace DL
open PySem PySem.Spec PyProof.Rows L2 RZ
theorem isB_NoneType_bool : isB "NoneType" "bool" = false := by decide
theorem isB_NoneType_int : isB "NoneType" "int" = false := by decide
theorem isB_NoneType_str : isB "NoneType" "str" = false := by decide
theorem isB_NoneType_tuple : isB "NoneType" "tuple" = false := by decide
theorem isB_NoneType_list : isB "NoneType" "list" = false := by decide
theorem isB_NoneType_dict : isB "NoneType" "dict" = false := by decide
theorem isB_bool_bool : isB "bool" "bool" = true := by decide
theorem isB_bool_int : isB "bool" "int" = true := by decide
theorem isB_bool_str : isB "bool" "str" = false := by decide
theorem isB_bool_tuple : isB "bool" "tuple" = false := by decide
theorem isB_bool_list : isB "bool" "list" = false := by decide
theorem isB_bool_dict : isB "bool" "dict" = false := by decide
theorem isB_int_bool : isB "int" "bool" = false := by decide
theorem isB_int_int : isB "int" "int" = true := by decide
theorem isB_int_str : isB "int" "str" = false := by decide
theorem isB_int_tuple : isB "int" "tuple" = false := by decide
theorem isB_int_list : isB "int" "list" = false := by decide
theorem isB_int_dict : isB "int" "dict" = false := by decide
theorem isB_str_bool : isB "str" "bool" = false := by decide
theorem isB_str_int : isB "str" "int" = false := by decide
theorem isB_str_str : isB "str" "str" = true := by decide
theorem isB_str_tuple : isB "str" "tuple" = false := by decide
theorem isB_str_list : isB "str" "list" = false := by decide
theorem isB_str_dict : isB "str" "dict" = false := by decide
theorem isB_tuple_bool : isB "tuple" "bool" = false := by decide
theorem isB_tuple_int : isB "tuple" "int" = false := by decide
theorem isB_tuple_str : isB "tuple" "str" = false := by decide
theorem isB_tuple_tuple : isB "tuple" "tuple" = true := by decide
theorem isB_tuple_list : isB "tuple" "list" = false := by decide
theorem isB_tuple_dict : isB "tuple" "dict" = false := by decide
theorem isB_list_bool : isB "list" "bool" = false := by decide
theorem isB_list_int : isB "list" "int" = false := by decide
theorem isB_list_str : isB "list" "str" = false := by decide
theorem isB_list_tuple : isB "list" "tuple" = false := by decide
theorem isB_list_list : isB "list" "list" = true := by decide
theorem isB_list_dict : isB "list" "dict" = false := by decide
theorem isB_dict_bool : isB "dict" "bool" = false := by decide
theorem isB_dict_int : isB "dict" "int" = false := by decide
theorem isB_dict_str : isB "dict" "str" = false := by decide
theorem isB_dict_tuple : isB "dict" "tuple" = false := by decide
theorem isB_dict_list : isB "dict" "list" = false := by decide
theorem isB_dict_dict : isB "dict" "dict" = true := by decide
theorem isC_bool : ("bool" ∈ ["bool", "int", "str", "tuple", "list", "dict"]) = True := eq_true (by decide)
theorem isC_int : ("int" ∈ ["bool", "int", "str", "tuple", "list", "dict"]) = True := eq_true (by decide)
theorem isC_str : ("str" ∈ ["bool", "int", "str", "tuple", "list", "dict"]) = True := eq_true (by decide)
theorem isC_tuple : ("tuple" ∈ ["bool", "int", "str", "tuple", "list", "dict"]) = True := eq_true (by decide)
theorem isC_list : ("list" ∈ ["bool", "int", "str", "tuple", "list", "dict"]) = True := eq_true (by decide)
theorem isC_dict : ("dict" ∈ ["bool", "int", "str", "tuple", "list", "dict"]) = True := eq_true (by decide)
theorem isA_list_tuple : (["list", "tuple"].all (fun c => ["bool", "int", "str", "tuple", "list", "dict"].contains c)) = true := by decide
theorem isQ_NoneType : (["list", "tuple"].any (isB "NoneType")) = false := by decide
theorem isQ_bool : (["list", "tuple"].any (isB "bool")) = false := by decide
theorem isQ_int : (["list", "tuple"].any (isB "int")) = false := by decide
theorem isQ_str : (["list", "tuple"].any (isB "str")) = false := by decide
theorem isQ_tuple : (["list", "tuple"].any (isB "tuple")) = true := by decide
theorem isQ_list : (["list", "tuple"].any (isB "list")) = true := by decide
theorem isQ_dict : (["list", "tuple"].any (isB "dict")) = false := by decide
theorem lcR_ind {g : GD} {tt : WT} {te : WE} {ds : SD} {k : List D → Mem → Prop} (I : List D → List D → Mem → Prop) (hn : ∀ acc M, I [] acc M → k acc M)
    (hs : ∀ d items acc M (R : List D → Mem → Prop), (∀ acc' M', I items acc' M' → R acc' M') → I (d :: items) acc M →
      g d ds fun ds2 => tt ds2 M (fun b M1 => if b = true then te ds2 M1 (fun y M2 => acc.length < sizeLine ∧ R (acc ++ [y]) M2) XF else R acc M1) XF) :
    ∀ items acc M, I items acc M → lcR g tt te ds items acc M k
  | [], acc, M, h => hn acc M h
  | d :: items, acc, M, h => hs d items acc M (fun acc' M' => lcR g tt te ds items acc' M' k) (fun acc' M' q => lcR_ind I hn hs items acc' M' q) h
/-- a comprehension of values that change nothing -/
theorem lcR_map {g : GD} {tt : WT} {te : WE} {ds : SD} {k : List D → Mem → Prop} {M : Mem} (f : D → D) (P : D → Prop)
    (hs : ∀ d (acc : List D) (R : List D → Mem → Prop), P d → acc.length < sizeLine → (acc.length < sizeLine ∧ R (acc ++ [f d]) M) →
      g d ds fun ds2 => tt ds2 M (fun b M1 => if b = true then te ds2 M1 (fun y M2 => acc.length < sizeLine ∧ R (acc ++ [y]) M2) XF else R acc M1) XF) :
    ∀ (items acc : List D), (∀ d ∈ items, P d) → acc.length + items.length < sizeLine → k (acc ++ items.map f) M → lcR g tt te ds items acc M k
  | [], acc, _, _, h => by
    rw [List.map_nil, List.append_nil] at h
    exact h
  | d :: items, acc, hp, hl, h => by
    rw [List.length_cons] at hl
    refine hs d acc (fun acc' M' => lcR g tt te ds items acc' M' k) (hp d List.mem_cons_self) (by omega) ⟨by omega, ?_⟩
    refine lcR_map f P hs items (acc ++ [f d]) (fun x hx => hp x (List.mem_cons_of_mem _ hx)) (by rw [List.length_append, List.length_singleton]; omega) ?_
    rw [List.map_cons] at h
    rw [List.append_assoc]
    exact h
theorem lcR_mapL {α : Type} {g : GD} {tt : WT} {te : WE} {ds : SD} {k : List D → Mem → Prop} {M : Mem} (h f : α → D) (P : α → Prop)
    (hs : ∀ a (acc : List D) (R : List D → Mem → Prop), P a → (acc.length < sizeLine ∧ R (acc ++ [f a]) M) →
      g (h a) ds fun ds2 => tt ds2 M (fun b M1 => if b = true then te ds2 M1 (fun y M2 => acc.length < sizeLine ∧ R (acc ++ [y]) M2) XF else R acc M1) XF) :
    ∀ (L : List α) (acc : List D), (∀ a ∈ L, P a) → acc.length + L.length < sizeLine → k (acc ++ L.map f) M → lcR g tt te ds (L.map h) acc M k
  | [], acc, _, _, q => by
    rw [List.map_nil, List.append_nil] at q
    exact q
  | a :: L, acc, hp, hl, q => by
    rw [List.length_cons] at hl
    refine hs a acc (fun acc' M' => lcR g tt te ds (L.map h) acc' M' k) (hp a List.mem_cons_self) ⟨by omega, ?_⟩
    refine lcR_mapL h f P hs L (acc ++ [f a]) (fun x hx => hp x (List.mem_cons_of_mem _ hx)) (by rw [List.length_append, List.length_singleton]; omega) ?_
    rw [List.map_cons] at q
    rw [List.append_assoc]
    exact q
theorem forR_ind {g : GD} {wb : WS} {E : ED} (I : List D → SD → Mem → Prop) (hn : ∀ ds M, I [] ds M → E.nx ds M)
    (hs : ∀ d items ds M (R : SD → Mem → Prop), (∀ ds' M', I items ds' M' → R ds' M') → I (d :: items) ds M →
      g d ds fun ds2 => wb { E with nx := R, ct := R, bk := E.nx } ds2 M) :
    ∀ items ds M, I items ds M → forR g wb E items ds M
  | [], ds, M, h => hn ds M h
  | d :: items, ds, M, h => hs d items ds M (fun ds' M' => forR g wb E items ds' M') (fun ds' M' q => forR_ind I hn hs items ds' M' q) h
theorem fin_dn {Q : KN} {d : D} {M M' : Mem} (h : ∀ a o, M' a = some o → M a = some o) (q : Q d M') : Fin Q d M := ⟨d, M', Fz.dn h, q⟩
theorem fin_lst {Q : KN} {a : Addr} {xs : List D} {M M' : Mem} (e : M a = some (.lst xs)) (n : M' a = none) (h : ∀ b o, M' b = some o → M b = some o) (q : Q (.lst xs) M') : Fin Q (.ref a) M := ⟨.lst xs, M', Fz.lst e n (FzS.dn h), q⟩
theorem fin_ins {Q : KN} {a C : Addr} {ns : List Str} {xs : List D} {M M' : Mem} (e : M a = some (.ins C ns xs)) (n : M' a = none) (h : ∀ b o, M' b = some o → M b = some o) (q : Q (.ins C ns xs) M') : Fin Q (.ref a) M := ⟨.ins C ns xs, M', Fz.ins e n (FzS.dn h), q⟩
theorem optK_some {α : Type} {a : α} {k : α → Prop} : optK (some a) k = k a := rfl
theorem seqOf_lst {M : Mem} {xs : List D} : seqOf M (.lst xs) = some xs := rfl
theorem seqOf_tup {M : Mem} {xs : List D} : seqOf M (.tup xs) = some xs := rfl
theorem seqOf_own {M : Mem} {a : Addr} {xs : List D} (h : M a = some (.lst xs)) : seqOf M (.ref a) = some xs := by
  show moSeq (M a) = _
  rw [h]
  rfl
theorem tyN_non {M : Mem} : tyN M .non = some "NoneType" := rfl
theorem tyN_bl {M : Mem} {b : Bool} : tyN M (.bl b) = some "bool" := rfl
theorem tyN_int {M : Mem} {b : Int} : tyN M (.int b) = some "int" := rfl
theorem tyN_str {M : Mem} {b : Str} : tyN M (.str b) = some "str" := rfl
theorem tyN_tup {M : Mem} {b : List D} : tyN M (.tup b) = some "tuple" := rfl
theorem tyN_lst {M : Mem} {b : List D} : tyN M (.lst b) = some "list" := rfl
theorem tyN_dct {M : Mem} {ks : List Key} {b : List D} : tyN M (.dct ks b) = some "dict" := rfl
section
variable {M : Mem} {a : Addr} {xs ys : List D} {y : D} {Q : KN}
theorem mo_own (h : M a = some (.lst xs)) : moSeq (M a) = some xs := by rw [h]; rfl
theorem tyD_own (h : M a = some (.lst xs)) : tyD "list" M (.ref a) := by
  refine ⟨rfl, ?_⟩
  rw [mo_own h]
  trivial
theorem own_L {k : Addr → List D → Prop} (h : M a = some (.lst xs)) (q : k a xs) : ownL M (.ref a) k := by
  show optK (moSeq (M a)) fun xs => k a xs
  rw [mo_own h]
  exact q
theorem app_own (h : M a = some (.lst xs)) (l : xs.length < sizeLine) (q : Q .non (mput M a (.lst (xs ++ [y])))) : rAppD (.ref a) [y] M Q := own_L (k := fun a xs => xs.length < sizeLine ∧ Q .non (mput M a (.lst (xs ++ [y])))) h ⟨l, q⟩
theorem pop_own (h : M a = some (.lst (xs ++ [y]))) (q : Q y (mput M a (.lst xs))) : rPopD (.ref a) [] M Q := by
  refine own_L (k := fun a xs => optK xs[xs.length - 1]? fun y => Q y (mput M a (.lst xs.dropLast))) h ?_
  have e : (xs ++ [y])[(xs ++ [y]).length - 1]? = some y := by
    rw [List.length_append, List.length_singleton, Nat.add_sub_cancel, List.getElem?_append_right (Nat.le_refl _), Nat.sub_self]
    rfl
  rw [e, List.dropLast_concat]
  exact q
theorem ixN_nat {n k : Nat} (h : k < n) : ixN n (k : Int) = some k := by
  unfold ixN
  have : (k : Int) < n := by omega
  simp
  omega
theorem popAt_own {k : Nat} (h : M a = some (.lst xs)) (e : xs[k]? = some y) (l : xs.length ≤ sizeLine) (q : Q y (mput M a (.lst (xs.eraseIdx k)))) : rPopD (.ref a) [.int (k : Int)] M Q := by
  have hk : k < xs.length := (List.getElem?_eq_some_iff.mp e).1
  refine own_L (k := fun a xs => optK (ixN xs.length (k : Int)) fun k => optK xs[k]? fun y => (xs.length ≤ sizeLine ∧ Q y (mput M a (.lst (xs.eraseIdx k))))) h ?_
  rw [ixN_nat hk, optK_some, e]
  exact ⟨l, q⟩
theorem ext_own (h : M a = some (.lst xs)) (l : xs.length + ys.length ≤ sizeLine) (q : Q .non (mput M a (.lst (xs ++ ys)))) : rExtD (.ref a) [.lst ys] M Q := own_L (k := fun a xs => xs.length + ys.length ≤ sizeLine ∧ Q .non (mput M a (.lst (xs ++ ys)))) h ⟨l, q⟩
theorem ins_own {k : Nat} (h : M a = some (.lst xs)) (l : xs.length < sizeLine) (b : k < 2 ^ 63) (q : Q .non (mput M a (.lst (xs.take k ++ [y] ++ xs.drop k)))) : rInsD (.ref a) [.int (k : Int), y] M Q :=
  own_L (k := fun a xs => xs.length < sizeLine ∧ 0 ≤ (k : Int) ∧ (k : Int) < 2 ^ 63 ∧ Q .non (mput M a (.lst (xs.take (k : Int).toNat ++ [y] ++ xs.drop (k : Int).toNat)))) h ⟨l, by omega, by omega, q⟩
end
theorem atI_nat {α : Type} {xs : List α} {k : Nat} : atI xs (k : Int) = xs[k]? := by
  unfold atI ixN
  rw [if_pos (by omega)]
  by_cases h : k < xs.length
  · rw [if_pos (by omega)]
    rfl
  · rw [if_neg (by omega), List.getElem?_eq_none (by omega)]
    rfl
theorem insK_same {C : Addr} {ns : List Str} {M : Mem} {xs : List D} {k : List D → Prop} : insK C ns M (.ins C ns xs) k = k xs := propext ⟨fun h => h.2.2, fun h => ⟨rfl, rfl, h⟩⟩
theorem frz_lst {xs : List D} : frzSeq (.lst xs) = some xs := rfl
theorem frz_tup {xs : List D} : frzSeq (.tup xs) = some xs := rfl
theorem at1_0 {x0 : D} : atI [x0] (0 : Int) = some x0 := rfl
theorem set1_0 {x0 v : D} {M : Mem} {a : Addr} {k : Mem → Prop} (h : M a = some (.lst [x0])) (q : k (mput M a (.lst [v]))) : rSetD (.ref a) (.int 0) v M k := own_L (k := fun a xs => optK (ixN xs.length 0) fun n => k (mput M a (.lst (xs.set n v)))) h q
theorem at2_0 {x0 x1 : D} : atI [x0, x1] (0 : Int) = some x0 := rfl
theorem at2_1 {x0 x1 : D} : atI [x0, x1] (1 : Int) = some x1 := rfl
theorem set2_0 {x0 x1 v : D} {M : Mem} {a : Addr} {k : Mem → Prop} (h : M a = some (.lst [x0, x1])) (q : k (mput M a (.lst [v, x1]))) : rSetD (.ref a) (.int 0) v M k := own_L (k := fun a xs => optK (ixN xs.length 0) fun n => k (mput M a (.lst (xs.set n v)))) h q
theorem set2_1 {x0 x1 v : D} {M : Mem} {a : Addr} {k : Mem → Prop} (h : M a = some (.lst [x0, x1])) (q : k (mput M a (.lst [x0, v]))) : rSetD (.ref a) (.int 1) v M k := own_L (k := fun a xs => optK (ixN xs.length 1) fun n => k (mput M a (.lst (xs.set n v)))) h q
theorem at3_0 {x0 x1 x2 : D} : atI [x0, x1, x2] (0 : Int) = some x0 := rfl
theorem at3_1 {x0 x1 x2 : D} : atI [x0, x1, x2] (1 : Int) = some x1 := rfl
theorem at3_2 {x0 x1 x2 : D} : atI [x0, x1, x2] (2 : Int) = some x2 := rfl
theorem set3_0 {x0 x1 x2 v : D} {M : Mem} {a : Addr} {k : Mem → Prop} (h : M a = some (.lst [x0, x1, x2])) (q : k (mput M a (.lst [v, x1, x2]))) : rSetD (.ref a) (.int 0) v M k := own_L (k := fun a xs => optK (ixN xs.length 0) fun n => k (mput M a (.lst (xs.set n v)))) h q
theorem set3_1 {x0 x1 x2 v : D} {M : Mem} {a : Addr} {k : Mem → Prop} (h : M a = some (.lst [x0, x1, x2])) (q : k (mput M a (.lst [x0, v, x2]))) : rSetD (.ref a) (.int 1) v M k := own_L (k := fun a xs => optK (ixN xs.length 1) fun n => k (mput M a (.lst (xs.set n v)))) h q
theorem set3_2 {x0 x1 x2 v : D} {M : Mem} {a : Addr} {k : Mem → Prop} (h : M a = some (.lst [x0, x1, x2])) (q : k (mput M a (.lst [x0, x1, v]))) : rSetD (.ref a) (.int 2) v M k := own_L (k := fun a xs => optK (ixN xs.length 2) fun n => k (mput M a (.lst (xs.set n v)))) h q
theorem at4_0 {x0 x1 x2 x3 : D} : atI [x0, x1, x2, x3] (0 : Int) = some x0 := rfl
theorem at4_1 {x0 x1 x2 x3 : D} : atI [x0, x1, x2, x3] (1 : Int) = some x1 := rfl
theorem at4_2 {x0 x1 x2 x3 : D} : atI [x0, x1, x2, x3] (2 : Int) = some x2 := rfl
theorem at4_3 {x0 x1 x2 x3 : D} : atI [x0, x1, x2, x3] (3 : Int) = some x3 := rfl
theorem set4_0 {x0 x1 x2 x3 v : D} {M : Mem} {a : Addr} {k : Mem → Prop} (h : M a = some (.lst [x0, x1, x2, x3])) (q : k (mput M a (.lst [v, x1, x2, x3]))) : rSetD (.ref a) (.int 0) v M k := own_L (k := fun a xs => optK (ixN xs.length 0) fun n => k (mput M a (.lst (xs.set n v)))) h q
theorem set4_1 {x0 x1 x2 x3 v : D} {M : Mem} {a : Addr} {k : Mem → Prop} (h : M a = some (.lst [x0, x1, x2, x3])) (q : k (mput M a (.lst [x0, v, x2, x3]))) : rSetD (.ref a) (.int 1) v M k := own_L (k := fun a xs => optK (ixN xs.length 1) fun n => k (mput M a (.lst (xs.set n v)))) h q
theorem set4_2 {x0 x1 x2 x3 v : D} {M : Mem} {a : Addr} {k : Mem → Prop} (h : M a = some (.lst [x0, x1, x2, x3])) (q : k (mput M a (.lst [x0, x1, v, x3]))) : rSetD (.ref a) (.int 2) v M k := own_L (k := fun a xs => optK (ixN xs.length 2) fun n => k (mput M a (.lst (xs.set n v)))) h q
theorem set4_3 {x0 x1 x2 x3 v : D} {M : Mem} {a : Addr} {k : Mem → Prop} (h : M a = some (.lst [x0, x1, x2, x3])) (q : k (mput M a (.lst [x0, x1, x2, v]))) : rSetD (.ref a) (.int 3) v M k := own_L (k := fun a xs => optK (ixN xs.length 3) fun n => k (mput M a (.lst (xs.set n v)))) h q
theorem at5_0 {x0 x1 x2 x3 x4 : D} : atI [x0, x1, x2, x3, x4] (0 : Int) = some x0 := rfl
theorem at5_1 {x0 x1 x2 x3 x4 : D} : atI [x0, x1, x2, x3, x4] (1 : Int) = some x1 := rfl
theorem at5_2 {x0 x1 x2 x3 x4 : D} : atI [x0, x1, x2, x3, x4] (2 : Int) = some x2 := rfl
theorem at5_3 {x0 x1 x2 x3 x4 : D} : atI [x0, x1, x2, x3, x4] (3 : Int) = some x3 := rfl
theorem at5_4 {x0 x1 x2 x3 x4 : D} : atI [x0, x1, x2, x3, x4] (4 : Int) = some x4 := rfl
theorem set5_0 {x0 x1 x2 x3 x4 v : D} {M : Mem} {a : Addr} {k : Mem → Prop} (h : M a = some (.lst [x0, x1, x2, x3, x4])) (q : k (mput M a (.lst [v, x1, x2, x3, x4]))) : rSetD (.ref a) (.int 0) v M k := own_L (k := fun a xs => optK (ixN xs.length 0) fun n => k (mput M a (.lst (xs.set n v)))) h q
theorem set5_1 {x0 x1 x2 x3 x4 v : D} {M : Mem} {a : Addr} {k : Mem → Prop} (h : M a = some (.lst [x0, x1, x2, x3, x4])) (q : k (mput M a (.lst [x0, v, x2, x3, x4]))) : rSetD (.ref a) (.int 1) v M k := own_L (k := fun a xs => optK (ixN xs.length 1) fun n => k (mput M a (.lst (xs.set n v)))) h q
theorem set5_2 {x0 x1 x2 x3 x4 v : D} {M : Mem} {a : Addr} {k : Mem → Prop} (h : M a = some (.lst [x0, x1, x2, x3, x4])) (q : k (mput M a (.lst [x0, x1, v, x3, x4]))) : rSetD (.ref a) (.int 2) v M k := own_L (k := fun a xs => optK (ixN xs.length 2) fun n => k (mput M a (.lst (xs.set n v)))) h q
theorem set5_3 {x0 x1 x2 x3 x4 v : D} {M : Mem} {a : Addr} {k : Mem → Prop} (h : M a = some (.lst [x0, x1, x2, x3, x4])) (q : k (mput M a (.lst [x0, x1, x2, v, x4]))) : rSetD (.ref a) (.int 3) v M k := own_L (k := fun a xs => optK (ixN xs.length 3) fun n => k (mput M a (.lst (xs.set n v)))) h q
theorem set5_4 {x0 x1 x2 x3 x4 v : D} {M : Mem} {a : Addr} {k : Mem → Prop} (h : M a = some (.lst [x0, x1, x2, x3, x4])) (q : k (mput M a (.lst [x0, x1, x2, x3, v]))) : rSetD (.ref a) (.int 4) v M k := own_L (k := fun a xs => optK (ixN xs.length 4) fun n => k (mput M a (.lst (xs.set n v)))) h q
theorem seqOf_put {M : Mem} {a : Addr} {xs : List D} : seqOf (mput M a (.lst xs)) (.ref a) = some xs := seqOf_own mput_same
/-- the ends of a statement that another follows: kept folded, so that the kernel never has to unfold what follows -/
theorem seqE_ex0 (u : WS) (E : ED) : ∃ E' : ED, E' = { E with nx := fun ds' M' => u E ds' M' } := ⟨_, rfl⟩
noncomputable def seqE (u : WS) (E : ED) : ED := Classical.choose (seqE_ex0 u E)
theorem seqE_eq (u : WS) (E : ED) : seqE u E = { E with nx := fun ds' M' => u E ds' M' } := Classical.choose_spec (seqE_ex0 u E)
theorem wSeq_p {t u : WS} {E : ED} {ds : SD} {M : Mem} : wSeq t u E ds M = t (seqE u E) ds M := by rw [seqE_eq]; rfl
theorem seqE_nx {u : WS} {E : ED} {ds : SD} {M : Mem} : (seqE u E).nx ds M = u E ds M := by rw [seqE_eq]
theorem seqE_rt {u : WS} {E : ED} : (seqE u E).rt = E.rt := by rw [seqE_eq]
theorem seqE_bk {u : WS} {E : ED} : (seqE u E).bk = E.bk := by rw [seqE_eq]
theorem seqE_ct {u : WS} {E : ED} : (seqE u E).ct = E.ct := by rw [seqE_eq]
theorem seqE_ex {u : WS} {E : ED} : (seqE u E).ex = E.ex := by rw [seqE_eq]
theorem sizeLine_big : 100000 ≤ sizeLine := by decide +kernel
end DL
/-! readings unfolded only where the values' forms are known, step by step -/
namespace DL
open PySem PySem.Spec PyProof.Rows L2 RZ
theorem pVar {i : Nat} {ds : SD} {M : Mem} {Q : KN} {X : KX} : (wVar i ds M Q X) = (wGet ds[i]? fun d => Q d M) := propext Iff.rfl
theorem pGet {d : D} {k : D → Prop} : (wGet (some (some d)) k) = (k d) := propext Iff.rfl
theorem pC {d : D} {ds : SD} {M : Mem} {Q : KN} {X : KX} : (wC d ds M Q X) = (Q d M) := propext Iff.rfl
theorem pOp {r : RD2} {wa wb : WE} {ds : SD} {M : Mem} {Q : KN} {X : KX} : (wOp r wa wb ds M Q X) = (wa ds M (fun x M1 => wb ds M1 (fun y M2 => r x y M2 Q) X) X) := propext Iff.rfl
theorem pUn {r : RD1} {wa : WE} {ds : SD} {M : Mem} {Q : KN} {X : KX} : (wUn r wa ds M Q X) = (wa ds M (fun x M1 => r x M1 Q) X) := propext Iff.rfl
theorem pCB {r : RDs} {wa : WA} {ds : SD} {M : Mem} {Q : KN} {X : KX} : (wCB r wa ds M Q X) = (wa ds M (fun xs M1 => r xs M1 Q) X) := propext Iff.rfl
theorem pNil {ds : SD} {M : Mem} {Q : List D → Mem → Prop} {X : KX} : (wNil ds M Q X) = (Q [] M) := propext Iff.rfl
theorem pCons {wa : WE} {wr : WA} {ds : SD} {M : Mem} {Q : List D → Mem → Prop} {X : KX} : (wCons wa wr ds M Q X) = (wa ds M (fun d M1 => wr ds M1 (fun xs M2 => Q (d :: xs) M2) X) X) := propext Iff.rfl
theorem pTest {w : WE} {ds : SD} {M : Mem} {Q : Bool → Mem → Prop} {X : KX} : (wTest w ds M Q X) = (w ds M (fun d M1 => isBl d fun b => Q b M1) X) := propext Iff.rfl
theorem pBl {b : Bool} {k : Bool → Prop} : (isBl (.bl b) k) = (k b) := propext Iff.rfl
theorem pAndT {t u : WT} {ds : SD} {M : Mem} {Q : Bool → Mem → Prop} {X : KX} : (wAndT t u ds M Q X) = (t ds M (fun b M1 => if b = true then u ds M1 Q X else Q false M1) X) := propext Iff.rfl
theorem pOrT {t u : WT} {ds : SD} {M : Mem} {Q : Bool → Mem → Prop} {X : KX} : (wOrT t u ds M Q X) = (t ds M (fun b M1 => if b = true then Q true M1 else u ds M1 Q X) X) := propext Iff.rfl
theorem pNotT {t : WT} {ds : SD} {M : Mem} {Q : Bool → Mem → Prop} {X : KX} : (wNotT t ds M Q X) = (t ds M (fun b M1 => Q (!b) M1) X) := propext Iff.rfl
theorem pAndV {wa wb : WE} {ds : SD} {M : Mem} {Q : KN} {X : KX} : (wAndV wa wb ds M Q X) = (wa ds M (fun d M1 => isBl d fun b => if b = true then wb ds M1 Q X else Q (.bl false) M1) X) := propext Iff.rfl
theorem pOrV {wa wb : WE} {ds : SD} {M : Mem} {Q : KN} {X : KX} : (wOrV wa wb ds M Q X) = (wa ds M (fun d M1 => isBl d fun b => if b = true then Q (.bl true) M1 else wb ds M1 Q X) X) := propext Iff.rfl
theorem pNotV {wa : WE} {ds : SD} {M : Mem} {Q : KN} {X : KX} : (wNotV wa ds M Q X) = (wa ds M (fun d M1 => isBl d fun b => Q (.bl (!b)) M1) X) := propext Iff.rfl
theorem pIfE {t : WT} {wa wb : WE} {ds : SD} {M : Mem} {Q : KN} {X : KX} : (wIfE t wa wb ds M Q X) = (t ds M (fun b M1 => if b = true then wa ds M1 Q X else wb ds M1 Q X) X) := propext Iff.rfl
theorem pTup {wa : WA} {ds : SD} {M : Mem} {Q : KN} {X : KX} : (wTup wa ds M Q X) = (wa ds M (fun xs M1 => xs.length ≤ sizeLine ∧ Q (.tup xs) M1) X) := propext Iff.rfl
theorem pLst {wa : WA} {ds : SD} {M : Mem} {Q : KN} {X : KX} : (wLst wa ds M Q X) = (wa ds M (fun xs M1 => xs.length ≤ sizeLine ∧ Q (.lst xs) M1) X) := propext Iff.rfl
theorem pLstO {wa : WA} {ds : SD} {M : Mem} {Q : KN} {X : KX} : (wLstO wa ds M Q X) = (wa ds M (fun xs M1 => xs.length ≤ sizeLine ∧ ∀ a, M1 a = none → Q (.ref a) (mput M1 a (.lst xs))) X) := propext Iff.rfl
theorem pCall {sp : SpD} {wa : WA} {ds : SD} {M : Mem} {Q : KN} {X : KX} : (wCall sp wa ds M Q X) = (wa ds M (fun xs M1 => sp xs M1 Q X) X) := propext Iff.rfl
theorem pMeth {C : Addr} {ns : List Str} {sp : SpD} {we : WE} {wa : WA} {ds : SD} {M : Mem} {Q : KN} {X : KX} : (wMeth C ns sp we wa ds M Q X) = (we ds M (fun d M1 => insK C ns M1 d fun _ => wa ds M1 (fun xs M2 => sp (d :: xs) M2 Q X) X) X) := propext Iff.rfl
theorem pFld {C : Addr} {ns : List Str} {i : Nat} {we : WE} {ds : SD} {M : Mem} {Q : KN} {X : KX} : (wFld C ns i we ds M Q X) = (we ds M (fun d M1 => insK C ns M1 d fun xs => optK xs[i]? fun v => Q v M1) X) := propext Iff.rfl
theorem pProp {C : Addr} {ns : List Str} {sp : SpD} {we : WE} {ds : SD} {M : Mem} {Q : KN} {X : KX} : (wProp C ns sp we ds M Q X) = (we ds M (fun d M1 => insK C ns M1 d fun _ => sp [d] M1 Q XF) X) := propext Iff.rfl
theorem pMake {C : Addr} {sp : SpD} {wa : WA} {ds : SD} {M : Mem} {Q : KN} {X : KX} : (wMake C sp wa ds M Q X) = (wa ds M (fun xs M1 => ∀ a, M1 a = none → sp (.ref a :: xs) (mput M1 a (.ins C [] [])) (fun d M2 => d = .non ∧ Fin Q (.ref a) M2) X) X) := propext Iff.rfl
theorem pCv {C : Addr} {d : D} {we : WE} {ds : SD} {M : Mem} {Q : KN} {X : KX} : (wCv C d we ds M Q X) = (we ds M (fun z M1 => z = .ref C ∧ Q d M1) X) := propext Iff.rfl
theorem pSl {we : WE} {wl wh : WO} {ds : SD} {M : Mem} {Q : KN} {X : KX} : (wSl we wl wh ds M Q X) = (we ds M (fun d M1 => wl ds M1 (fun l M2 => wh ds M2 (fun h M3 => rSlD d l h M3 Q) X) X) X) := propext Iff.rfl
theorem pNo {ds : SD} {M : Mem} {Q : Option Int → Mem → Prop} {X : KX} : (wNo ds M Q X) = (Q none M) := propext Iff.rfl
theorem pSome {w : WE} {ds : SD} {M : Mem} {Q : Option Int → Mem → Prop} {X : KX} : (wSome w ds M Q X) = (w ds M (fun d M1 => intK d fun i => Q (some i) M1) X) := propext Iff.rfl
theorem pIntK {i : Int} {k : Int → Prop} : (intK (.int i) k) = (k i) := propext Iff.rfl
theorem pN {i : Nat} {d : D} {ds : SD} {Q : SD → Prop} : (gN i d ds Q) = (Q (ds.set i (some d))) := propext Iff.rfl
theorem pT {n : Nat} {gs : GDs} {es : List D} {ds : SD} {Q : SD → Prop} : (gT n gs (.tup es) ds Q) = (es.length = n ∧ gs es ds Q) := propext Iff.rfl
theorem pGC {g : GD} {gs : GDs} {e : D} {es : List D} {ds : SD} {Q : SD → Prop} : (gCons' g gs (e :: es) ds Q) = (g e ds fun ds2 => gs es ds2 Q) := propext Iff.rfl
theorem pGN {ds : SD} {Q : SD → Prop} : (gNil' [] ds Q) = (Q ds) := propext Iff.rfl
theorem pIf {t : WT} {a b : WS} {E : ED} {ds : SD} {M : Mem} : (wIf t a b E ds M) = (t ds M (fun c M1 => if c = true then a E ds M1 else b E ds M1) (E.xc ds)) := propext Iff.rfl
theorem pRet {we : WE} {E : ED} {ds : SD} {M : Mem} : (wRet we E ds M) = (we ds M E.rt (E.xc ds)) := propext Iff.rfl
theorem pRetN {E : ED} {ds : SD} {M : Mem} : (wRetN E ds M) = (E.rt .non M) := propext Iff.rfl
theorem pDrop {we : WE} {E : ED} {ds : SD} {M : Mem} : (wDrop we E ds M) = (we ds M (fun _ M1 => E.nx ds M1) (E.xc ds)) := propext Iff.rfl
theorem pAsg {we : WE} {g : GD} {E : ED} {ds : SD} {M : Mem} : (wAsg we g E ds M) = (we ds M (fun d M1 => g d ds fun ds2 => E.nx ds2 M1) (E.xc ds)) := propext Iff.rfl
theorem pNx {E : ED} {ds : SD} {M : Mem} : (wNx E ds M) = (E.nx ds M) := propext Iff.rfl
theorem pBrk {E : ED} {ds : SD} {M : Mem} : (wBrk E ds M) = (E.bk ds M) := propext Iff.rfl
theorem pCnt {E : ED} {ds : SD} {M : Mem} : (wCnt E ds M) = (E.ct ds M) := propext Iff.rfl
theorem pNever {E : ED} {ds : SD} {M : Mem} : (wNever E ds M) = (False) := propext Iff.rfl
theorem pSub {we wo wi : WE} {r : D → D → D → Mem → (Mem → Prop) → Prop} {E : ED} {ds : SD} {M : Mem} : (wSub we wo wi r E ds M) = (we ds M (fun v M1 => wo ds M1 (fun o M2 => wi ds M2 (fun i M3 => r o i v M3 fun M4 => E.nx ds M4) (E.xc ds)) (E.xc ds)) (E.xc ds)) := propext Iff.rfl
theorem pAug {i : Nat} {we : WE} {r : RD2} {E : ED} {ds : SD} {M : Mem} : (wAug i we r E ds M) = (wGet ds[i]? fun d => we ds M (fun e M1 => r d e M1 fun z M2 => E.nx (ds.set i (some z)) M2) (E.xc ds)) := propext Iff.rfl
def parK (i j : Nat) (E : ED) (ds : SD) (es : List D) (M : Mem) : Prop := match es with | [d, e] => E.nx ((ds.set i (some d)).set j (some e)) M | _ => False
theorem pPar {i j : Nat} {wa : WA} {E : ED} {ds : SD} {M : Mem} : (wPar i j wa E ds M) = (wa ds M (parK i j E ds) (E.xc ds)) := propext Iff.rfl
theorem pParK {i j : Nat} {E : ED} {ds : SD} {d e : D} {M : Mem} : (parK i j E ds [d, e] M) = (E.nx ((ds.set i (some d)).set j (some e)) M) := propext Iff.rfl
theorem pBM {T : String} {r : D → List D → Mem → KN → Prop} {we : WE} {wa : WA} {ds : SD} {M : Mem} {Q : KN} {X : KX} : (wBM T r we wa ds M Q X) = (we ds M (fun d M1 => tyD T M1 d ∧ wa ds M1 (fun xs M2 => r d xs M2 Q) X) X) := propext Iff.rfl
theorem pFor {wi : WI} {g : GD} {wb : WS} {E : ED} {ds : SD} {M : Mem} : (wFor wi g wb E ds M) = (wi ds M (fun items M1 => forR g wb E items ds M1) (E.xc ds)) := propext Iff.rfl
theorem pLc {wi : WI} {g : GD} {tt : WT} {te : WE} {vs : List Nat} {ds : SD} {M : Mem} {Q : KN} {X : KX} : (wLc wi g tt te vs ds M Q X) = (wi ds M (fun items M1 => lcR g tt te (wipeD ds vs) items [] M1 fun ys M2 => Q (.lst ys) M2) X) := propext Iff.rfl
theorem pLcO {wi : WI} {g : GD} {tt : WT} {te : WE} {vs : List Nat} {ds : SD} {M : Mem} {Q : KN} {X : KX} : (wLcO wi g tt te vs ds M Q X) = (wi ds M (fun items M1 => lcR g tt te (wipeD ds vs) items [] M1 fun ys M2 => ∀ a, M2 a = none → Q (.ref a) (mput M2 a (.lst ys))) X) := propext Iff.rfl
theorem pYes {ds : SD} {M : Mem} {Q : Bool → Mem → Prop} {X : KX} : (wYes ds M Q X) = (Q true M) := propext Iff.rfl
theorem piSeq {we : WE} {ds : SD} {M : Mem} {Q : List D → Mem → Prop} {X : KX} : (wiSeq we ds M Q X) = (we ds M (fun d M1 => optK (frzSeq d) fun xs => Q xs M1) X) := propext Iff.rfl
def strK (Q : List D → Mem → Prop) (d : D) (M : Mem) : Prop := match d with | .str x => Q (sgnD x) M | _ => False
theorem piStr {we : WE} {ds : SD} {M : Mem} {Q : List D → Mem → Prop} {X : KX} : (wiStr we ds M Q X) = (we ds M (strK Q) X) := propext Iff.rfl
theorem pStrK {Q : List D → Mem → Prop} {x : Str} {M : Mem} : (strK Q (.str x) M) = (Q (sgnD x) M) := propext Iff.rfl
def rng1K (Q : List D → Mem → Prop) (es : List D) (M : Mem) : Prop := match es with | [.int j] => (-(2 ^ 62) ≤ j ∧ j < 2 ^ 62) ∧ Q (rngD 0 j.toNat) M | _ => False
theorem piRng1 {wa : WA} {ds : SD} {M : Mem} {Q : List D → Mem → Prop} {X : KX} : (wiRng1 wa ds M Q X) = (wa ds M (rng1K Q) X) := propext Iff.rfl
theorem pRng1K {Q : List D → Mem → Prop} {j : Int} {M : Mem} : (rng1K Q [.int j] M) = ((-(2 ^ 62) ≤ j ∧ j < 2 ^ 62) ∧ Q (rngD 0 j.toNat) M) := propext Iff.rfl
def rng2K (Q : List D → Mem → Prop) (es : List D) (M : Mem) : Prop := match es with | [.int i, .int j] => (-(2 ^ 62) ≤ i ∧ i < 2 ^ 62 ∧ -(2 ^ 62) ≤ j ∧ j < 2 ^ 62) ∧ Q (rngD i (j - i).toNat) M | _ => False
theorem piRng2 {wa : WA} {ds : SD} {M : Mem} {Q : List D → Mem → Prop} {X : KX} : (wiRng2 wa ds M Q X) = (wa ds M (rng2K Q) X) := propext Iff.rfl
theorem pRng2K {Q : List D → Mem → Prop} {i j : Int} {M : Mem} : (rng2K Q [.int i, .int j] M) = ((-(2 ^ 62) ≤ i ∧ i < 2 ^ 62 ∧ -(2 ^ 62) ≤ j ∧ j < 2 ^ 62) ∧ Q (rngD i (j - i).toNat) M) := propext Iff.rfl
def enumK (Q : List D → Mem → Prop) (es : List D) (M : Mem) : Prop := match es with | [.lst xs] => Q (enumD xs) M | _ => False
theorem piEnum {wa : WA} {ds : SD} {M : Mem} {Q : List D → Mem → Prop} {X : KX} : (wiEnum wa ds M Q X) = (wa ds M (enumK Q) X) := propext Iff.rfl
theorem pEnumK {Q : List D → Mem → Prop} {xs : List D} {M : Mem} : (enumK Q [.lst xs] M) = (Q (enumD xs) M) := propext Iff.rfl
def zipK (Q : List D → Mem → Prop) (es : List D) (M : Mem) : Prop := match es with | [.lst xs, .lst ys] => Q (zipD xs ys) M | [.tup xs, .tup ys] => Q (zipD xs ys) M | _ => False
theorem piZip {wa : WA} {ds : SD} {M : Mem} {Q : List D → Mem → Prop} {X : KX} : (wiZip wa ds M Q X) = (wa ds M (zipK Q) X) := propext Iff.rfl
theorem pZipL {Q : List D → Mem → Prop} {xs ys : List D} {M : Mem} : (zipK Q [.lst xs, .lst ys] M) = (Q (zipD xs ys) M) := propext Iff.rfl
theorem pZipT {Q : List D → Mem → Prop} {xs ys : List D} {M : Mem} : (zipK Q [.tup xs, .tup ys] M) = (Q (zipD xs ys) M) := propext Iff.rfl
theorem pFz {w : WE} {ds : SD} {M : Mem} {Q : KN} {X : KX} : (wFz w ds M Q X) = (w ds M (Fin Q) X) := propext Iff.rfl
theorem pLenSet {we : WE} {ds : SD} {M : Mem} {Q : KN} {X : KX} : (wLenSet we ds M Q X) = (we ds M (fun d M1 => optK (seqOf M1 d) fun xs => optK (keysD xs) fun ks => ks.length < 4000 ∧ Q (.int (metK ks ks.length).length) M1) X) := propext Iff.rfl
theorem pIsT {cs : List String} {we : WE} {ds : SD} {M : Mem} {Q : KN} {X : KX} : (wIsT cs we ds M Q X) = (we ds M (fun d M1 => cs.all (fun c => ["bool", "int", "str", "tuple", "list", "dict"].contains c) = true ∧ optK (tyN M1 d) fun n => Q (.bl (cs.any (isB n))) M1) X) := propext Iff.rfl
theorem rIx_lst {xs : List D} {i : Int} {M : Mem} {Q : KN} : (rIxD (.lst xs) (.int i) M Q) = (optK (atI xs i) fun v => Q v M) := propext Iff.rfl
theorem rIx_tup {xs : List D} {i : Int} {M : Mem} {Q : KN} : (rIxD (.tup xs) (.int i) M Q) = (optK (atI xs i) fun v => Q v M) := propext Iff.rfl
theorem rIx_ref {a : Addr} {i : Int} {M : Mem} {Q : KN} : (rIxD (.ref a) (.int i) M Q) = (optK (seqOf M (.ref a)) fun xs => optK (atI xs i) fun v => Q v M) := propext Iff.rfl
theorem rIx_str {z : Str} {i : Int} {M : Mem} {Q : KN} : (rIxD (.str z) (.int i) M Q) = (z.length ≤ sizeLine ∧ optK (atI z.cps.toList i) fun c => Q (.str ⟨#[c]⟩) M) := propext Iff.rfl
theorem rLen_str {z : Str} {M : Mem} {Q : KN} : (rLenD [.str z] M Q) = (z.length ≤ sizeLine ∧ Q (.int z.length) M) := propext Iff.rfl
theorem rLen_lst {xs : List D} {M : Mem} {Q : KN} : (rLenD [.lst xs] M Q) = (Q (.int xs.length) M) := propext Iff.rfl
theorem rLen_tup {xs : List D} {M : Mem} {Q : KN} : (rLenD [.tup xs] M Q) = (Q (.int xs.length) M) := propext Iff.rfl
theorem rLen_ref {a : Addr} {M : Mem} {Q : KN} : (rLenD [.ref a] M Q) = (optK (seqOf M (.ref a)) fun xs => Q (.int xs.length) M) := propext Iff.rfl
theorem rIs_p {d : D} {c : String} {M : Mem} {Q : KN} : (rIsD [d, .ty c] M Q) = (c ∈ ["bool", "int", "str", "tuple", "list", "dict"] ∧ optK (tyN M d) fun n => Q (.bl (isB n c)) M) := propext Iff.rfl
theorem rInt_int {i : Int} {M : Mem} {Q : KN} : (rIntCD [.int i] M Q) = (Q (.int i) M) := propext Iff.rfl
theorem rInt_bl {b : Bool} {M : Mem} {Q : KN} : (rIntCD [.bl b] M Q) = (Q (.int (if b then 1 else 0)) M) := propext Iff.rfl
theorem rStr_int {i : Int} {M : Mem} {Q : KN} : (rStrCD [.int i] M Q) = (i.natAbs.log2 < 1920 ∧ Q (.str (toString i)) M) := propext Iff.rfl
theorem rList_p {d : D} {M : Mem} {Q : KN} : (rListD [d] M Q) = (optK (seqOf M d) fun xs => Q (.lst xs) M) := propext Iff.rfl
theorem rListO_p {d : D} {M : Mem} {Q : KN} : (rListO [d] M Q) = (optK (seqOf M d) fun xs => ∀ a, M a = none → Q (.ref a) (mput M a (.lst xs))) := propext Iff.rfl
theorem rTup_p {d : D} {M : Mem} {Q : KN} : (rTupD [d] M Q) = (optK (seqOf M d) fun xs => Q (.tup xs) M) := propext Iff.rfl
theorem rAdd_int {i j : Int} {M : Mem} {Q : KN} : (rAddD (.int i) (.int j) M Q) = (Q (.int (i + j)) M) := propext Iff.rfl
theorem rAdd_str {x y : Str} {M : Mem} {Q : KN} : (rAddD (.str x) (.str y) M Q) = (x.length + y.length ≤ sizeLine ∧ Q (.str (x ++ y)) M) := propext Iff.rfl
theorem rAdd_tup {xs ys : List D} {M : Mem} {Q : KN} : (rAddD (.tup xs) (.tup ys) M Q) = (xs.length + ys.length ≤ sizeLine ∧ Q (.tup (xs ++ ys)) M) := propext Iff.rfl
theorem rAdd_lst {xs ys : List D} {M : Mem} {Q : KN} : (rAddD (.lst xs) (.lst ys) M Q) = (xs.length + ys.length ≤ sizeLine ∧ Q (.lst (xs ++ ys)) M) := propext Iff.rfl
theorem rIntD_p {C : Int → Int → Prop} {g : Int → Int → D} {i j : Int} {M : Mem} {Q : KN} : (rIntD C g (.int i) (.int j) M Q) = (C i j ∧ Q (g i j) M) := propext Iff.rfl
theorem rInt0_p {g : Int → Int → D} {i j : Int} {M : Mem} {Q : KN} : (rInt0D g (.int i) (.int j) M Q) = (Q (g i j) M) := propext Iff.rfl
theorem rEq_int {neg : Bool} {i j : Int} {M : Mem} {Q : KN} : (rEqD neg (.int i) (.int j) M Q) = (Q (.bl (xor neg (decide (i = j)))) M) := propext Iff.rfl
theorem rEq_str {neg : Bool} {x y : Str} {M : Mem} {Q : KN} : (rEqD neg (.str x) (.str y) M Q) = (Q (.bl (xor neg (decide (x = y)))) M) := propext Iff.rfl
theorem rEq_bl {neg : Bool} {x y : Bool} {M : Mem} {Q : KN} : (rEqD neg (.bl x) (.bl y) M Q) = (Q (.bl (xor neg (decide (x = y)))) M) := propext Iff.rfl
theorem rEq_lst {neg : Bool} {xs : List D} {e : D} {M : Mem} {Q : KN} : (rEqD neg (.lst xs) e M Q) = (Dat (.lst xs) 60 ∧ Dat e 60 ∧ Q (.bl (xor neg (deq (.lst xs) e))) M) := propext Iff.rfl
theorem rEq_tup {neg : Bool} {xs : List D} {e : D} {M : Mem} {Q : KN} : (rEqD neg (.tup xs) e M Q) = (Dat (.tup xs) 60 ∧ Dat e 60 ∧ Q (.bl (xor neg (deq (.tup xs) e))) M) := propext Iff.rfl
theorem rIsN_non {neg : Bool} {M : Mem} {Q : KN} : (rIsND neg .non .non M Q) = (Q (.bl (!neg)) M) := propext Iff.rfl
theorem rIsN_bl {neg b : Bool} {M : Mem} {Q : KN} : (rIsND neg (.bl b) .non M Q) = (Q (.bl neg) M) := propext Iff.rfl
theorem rIsN_int {neg : Bool} {b : Int} {M : Mem} {Q : KN} : (rIsND neg (.int b) .non M Q) = (Q (.bl neg) M) := propext Iff.rfl
theorem rIsN_str {neg : Bool} {b : Str} {M : Mem} {Q : KN} : (rIsND neg (.str b) .non M Q) = (Q (.bl neg) M) := propext Iff.rfl
theorem rIsN_tup {neg : Bool} {b : List D} {M : Mem} {Q : KN} : (rIsND neg (.tup b) .non M Q) = (Q (.bl neg) M) := propext Iff.rfl
theorem rIsN_lst {neg : Bool} {b : List D} {M : Mem} {Q : KN} : (rIsND neg (.lst b) .non M Q) = (Q (.bl neg) M) := propext Iff.rfl
theorem rNeg_p {i : Int} {M : Mem} {Q : KN} : (rNegD (.int i) M Q) = (Q (.int (-i)) M) := propext Iff.rfl
theorem rSl_str {z : Str} {lo hi : Option Int} {M : Mem} {Q : KN} : (rSlD (.str z) lo hi M Q) = (z.length ≤ sizeLine ∧ Q (.str (cutS z lo hi)) M) := propext Iff.rfl
theorem rSl_tup {xs : List D} {lo hi : Option Int} {M : Mem} {Q : KN} : (rSlD (.tup xs) lo hi M Q) = (Q (.tup (cutL xs lo hi)) M) := propext Iff.rfl
theorem rSl_lst {xs : List D} {lo hi : Option Int} {M : Mem} {Q : KN} : (rSlD (.lst xs) lo hi M Q) = (Q (.lst (cutL xs lo hi)) M) := propext Iff.rfl
theorem rSl_scr {ns : List Int} {lo hi : Option Int} {M : Mem} {Q : KN} : (rSlD (.scr ns) lo hi M Q) = (Q (.lst ((cutL ns lo hi).map D.int)) M) := propext Iff.rfl
theorem rRep_p {xs : List D} {k : Int} {M : Mem} {Q : KN} : (rRepD (.lst xs) (.int k) M Q) = (-(2 ^ 63) ≤ k ∧ k < 2 ^ 63 ∧ xs.length * k.toNat ≤ sizeLine ∧ Q (.lst (List.replicate k.toNat xs).flatten) M) := propext Iff.rfl
theorem pOptK {α : Type} {a : α} {k : α → Prop} : (optK (some a) k) = (k a) := propext Iff.rfl
end DL
/-! calls with keywords; `is` of truth values; enumerate, texts times a number come later -/
namespace DL
open PySem PySem.Spec PyProof.Rows L2 RZ
/-! ### keywords -/
/-- n values by place, m by keyword, brought into the parameters' order -/
def gOrd {α : Type} (n m : Nat) (ord : List Nat) (us ws : List α) : List α := if us.length = n ∧ ws.length = m then ord.filterMap fun i => (us ++ ws)[i]? else []
theorem vals_pick {xs : List V} {us : List Value} (r : Vals xs us) : ∀ ord : List Nat, Vals (ord.filterMap fun i => xs[i]?) (ord.filterMap fun i => us[i]?)
  | [] => .nil
  | i :: ord => by
    rw [List.filterMap_cons, List.filterMap_cons]
    have hl := r.length
    by_cases h : i < xs.length
    · obtain ⟨u, hu, ru⟩ := r.get (i := i) (x := xs[i]) (List.getElem?_eq_getElem h)
      rw [List.getElem?_eq_getElem h, hu]
      exact .cons ru (vals_pick r ord)
    · rw [List.getElem?_eq_none (by omega), List.getElem?_eq_none (by omega)]
      exact vals_pick r ord
theorem vals_app : ∀ {xs ys : List V} {us ws : List Value}, Vals xs us → Vals ys ws → Vals (xs ++ ys) (us ++ ws)
  | _, _, _, _, .nil, h => h
  | _, _, _, _, .cons r t, h => .cons r (vals_app t h)
theorem gOrd_vals {n m : Nat} {ord : List Nat} {vs zs : List V} {us ws : List Value} (r : Vals vs us) (q : Vals zs ws) : Vals (gOrd n m ord vs zs) (gOrd n m ord us ws) := by
  unfold gOrd
  have h1 := r.length
  have h2 := q.length
  by_cases h : vs.length = n ∧ zs.length = m
  · rw [if_pos h, if_pos (by rw [← h1, ← h2]; exact h)]
    exact vals_pick (vals_app r q) ord
  · rw [if_neg h, if_neg (by rw [← h1, ← h2]; exact h)]
    exact .nil
theorem dvs_pick {K : PySem.W.Frag} {H : Hp} {M : Mem} {ds : List D} {xs : List V} (r : DVs K H M ds xs) : ∀ ord : List Nat, DVs K H M (ord.filterMap fun i => ds[i]?) (ord.filterMap fun i => xs[i]?)
  | [] => rfl
  | i :: ord => by
    rw [List.filterMap_cons, List.filterMap_cons]
    have hl := r.len
    by_cases h : i < ds.length
    · obtain ⟨x, hx, g⟩ := r.get (List.getElem?_eq_getElem h)
      rw [List.getElem?_eq_getElem h, hx]
      exact ⟨_, _, rfl, g, dvs_pick r ord⟩
    · rw [List.getElem?_eq_none (by omega), List.getElem?_eq_none (by omega)]
      exact dvs_pick r ord
theorem gOrd_dvs {K : PySem.W.Frag} {H : Hp} {M : Mem} {n m : Nat} {ord : List Nat} {ds es : List D} {vs zs : List V} (r : DVs K H M ds vs) (q : DVs K H M es zs) : DVs K H M (gOrd n m ord ds es) (gOrd n m ord vs zs) := by
  unfold gOrd
  have h1 := r.len
  have h2 := q.len
  by_cases h : ds.length = n ∧ es.length = m
  · rw [if_pos h, if_pos (by rw [h1, h2]; exact h)]
    exact dvs_pick (DVs.app r q) ord
  · rw [if_neg h, if_neg (by rw [h1, h2]; exact h)]
    rfl
theorem kb_mk {K : PySem.W.Frag} {fd : FuncData} {ps ks : List Str} {n m : Nat} {ord : List Nat} (hp : 0 < ps.length) (h : ∀ us ws : List Value, us.length = n → ws.length = m → ∀ s, BindsTo s fd ⟨us, ks.zip ws⟩ (ps.zip (gOrd n m ord us ws))) : KBinds K fd ps ks (gOrd n m ord) (gOrd n m ord) := by
  refine ⟨fun s us ws _ hl => ?_, fun r q => gOrd_vals r q⟩
  by_cases e : us.length = n ∧ ws.length = m
  · exact h us ws e.1 e.2 s
  · unfold gOrd at hl
    rw [if_neg e] at hl
    rw [← hl] at hp
    exact absurd hp (Nat.lt_irrefl 0)
/-- the def at f, called with these keywords -/
structure FnJK (P : Program) (w : World) (K : PySem.W.Frag) (mg : Str → Option Value) (base : Heap) (k : Nat) (f : Addr) (sp : SpD) (ks : List Str) (n m : Nat) (ord : List Nat) : Prop where
  ex : ∃ fd ps, FnOk P w K mg base (L2.CX P w) k f fd ps (liftSp K sp) ∧ KBinds K fd ps ks (gOrd n m ord) (gOrd n m ord)
  kp : PySem.W.keepIn K (.ref f) = true
def wCallK (sp : SpD) (n m : Nat) (ord : List Nat) (wa wk : WA) : WE := fun ds M Q Xc => wa ds M (fun xs M1 => wk ds M1 (fun ys M2 => sp (gOrd n m ord xs ys) M2 Q Xc) Xc) Xc
theorem pk_mono {X : Cx} {es : List Keyword} {t t' : TA} (h : PK X es t) (i : ∀ σ H Q, t' σ H Q → t σ H Q) : PK X es t' := ⟨fun pos pins s σ H Q I hw => h.run pos pins s σ H Q I (i σ H Q hw)⟩
section
variable {X : Cx} {W : WX} {x : Str} {p pos : Pos} {e : Expr} {es : List Expr} {kws : List Keyword} {wa wk : WA} {k j n m : Nat} {ord : List Nat} {f : Addr} {sp : SpD} {ks : List Str} {nm : Option Str} {kpos : Pos} {we : WE} {wr : WA}
theorem jk_nil : JK X W [] wNil := pk_mono pk_nil fun σ H Q h => by
  obtain ⟨ds, M, F, Qd, Xd, hs, _, hw, l1, _⟩ := h
  exact l1 [] H [] M Ext.rfl' hs.1 rfl hw
theorem jk_one (ha : JE X W e we) : JK X W [⟨nm, e, kpos⟩] (wCons we wNil) := pk_mono (pk_cons ha pk_nil) fun σ H Q h => bindE (wa := we) (f := fun d _ M Q _ => Q [d] M) h fun v d H1 h => by
  obtain ⟨_, M, F, Qd, Xd, hs, hv, hw, l1, _⟩ := h
  exact l1 [v] H1 [d] M Ext.rfl' hs.1 hv hw
theorem dvs_turn {K : PySem.W.Frag} {H : Hp} {M : Mem} {d : D} {v : V} : ∀ {ds : List D} {vs : List V}, DVs K H M (ds ++ [d]) (vs ++ [v]) → DVs K H M (d :: ds) (v :: vs)
  | ds, vs, h => by
    have hl := h.len
    rw [List.length_append, List.length_append, List.length_singleton, List.length_singleton] at hl
    have e : vs.length = ds.length := by omega
    have a := h.take ds.length
    rw [List.take_left, ← e, List.take_left] at a
    obtain ⟨x, hx, g⟩ := h.get (i := ds.length) (d := d) (by rw [List.getElem?_append_right (Nat.le_refl _), Nat.sub_self]; rfl)
    rw [← e, List.getElem?_append_right (Nat.le_refl _), Nat.sub_self] at hx
    cases (Option.some.inj hx : v = x)
    exact ⟨v, vs, rfl, g, a⟩
theorem jk_cons {kws : List Keyword} (ha : JE X W e we) (hr : JK X W kws wr) : JK X W (⟨nm, e, kpos⟩ :: kws) (wCons we wr) :=
  pk_mono (pk_cons ha hr) fun σ H Q h => bindE (wa := we) (f := fun d ds M Q Xc => wr ds M (fun xs M2 => Q (d :: xs) M2) Xc) h fun v d H1 h => bindA (wa := wr) (f := fun xs _ M Q _ => Q (d :: xs) M) h fun vs ds H2 h => by
    obtain ⟨_, M, F, Qd, Xd, hs, hv, hw, l1, _⟩ := h
    exact l1 (v :: vs) H2 (d :: ds) M Ext.rfl' hs.1 (dvs_turn hv) hw
theorem run_k {pins : List (Addr × Obj)} {σ : L2.St} {H : Hp} {s : Shared} {Q : VK} {E : XK} {us zs : List Value} {vs ws : List V} {fd : FuncData} {ps : List Str} {q : Sp} (F : FnOk X.prog X.w X.K X.mg X.base (L2.CX X.prog X.w) k f fd ps q) (hr : Room k X.A)
    (hb : KBinds X.K fd ps ks (gOrd n m ord) (gOrd n m ord)) (pass : PassesAt (L2.CX X.prog X.w) X σ E) (I : Inv X pins σ H s) (r1 : Vals vs us) (r2 : Vals ws zs) (h : q (gOrd n m ord vs ws) H Q E) :
    wpAny (model X.prog X.w) X.A (call (.ref f) us (ks.zip zs)) (EP X pins σ Q) X.xe s := by
  have r := gOrd_vals (n := n) (m := m) (ord := ord) r1 r2
  have bt := hb.to s us zs I.kIn (r.length.symm.trans (F.len _ _ _ _ h))
  refine wpAny_call (codeAny_mono (F.run _ X.stack _ _ ⟨us, ks.zip zs⟩ _ _ _ E hr I.env0 bt r h) fun res s' done => ?_)
  rcases res with e | fl
  · exact pass pins H s e s' I done
  · cases fl <;> first | exact I.after done | exact done.elim
/-- f(e, .., k=e, ..) -/
theorem j_callK (F : FnJK X.prog X.w X.K X.mg X.base k f sp ks n m ord) (hr : Room j X.A) (hkj : k ≤ j) (hm : X.mg x = some (.ref f)) (tk : Takes X W) (ha : JA X W (e :: es) wa) (hkw : JK X W kws wk) (hg : Gl X x := by rfl)
    (hall : (backToKw pos (keywordEach kws X.env)).all (·.1.isSome) = true := by rfl) (hks : (backToKw pos (keywordEach kws X.env)).filterMap (·.1) = ks := by rfl)
    (hdb : (x == ("__debug__" : Str)) = false := by decide) (he : starEach (e :: es) X.env = (false, eval e X.env) :: starEach es X.env := by rfl)
    (hpl : ((backTo pos (starEach (e :: es) X.env)).any (·.1) || (backToKw pos (keywordEach kws X.env)).any (·.1.isNone)) = false := by rfl) :
    JE X W (.Call (.Name x p) (e :: es) kws pos) (wCallK sp n m ord wa wk) := by
  obtain ⟨fd, ps, h1, h2⟩ := F.ex
  have main : ∀ σ, PE X (.Call (.Name x p) (e :: es) kws pos) (fun σ' H Q => σ' = σ ∧ tCallK (liftSp X.K sp) (gOrd n m ord) (L2.WE W σ) (liftA X.K W wa) (liftA X.K W wk) σ' H Q) := fun σ => ⟨fun pins s σ' H Q I h => by
    obtain ⟨e1, h⟩ := h
    subst e1
    refine wpAny_Call_Name_kw (ld_glob I hg hm ?_ hdb)
    refine PySem.W.callWith_KW (h₀ := X.base) I.ok.mod.kin F.kp hall (thn (ha.run pos pins s _ H _ I h) fun us s1 ⟨vs, H1, I1, r, q⟩ => ?_) hpl he
    refine thn (hkw.run pos pins s1 _ H1 _ I1 q) fun ws s2 ⟨zs, H2, I2, rz, q2⟩ => ⟨I2.kIn, ?_⟩
    rw [hks]
    exact run_k h1 (hr.mono hkj) h2 (passAt tk _) I2 r rz q2⟩
  refine ⟨fun pins s σ H Q I h => (main σ).run pins s σ H Q I ⟨rfl, ?_⟩⟩
  refine bindA (wa := wa) (f := fun xs ds M Q Xc => wk ds M (fun ys M2 => sp (gOrd n m ord xs ys) M2 Q Xc) Xc) h fun vs xs H1 h => ?_
  rw [List.append_nil, List.append_nil] at h
  have n1 : vs.length = xs.length := by
    obtain ⟨_, _, _, _, _, _, hv, _⟩ := h
    exact hv.len
  refine bindA (wa := wk) (f := fun ys _ M Q Xc => sp (gOrd n m ord xs ys) M Q Xc) h fun zs ys H2 h => ?_
  obtain ⟨ds, M, F', Qd, Xd, hs, hv, hw, l1, l2⟩ := h
  have n2 := hv.len
  rw [List.length_append, List.length_append] at n2
  have e : zs.length = ys.length := by omega
  have a := hv.take ys.length
  have b := hv.drop ys.length
  rw [List.take_left, ← e, List.take_left] at a
  rw [List.drop_left, ← e, List.drop_left] at b
  exact ⟨gOrd n m ord xs ys, M, F', Qd, Xd, hs.1, gOrd_dvs b a, hw, l1, l2⟩
/-- x is y, truth values -/
def rIsBD (neg : Bool) : RD2 := fun d e M Q => match d, e with
  | .bl x, .bl y => Q (.bl (xor neg (decide (x = y)))) M
  | _, _ => False
end
end DL
/-! dicts: what stands at a key, a key stored; truth values compared by `is` -/
namespace DL
open PySem PySem.Spec PyProof.Rows L2 RZ
/-- what stands at the key -/
def valD : List Key → List D → Key → Option D
  | j :: ks, x :: xs, k => if j = k then some x else valD ks xs k
  | _, _, _ => none
/-- the keys and values of a dict, frozen or owned -/
def moDct : Option MO → Option (List Key × List D)
  | some (.dct ks xs) => some (ks, xs)
  | _ => none
def dctOf (M : Mem) : D → Option (List Key × List D)
  | .dct ks xs => some (ks, xs)
  | .ref a => moDct (M a)
  | _ => none
section
variable {K : PySem.W.Frag} {H : Hp} {M F : Mem}
theorem valD_ok : ∀ {kvs : List (Key × V)} {ks : List Key} {xs : List D} {k : Key} {d : D}, kvs.map (·.1) = ks → DVs K H M xs (kvs.map (·.2)) → valD ks xs k = some d → ∃ v, valV kvs k = some v ∧ DV K H M d v
  | [], ks, xs, k, d, e, _, h => by
    cases (show [] = ks from e)
    cases h
  | p :: kvs, ks, xs, k, d, e, g, h => by
    cases (show p.1 :: kvs.map (·.1) = ks from e)
    cases xs with
    | nil => cases h
    | cons x xs =>
      obtain ⟨y, ys, e2, g1, g2⟩ := g
      cases e2
      by_cases c : p.1 = k
      · have h' : (if p.1 = k then some x else valD (kvs.map (·.1)) xs k) = some d := h
        rw [if_pos c] at h'
        cases h'
        exact ⟨p.2, valV_pos c, g1⟩
      · have h' : (if p.1 = k then some x else valD (kvs.map (·.1)) xs k) = some d := h
        rw [if_neg c] at h'
        obtain ⟨v, h1, h2⟩ := valD_ok rfl g2 h'
        exact ⟨v, by rw [valV_neg c]; exact h1, h2⟩
theorem dctOf_ok (R : Rm K H M F) {d : D} {ks : List Key} {xs : List D} {x : V} (h : dctOf M d = some (ks, xs)) (g : DV K H (uni M F) d x) : ∃ a kvs, x = .ref a ∧ Rd H a (.dK kvs) ∧ kvs.map (·.1) = ks ∧ DVs K H (uni M F) xs (kvs.map (·.2)) := by
  cases d <;> first | cases h | skip
  · rename_i a
    have h' : moDct (M a) = some (ks, xs) := h
    cases e : M a with
    | none => rw [e] at h'; cases h'
    | some o =>
      rw [e] at h'
      cases o <;> first | cases h' | skip
      obtain ⟨kvs, q1, q2, q3⟩ := R.get e
      cases (show x = .ref a from g)
      exact ⟨a, kvs, rfl, .inl q1, q2, q3⟩
  · obtain ⟨a, kvs, e, q1, _, q2, q3⟩ := g
    exact ⟨a, kvs, e, q1, q2, q3⟩
theorem keyD_val {d : D} {k : Key} {y : V} (h : keyD d = some k) (g : DV K H M d y) : y = kV k := by
  cases d <;> first | (cases h; exact g) | cases h
end
/-- d[k] -/
def rDixD : RD2 := fun d e M Q => optK (dctOf M d) fun p => optK (keyD e) fun k => optK (valD p.1 p.2 k) fun v => Q v M
section
variable {X : Cx} {W : WX} {o i : Expr} {wo wi : WE} {pos : Pos}
theorem j_dix (hu : X.A.units + 1 < cLine) (ho : JE X W o wo) (hi : JE X W i wi) (hs : NoSl i := by exact fun _ _ => rfl) : JE X W (.Subscript o i pos) (wOp rDixD wo wi) :=
  pe_mono (pe_dget hu ho hi hs) fun σ H Q h => bindE (wa := wo) (f := fun x ds M Q Xc => wi ds M (fun y M2 => rDixD x y M2 Q) Xc) h fun x d H1 h => bindE (wa := wi) (f := fun y _ M Q _ => rDixD d y M Q) h fun y e H2 h => by
    obtain ⟨ds, M, F, Qd, Xd, hs', hv, hw, l1, _⟩ := h
    obtain ⟨_, _, e1, h1, _, _, e2, h2, _⟩ := hv
    cases e1
    cases e2
    obtain ⟨⟨ks, xs⟩, q1, hw⟩ := optK_of hw
    obtain ⟨k, q2, hw⟩ := optK_of hw
    obtain ⟨v, q3, q⟩ := optK_of hw
    obtain ⟨a, kvs, e3, r1, r2, r3⟩ := dctOf_ok hs'.1 q1 h2
    obtain ⟨u, r4, r5⟩ := valD_ok r2 r3 q3
    refine ⟨a, u, e3, .inl ⟨kvs, k, r1, keyD_val q2 h1, r4.symm⟩, l1 u H2 v M Ext.rfl' hs'.1 r5 q⟩
end
section
variable {X : Cx}
theorem od_isB : OpR X (compareOp .Is) (liftV2 X.K (rIsBD false)) := by
  intro pins s σ H x y v u Q I rx ry hh
  obtain ⟨d, e, M, F, Qd, R, h1, h2, h3, l⟩ := hh
  unfold rIsBD at h3
  split at h3
  · rename_i a b
    cases (show x = .bl a from h1)
    cases (show y = .bl b from h2)
    exact op_isBl pins s σ H _ _ v u Q I rx ry ⟨a, b, rfl, rfl, l (.bl _) H (.bl _) M Ext.rfl' R rfl (by rw [Bool.false_xor] at h3; exact h3)⟩
  · exact h3.elim
end
/-! ### d[k] = v, d owned -/
def replD : List Key → List D → Key → D → List D
  | j :: ks, x :: xs, k, d => (if j = k then d else x) :: replD ks xs k d
  | _, _, _, _ => []
def putDk (ks : List Key) (xs : List D) (k : Key) (d : D) : List Key × List D := if (ks.any fun j => decide (j = k)) = true then (ks, replD ks xs k d) else (ks ++ [k], xs ++ [d])
theorem repl_ok {K : PySem.W.Frag} {H : Hp} {M : Mem} {k : Key} {d : D} {v : V} (g : DV K H M d v) : ∀ {kvs : List (Key × V)} {xs : List D}, DVs K H M xs (kvs.map (·.2)) →
    DVs K H M (replD (kvs.map (·.1)) xs k d) ((kvs.map fun kv => if kv.1 = k then (kv.1, v) else kv).map (·.2)) ∧ (kvs.map fun kv => if kv.1 = k then (kv.1, v) else kv).map (·.1) = kvs.map (·.1)
  | [], xs, h => by
    refine ⟨?_, rfl⟩
    cases xs <;> rfl
  | p :: kvs, xs, h => by
    cases xs with
    | nil => cases (show p.2 :: kvs.map (·.2) = [] from h)
    | cons x xs =>
      obtain ⟨y, ys, e, h1, h2⟩ := h
      cases e
      obtain ⟨q1, q2⟩ := repl_ok g h2
      by_cases c : p.1 = k
      · refine ⟨⟨v, _, ?_, ?_, q1⟩, ?_⟩
        · simp [c]
        · simp [c]; exact g
        · simpa [c] using q2
      · refine ⟨⟨p.2, _, ?_, ?_, q1⟩, ?_⟩
        · simp [c]
        · simp [c]; exact h1
        · simpa [c] using q2
theorem putDk_ok {K : PySem.W.Frag} {H : Hp} {M : Mem} {k : Key} {d : D} {v : V} {kvs : List (Key × V)} {xs : List D} (g : DV K H M d v) (h : DVs K H M xs (kvs.map (·.2))) :
    (putK kvs k v).map (·.1) = (putDk (kvs.map (·.1)) xs k d).1 ∧ DVs K H M (putDk (kvs.map (·.1)) xs k d).2 ((putK kvs k v).map (·.2)) := by
  have e : ((kvs.map (·.1)).any fun j => decide (j = k)) = kvs.any fun kv => decide (kv.1 = k) := by rw [List.any_map]; rfl
  unfold putDk putK
  rw [e]
  by_cases c : (kvs.any fun kv => decide (kv.1 = k)) = true
  · rw [if_pos c, if_pos c]
    obtain ⟨q1, q2⟩ := repl_ok (k := k) g h
    exact ⟨q2, q1⟩
  · rw [if_neg c, if_neg c]
    refine ⟨by rw [List.map_append]; rfl, ?_⟩
    rw [List.map_append]
    exact DVs.app h ⟨v, [], rfl, g, rfl⟩
def ownD (M : Mem) (d : D) (k : Addr → List Key → List D → Prop) : Prop := match d with
  | .ref a => optK (moDct (M a)) fun p => k a p.1 p.2
  | _ => False
def rDsetD (o i v : D) (M : Mem) (k : Mem → Prop) : Prop := ownD M o fun a ks xs => optK (keyD i) fun j => xs.length < sizeLine ∧ k (mput M a (.dct (putDk ks xs j v).1 (putDk ks xs j v).2))
section
variable {X : Cx} {W : WX} {o i e : Expr} {wo wi we : WE} {pos : Pos}
theorem js_dsub {spos : Pos} (hu : X.A.units + 1 < cLine) (he : JE X W e we) (ho : JE X W o wo) (hi : JE X W i wi)
    (ha : ∀ v, assign (.Subscript o i pos) X.env v = (do
      let ov ← holding [v] (eval o X.env)
      let iv ← holding [v, ov] (eval i X.env)
      standAt pos
      holding [v, ov, iv] (setItem ov iv v)
      release [v, ov, iv] []) := by intro _; rfl)
    (hs : swapsWithSole [.Subscript o i pos] e spos.line X.env = pure false := by rfl) (hw : swappedStores [.Subscript o i pos] e X.env = pure none := by rfl)
    (h1 : (assignEach [.Subscript o i pos] X.env).map (·.2) = [assign (.Subscript o i pos) X.env] := by rfl) : JS X W (.Assign [.Subscript o i pos] e spos) (wSub we wo wi rDsetD) :=
  ps_mono (ps_asg he (pg_sub ho hi (set_dict hu) ha) hs hw h1) fun D' σ H h =>
    bindSE (wa := we) (f := fun v E ds M => wo ds M (fun o M2 => wi ds M2 (fun i M3 => rDsetD o i v M3 fun M4 => E.nx ds M4) (E.xc ds)) (E.xc ds)) h fun v d H1 h =>
    bindSE (wa := wo) (f := fun o E ds M => wi ds M (fun i M3 => rDsetD o i d M3 fun M4 => E.nx ds M4) (E.xc ds)) h fun ov od H2 h =>
    bindSE (wa := wi) (f := fun i E ds M => rDsetD od i d M fun M4 => E.nx ds M4) h fun iv id H3 h => by
      obtain ⟨ds, M, F, E, hs, hv, hw, l⟩ := h
      obtain ⟨_, _, e1, g1, _, _, e2, g2, _, _, e3, g3, _⟩ := hv
      cases e1
      cases e2
      cases e3
      unfold rDsetD ownD at hw
      cases od <;> first | exact hw.elim | skip
      rename_i a
      obtain ⟨⟨ks, xs⟩, q1, hw⟩ := optK_of hw
      obtain ⟨j, q2, q3, q⟩ := optK_of hw
      have em : M a = some (.dct ks xs) := by
        cases z : M a with
        | none => rw [z] at q1; cases q1
        | some u => rw [z] at q1; cases u <;> cases q1; rfl
      cases (show ov = .ref a from g2)
      obtain ⟨kvs, k1, k2, k3⟩ := hs.1.get em
      subst k2
      have lk : kvs.length < sizeLine := by
        have z := k3.len
        rw [List.length_map] at z
        rw [z]
        exact q3
      refine ⟨a, _, rfl, .inl ⟨kvs, j, k1, keyD_val q2 g1, lk, rfl⟩, ?_⟩
      obtain ⟨p1, p2⟩ := putDk_ok (k := j) g3 k3
      have x := hs.1.xset (o := HO.dK (putK kvs j v)) (u := .dct (putDk (kvs.map (·.1)) xs j d).1 (putDk (kvs.map (·.1)) xs j d).2) em
      exact l.nx _ _ ds _ x (hs.ext x (hs.1.set em ⟨_, upd_same, p1, DVs.ext hs.1.rel x _ _ p2⟩)) q
end
end DL
/-! dict(zip(xs, ys)): an iterator over a list or a tuple, as one thing -/
namespace DL
open PySem PySem.Spec PyProof.Rows L2 RZ
/-- it draws the items of l, one after the other -/
structure Draw (prog : Program) (w : World) (it l : Addr) (xs : Array Value) (St : Nat → Heap → Prop) : Prop where
  it_ : ∀ i h, St i h → ∃ o, h.get? it = some o
  src : ∀ i h, St i h → ∃ o, h.get? l = some o
  frame : ∀ i h h', St i h → (∀ o, h.get? it = some o → h'.get? it = some o) → (∀ o, h.get? l = some o → h'.get? l = some o) → St i h'
  item : ∀ (A : Around) (s : Shared) (E : Value → Shared → Prop) (Q : Value → Shared → Prop) i x, St i s.heap → xs[i]? = some x → (∀ h', St (i + 1) h' → Heap.SameBut it s.heap h' → Q x { s with heap := h' }) →
    wpAny (model prog w) A (Builtin.SmallTypes.nextOf (.ref it)) Q E s
  done : ∀ (A : Around) (s : Shared) (E : Value → Shared → Prop) (Q : Value → Shared → Prop) i, A.handled = none → St i s.heap → xs[i]? = none →
    (∀ h' e, Heap.ExtBut it s.heap h' → (∃ o, h'.get? e = some o ∧ o.cls = .type "StopIteration") → E (.ref e) { s with heap := h' }) → wpAny (model prog w) A (Builtin.SmallTypes.nextOf (.ref it)) Q E s
theorem draw_list {prog : Program} {w : World} {it l : Addr} {xs : Array Value} (ne : l ≠ it) : Draw prog w it l xs (fun i h => h.IsListIter it l i ∧ h.IsList l xs) where
  it_ := fun i h ⟨⟨o, e, _⟩, _⟩ => ⟨o, e⟩
  src := fun i h ⟨_, ⟨o, e, _⟩⟩ => ⟨o, e⟩
  frame := fun i h h' ⟨a, b⟩ k1 k2 => ⟨a.at k1, b.at k2⟩
  item := fun A s E Q i x ⟨a, b⟩ e q => wpAny_nextOf_list_item a b e fun h' a' sb => q h' ⟨a', b.extBut sb.extBut ne⟩ sb
  done := fun A s E Q i hh ⟨a, b⟩ e q => wpAny_nextOf_list_end hh a b e fun h' x sb hx => q h' x sb hx
theorem draw_tup {prog : Program} {w : World} {it l : Addr} {xs : Array Value} (ne : l ≠ it) : Draw prog w it l xs (fun i h => h.IsTupleIter it l i ∧ h.IsTuple l xs) where
  it_ := fun i h ⟨⟨o, e, _⟩, _⟩ => ⟨o, e⟩
  src := fun i h ⟨_, ⟨o, e, _⟩⟩ => ⟨o, e⟩
  frame := fun i h h' ⟨a, b⟩ k1 k2 => ⟨a.at k1, b.at k2⟩
  item := fun A s E Q i x ⟨a, b⟩ e q => RZ.nextOf_tuple_item a b e fun h' a' sb => q h' ⟨a', b.extBut sb.extBut ne⟩ sb
  done := fun A s E Q i hh ⟨a, b⟩ e q => RZ.nextOf_tuple_end hh a b e fun h' x sb hx => q h' x sb hx
section
variable {prog : Program} {w : World} {A : Around} {E : Value → Shared → Prop} {s : Shared} {z TI TO T i1 i2 l1 l2 : Addr} {xs ys : Array Value} {S1 S2 : Nat → Heap → Prop} {k : Nat} {f : Bool} {oT : Obj} {x y : Value}
/-- the next pair while the last one is still out -/
theorem held_item (D : ZipApart z TI TO i1 i2 l1 l2) (d1 : Draw prog w i1 l1 xs S1) (d2 : Draw prog w i2 l2 ys S2) (hz : IsZipHeld s.heap z TI TO T f) (hT : s.heap.get? T = some oT) (hTI : IsPair s.heap TI (.ref i1) (.ref i2))
    (g1 : S1 k s.heap) (g2 : S2 k s.heap) (ex : xs[k]? = some x) (ey : ys[k]? = some y) {Q : Value → Shared → Prop}
    (q : ∀ h', IsZipHeld h' z TI TO T true → S1 (k + 1) h' → S2 (k + 1) h' → IsPair h' s.heap.objs.size x y → h'.objs.size = s.heap.objs.size + 1 → (∀ c o, c ≠ z → c ≠ i1 → c ≠ i2 → s.heap.get? c = some o → h'.get? c = some o) → Q (.ref s.heap.objs.size) { s with heap := h' }) :
    wpAny (model prog w) A (Builtin.«zip.__next__» ⟨[.ref z], []⟩) (fun fin s' => ∃ v, fin = .done (.ret v) ∧ Q v s') E s := by
  refine wpAny_bind (m := field (.ref z) 2) (wpAny_field hz rfl (x := .bool false) rfl (wpAny_bind (m := field (.ref z) 3) (wpAny_field hz rfl (x := .ref TI) rfl (wpAny_bind (wpAny_seqItems hTI rfl ?_)))))
  refine wpAny_bind (m := Builtin.SmallTypes.ownedTupleIsFree (.ref z)) (wpAny_tupleHeld_zip hz hT fun a za sa => ?_)
  simp only [Bool.false_eq_true, if_false]
  rw [← Array.forIn_toList]
  simp only [List.forIn_cons, List.forIn_nil]
  have g1a : S1 k a := d1.frame _ _ _ g1 (fun o e => sa.extBut _ _ D.i1z e) fun o e => sa.extBut _ _ D.l1z e
  have g2a : S2 k a := d2.frame _ _ _ g2 (fun o e => sa.extBut _ _ D.i2z e) fun o e => sa.extBut _ _ D.l2z e
  refine wpAny_bind (wpAny_bind (wpAny_bind (wpAny_holding ?_)))
  refine wpAny_bind (m := Builtin.SmallTypes.nextOf (.ref i1)) (d1.item _ { s with heap := a } _ _ k x g1a ex fun b g1b sb => wpAny_pure (wpAny_pure ?_))
  have g2b : S2 k b := d2.frame _ _ _ g2a (fun o e => sb.extBut _ _ D.i12.symm e) fun o e => sb.extBut _ _ D.l2i1 e
  refine wpAny_bind (wpAny_bind (wpAny_holding ?_))
  refine wpAny_bind (m := Builtin.SmallTypes.nextOf (.ref i2)) (d2.item _ { s with heap := b } _ _ k y g2b ey fun c g2c sc => wpAny_pure (wpAny_pure (wpAny_pure ?_)))
  have n : c.objs.size = s.heap.objs.size := sc.1.trans (sb.1.trans sa.1)
  have keep : ∀ v o, v ≠ z → v ≠ i1 → v ≠ i2 → s.heap.get? v = some o → c.get? v = some o := fun v o e1 e2 e3 e => sc.extBut _ _ e3 (sb.extBut _ _ e2 (sa.extBut _ _ e1 e))
  have zc : IsZipHeld c z TI TO T true := sc.extBut _ _ D.i2z.symm (sb.extBut _ _ D.i1z.symm za)
  have g1c : S1 (k + 1) c := d1.frame _ _ _ g1b (fun o e => sc.extBut _ _ D.i12 e) fun o e => sc.extBut _ _ D.l1i2 e
  refine wpAny_bind (m := newTuple [x, y]) (wpAny_newTuple (wpAny_pure ⟨_, rfl, ?_⟩))
  have more : ∀ v o, c.get? v = some o → (c.push { cls := .type "tuple", data := .seq #[x, y] }).get? v = some o := fun v o e => Heap.get?_push_of_some _ e
  have last : IsPair (c.push { cls := .type "tuple", data := .seq #[x, y] }) c.objs.size x y := Heap.get?_push_size _ rfl
  have grown : (c.push { cls := .type "tuple", data := .seq #[x, y] }).objs.size = c.objs.size + 1 := Heap.size_push ..
  show Q (.ref c.objs.size) _
  rw [n] at last grown ⊢
  exact q _ (more _ _ zc) (d1.frame _ _ _ g1c (fun o e => more _ _ e) fun o e => more _ _ e) (d2.frame _ _ _ g2c (fun o e => more _ _ e) fun o e => more _ _ e) last grown fun v o e1 e2 e3 e => more _ _ (keep v o e1 e2 e3 e)
/-- the end while the last pair is still out -/
theorem held_end (hh : A.handled = none) (D : ZipApart z TI TO i1 i2 l1 l2) (d1 : Draw prog w i1 l1 xs S1) (d2 : Draw prog w i2 l2 ys S2) (hz : IsZipHeld s.heap z TI TO T f) (hT : s.heap.get? T = some oT) (hTI : IsPair s.heap TI (.ref i1) (.ref i2))
    (g1 : S1 k s.heap) (g2 : S2 k s.heap) (fin : xs[k]? = none ∨ ys[k]? = none) {Q : PySem.Fin → Shared → Prop}
    (q : ∀ h' e, (∀ c o, c ≠ z → c ≠ i1 → c ≠ i2 → s.heap.get? c = some o → h'.get? c = some o) → (∃ o, h'.get? e = some o ∧ o.cls = .type "StopIteration") → E (.ref e) { s with heap := h' }) :
    wpAny (model prog w) A (Builtin.«zip.__next__» ⟨[.ref z], []⟩) Q E s := by
  refine wpAny_bind (m := field (.ref z) 2) (wpAny_field hz rfl (x := .bool false) rfl (wpAny_bind (m := field (.ref z) 3) (wpAny_field hz rfl (x := .ref TI) rfl (wpAny_bind (wpAny_seqItems hTI rfl ?_)))))
  refine wpAny_bind (m := Builtin.SmallTypes.ownedTupleIsFree (.ref z)) (wpAny_tupleHeld_zip hz hT fun a za sa => ?_)
  simp only [Bool.false_eq_true, if_false]
  rw [← Array.forIn_toList]
  simp only [List.forIn_cons, List.forIn_nil]
  have g1a : S1 k a := d1.frame _ _ _ g1 (fun o e => sa.extBut _ _ D.i1z e) fun o e => sa.extBut _ _ D.l1z e
  have g2a : S2 k a := d2.frame _ _ _ g2 (fun o e => sa.extBut _ _ D.i2z e) fun o e => sa.extBut _ _ D.l2z e
  refine wpAny_bind (wpAny_bind (wpAny_bind (wpAny_holding ?_)))
  cases ex : xs[k]? with
  | none => exact wpAny_bind (m := Builtin.SmallTypes.nextOf (.ref i1)) (d1.done _ { s with heap := a } _ _ k hh g1a ex fun b e sb he => q b e (fun c o e1 e2 _ h => sb _ _ e2 (sa.extBut _ _ e1 h)) he)
  | some x =>
    have ey : ys[k]? = none := fin.resolve_left (by rw [ex]; exact fun h => nomatch h)
    refine wpAny_bind (m := Builtin.SmallTypes.nextOf (.ref i1)) (d1.item _ { s with heap := a } _ _ k x g1a ex fun b g1b sb => wpAny_pure (wpAny_pure ?_))
    have g2b : S2 k b := d2.frame _ _ _ g2a (fun o e => sb.extBut _ _ D.i12.symm e) fun o e => sb.extBut _ _ D.l2i1 e
    refine wpAny_bind (wpAny_bind (wpAny_holding ?_))
    exact wpAny_bind (m := Builtin.SmallTypes.nextOf (.ref i2)) (d2.done _ { s with heap := b } _ _ k hh g2b ey fun c e sc he => q c e (fun v o e1 e2 e3 h => sc _ _ e3 (sb.extBut _ _ e2 (sa.extBut _ _ e1 h))) he)
/-- the next pair, put into the zip's own tuple and handed out as a new one -/
theorem free_item {u v : Value} (D : ZipApart z TI TO i1 i2 l1 l2) (ne1 : l1 ≠ TO) (ne2 : l2 ≠ TO) (d1 : Draw prog w i1 l1 xs S1) (d2 : Draw prog w i2 l2 ys S2) (hz : IsZip s.heap z TI TO .none) (hTI : IsPair s.heap TI (.ref i1) (.ref i2)) (hTO : IsPair s.heap TO u v)
    (g1 : S1 k s.heap) (g2 : S2 k s.heap) (ex : xs[k]? = some x) (ey : ys[k]? = some y) {Q : Value → Shared → Prop}
    (q : ∀ h', IsZipHeld h' z TI TO s.heap.objs.size false → S1 (k + 1) h' → S2 (k + 1) h' → IsPair h' s.heap.objs.size x y → h'.objs.size = s.heap.objs.size + 1 → (∀ c o, c ≠ z → c ≠ TO → c ≠ i1 → c ≠ i2 → s.heap.get? c = some o → h'.get? c = some o) → Q (.ref s.heap.objs.size) { s with heap := h' }) :
    wpAny (model prog w) A (Builtin.«zip.__next__» ⟨[.ref z], []⟩) (fun fin s' => ∃ v, fin = .done (.ret v) ∧ Q v s') E s := by
  refine wpAny_bind (m := field (.ref z) 2) (wpAny_field hz rfl (x := .bool false) rfl (wpAny_bind (m := field (.ref z) 3) (wpAny_field hz rfl (x := .ref TI) rfl (wpAny_bind (wpAny_seqItems hTI rfl ?_)))))
  refine wpAny_bind (m := Builtin.SmallTypes.ownedTupleIsFree (.ref z)) (wpAny_bind (wpAny_field hz rfl (x := .none) rfl (wpAny_pure ?_)))
  simp only [if_true]
  refine wpAny_bind (wpAny_rule (wpAny_bind (wpAny_field hz rfl (x := .ref TO) rfl (wpAny_bind (wpAny_setField_rec hz (by simp) fun a za sa => ?_)))))
  simp only [List.zipIdx_cons, List.zipIdx_nil, List.forIn_cons, List.forIn_nil]
  have za' : IsZip a z TI TO .ellipsis := za
  have g1a : S1 k a := d1.frame _ _ _ g1 (fun o e => sa.extBut _ _ D.i1z e) fun o e => sa.extBut _ _ D.l1z e
  have g2a : S2 k a := d2.frame _ _ _ g2 (fun o e => sa.extBut _ _ D.i2z e) fun o e => sa.extBut _ _ D.l2z e
  refine wpAny_bind (wpAny_bind (wpAny_bind (wpAny_onRaise ?_)))
  refine wpAny_bind (m := Builtin.SmallTypes.nextOf (.ref i1)) (d1.item _ { s with heap := a } _ _ k x g1a ex fun b g1b sb => wpAny_pure ?_)
  have pb : IsPair b TO u v := sb.extBut _ _ D.TOi1 (sa.extBut _ _ D.TOz hTO)
  refine wpAny_bind (wpAny_seqItems pb rfl (wpAny_bind (wpAny_updateSeq_pair pb fun c pc sc => wpAny_bind (wpAny_letGo (wpAny_pure ?_)))))
  have pc' : IsPair c TO x v := pc
  have g2c : S2 k c := d2.frame _ _ _ g2a (fun o e => sc.extBut _ _ D.TOi2.symm (sb.extBut _ _ D.i12.symm e)) fun o e => sc.extBut _ _ ne2 (sb.extBut _ _ D.l2i1 e)
  refine wpAny_bind (wpAny_bind (wpAny_onRaise ?_))
  refine wpAny_bind (m := Builtin.SmallTypes.nextOf (.ref i2)) (d2.item _ { s with heap := c } _ _ k y g2c ey fun d g2d sd => wpAny_pure ?_)
  have pd : IsPair d TO x v := sd.extBut _ _ D.TOi2 pc'
  refine wpAny_bind (wpAny_seqItems pd rfl (wpAny_bind (wpAny_updateSeq_pair pd fun e pe se => wpAny_bind (wpAny_letGo (wpAny_pure (wpAny_pure ?_))))))
  have pe' : IsPair e TO x y := pe
  refine wpAny_bind (wpAny_seqItems pe' rfl (wpAny_bind (wpAny_newTuple ?_)))
  have n : e.objs.size = s.heap.objs.size := se.1.trans (sd.1.trans (sc.1.trans (sb.1.trans sa.1)))
  have keep : ∀ m o, m ≠ z → m ≠ TO → m ≠ i1 → m ≠ i2 → s.heap.get? m = some o → e.get? m = some o := fun m o e1 e2 e3 e4 h => se.extBut _ _ e2 (sd.extBut _ _ e4 (sc.extBut _ _ e2 (sb.extBut _ _ e3 (sa.extBut _ _ e1 h))))
  have ze : IsZip e z TI TO .ellipsis := se.extBut _ _ D.TOz.symm (sd.extBut _ _ D.i2z.symm (sc.extBut _ _ D.TOz.symm (sb.extBut _ _ D.i1z.symm za')))
  have ltz : z < e.objs.size := Heap.lt_size ze
  have zp : IsZip (e.push { cls := .type "tuple", data := .seq #[x, y] }) z TI TO .ellipsis := Heap.get?_push_of_some _ ze
  refine wpAny_bind (m := Builtin.SmallTypes.ownedTupleHandOut (.ref z) (.ref e.objs.size)) ?_
  unfold Builtin.SmallTypes.ownedTupleHandOut
  refine wpAny_bind (wpAny_setField_rec zp (by simp) fun r1 zr1 sr1 => ?_)
  have zr1' : IsZip r1 z TI TO (rawInt e.objs.size) := zr1
  refine wpAny_setField_rec zr1' (by simp) fun r2 zr2 sr2 => wpAny_pure ⟨_, rfl, ?_⟩
  have zr2' : IsZipHeld r2 z TI TO e.objs.size false := zr2
  have more : ∀ m o, m ≠ z → e.get? m = some o → r2.get? m = some o := fun m o e1 h => sr2.extBut _ _ e1 (sr1.extBut _ _ e1 (Heap.get?_push_of_some _ h))
  have last : IsPair r2 e.objs.size x y := sr2.extBut _ _ (Nat.ne_of_gt ltz) (sr1.extBut _ _ (Nat.ne_of_gt ltz) (Heap.get?_push_size _ rfl))
  have grown : r2.objs.size = e.objs.size + 1 := by rw [sr2.1, sr1.1, Heap.size_push]
  have g1r : S1 (k + 1) r2 := d1.frame _ _ _ g1b (fun o h => more _ _ D.i1z (se.extBut _ _ D.TOi1.symm (sd.extBut _ _ D.i12 (sc.extBut _ _ D.TOi1.symm h)))) fun o h => more _ _ D.l1z (se.extBut _ _ ne1 (sd.extBut _ _ D.l1i2 (sc.extBut _ _ ne1 h)))
  have g2r : S2 (k + 1) r2 := d2.frame _ _ _ g2d (fun o h => more _ _ D.i2z (se.extBut _ _ D.TOi2.symm h)) fun o h => more _ _ D.l2z (se.extBut _ _ ne2 h)
  show Q (.ref e.objs.size) _
  rw [n] at zr2' last grown ⊢
  exact q _ zr2' g1r g2r last grown fun m o e1 e2 e3 e4 h => more _ _ e1 (keep m o e1 e2 e3 e4 h)
/-- the end, nothing out (two unequal lengths too) -/
theorem free_end {u v : Value} (hh : A.handled = none) (D : ZipApart z TI TO i1 i2 l1 l2) (ne1 : l1 ≠ TO) (ne2 : l2 ≠ TO) (d1 : Draw prog w i1 l1 xs S1) (d2 : Draw prog w i2 l2 ys S2) (hz : IsZip s.heap z TI TO .none) (hTI : IsPair s.heap TI (.ref i1) (.ref i2)) (hTO : IsPair s.heap TO u v)
    (g1 : S1 k s.heap) (g2 : S2 k s.heap) (fin : xs[k]? = none ∨ ys[k]? = none) {Q : PySem.Fin → Shared → Prop}
    (q : ∀ h' e, (∀ c o, c ≠ z → c ≠ TO → c ≠ i1 → c ≠ i2 → s.heap.get? c = some o → h'.get? c = some o) → (∃ o, h'.get? e = some o ∧ o.cls = .type "StopIteration") → E (.ref e) { s with heap := h' }) :
    wpAny (model prog w) A (Builtin.«zip.__next__» ⟨[.ref z], []⟩) Q E s := by
  refine wpAny_bind (m := field (.ref z) 2) (wpAny_field hz rfl (x := .bool false) rfl (wpAny_bind (m := field (.ref z) 3) (wpAny_field hz rfl (x := .ref TI) rfl (wpAny_bind (wpAny_seqItems hTI rfl ?_)))))
  refine wpAny_bind (m := Builtin.SmallTypes.ownedTupleIsFree (.ref z)) (wpAny_bind (wpAny_field hz rfl (x := .none) rfl (wpAny_pure ?_)))
  simp only [if_true]
  refine wpAny_bind (wpAny_rule (wpAny_bind (wpAny_field hz rfl (x := .ref TO) rfl (wpAny_bind (wpAny_setField_rec hz (by simp) fun a za sa => ?_)))))
  simp only [List.zipIdx_cons, List.zipIdx_nil, List.forIn_cons, List.forIn_nil]
  have za' : IsZip a z TI TO .ellipsis := za
  have g1a : S1 k a := d1.frame _ _ _ g1 (fun o e => sa.extBut _ _ D.i1z e) fun o e => sa.extBut _ _ D.l1z e
  have g2a : S2 k a := d2.frame _ _ _ g2 (fun o e => sa.extBut _ _ D.i2z e) fun o e => sa.extBut _ _ D.l2z e
  refine wpAny_bind (wpAny_bind (wpAny_bind (wpAny_onRaise ?_)))
  cases ex : xs[k]? with
  | none =>
    refine wpAny_bind (m := Builtin.SmallTypes.nextOf (.ref i1)) (d1.done _ { s with heap := a } _ _ k hh g1a ex fun b e sb he => ?_)
    have zb : IsZip b z TI TO .ellipsis := sb _ _ D.i1z.symm za'
    have ez : e ≠ z := fun h => by
      obtain ⟨o, h1, h2⟩ := he
      rw [h, zb] at h1
      cases h1
      exact absurd h2 (by simp)
    refine wpAny_setField_rec zb (by simp) fun c _ sc => q c e (fun m o e1 _ e3 _ h => sc.extBut _ _ e1 (sb _ _ e3 (sa.extBut _ _ e1 h))) ?_
    obtain ⟨o, h1, h2⟩ := he
    exact ⟨o, sc.extBut _ _ ez h1, h2⟩
  | some x =>
    have ey : ys[k]? = none := fin.resolve_left (by rw [ex]; exact fun h => nomatch h)
    refine wpAny_bind (m := Builtin.SmallTypes.nextOf (.ref i1)) (d1.item _ { s with heap := a } _ _ k x g1a ex fun b g1b sb => wpAny_pure ?_)
    have pb : IsPair b TO u v := sb.extBut _ _ D.TOi1 (sa.extBut _ _ D.TOz hTO)
    refine wpAny_bind (wpAny_seqItems pb rfl (wpAny_bind (wpAny_updateSeq_pair pb fun c pc sc => wpAny_bind (wpAny_letGo (wpAny_pure ?_)))))
    have g2c : S2 k c := d2.frame _ _ _ g2a (fun o e => sc.extBut _ _ D.TOi2.symm (sb.extBut _ _ D.i12.symm e)) fun o e => sc.extBut _ _ ne2 (sb.extBut _ _ D.l2i1 e)
    refine wpAny_bind (wpAny_bind (wpAny_onRaise ?_))
    refine wpAny_bind (m := Builtin.SmallTypes.nextOf (.ref i2)) (d2.done _ { s with heap := c } _ _ k hh g2c ey fun d e sd he => ?_)
    have zd : IsZip d z TI TO .ellipsis := sd _ _ D.i2z.symm (sc.extBut _ _ D.TOz.symm (sb.extBut _ _ D.i1z.symm za'))
    have ez : e ≠ z := fun h => by
      obtain ⟨o, h1, h2⟩ := he
      rw [h, zd] at h1
      cases h1
      exact absurd h2 (by simp)
    refine wpAny_setField_rec zd (by simp) fun r _ sr => q r e (fun m o e1 e2 e3 e4 h => sr.extBut _ _ e1 (sd _ _ e4 (sc.extBut _ _ e2 (sb.extBut _ _ e3 (sa.extBut _ _ e1 h))))) ?_
    obtain ⟨o, h1, h2⟩ := he
    exact ⟨o, sr.extBut _ _ ez h1, h2⟩
end
end DL
/-! a zip of two draws as dict's argument -/
namespace DL
open PySem PySem.Spec PyProof.Rows L2 RZ
/-- z walks two draws, as dict() and d.update() ask for it -/
theorem pair_draws {prog : Program} {w : World} {z TI TO i1 i2 l1 l2 : Addr} {xs ys : Array Value} {S1 S2 : Nat → Heap → Prop} (D : ZipApart z TI TO i1 i2 l1 l2) (ne1 : l1 ≠ TO) (ne2 : l2 ≠ TO) (d1 : Draw prog w i1 l1 xs S1) (d2 : Draw prog w i2 l2 ys S2) :
    PairArg prog w "zip" z [z, TI, TO, i1, i2, l1, l2] [z, TO, i1, i2] (min xs.size ys.size) (fun i k v => xs[i]? = some k ∧ ys[i]? = some v)
      (fun h => IsZip h z TI TO .none ∧ IsPair h TI (.ref i1) (.ref i2) ∧ (∃ a b, IsPair h TO a b) ∧ S1 0 h ∧ S2 0 h) where
  type := fun s ok => ⟨_, ok.1, rfl⟩
  notDict := by decide
  keep := fun h h' ⟨a, b, ⟨u, v, c⟩, e, f⟩ k => ⟨k _ _ a, k _ _ b, ⟨u, v, k _ _ c⟩, d1.frame _ _ _ e (k _) (k _), d2.frame _ _ _ f (k _) (k _)⟩
  there := fun h ⟨a, b, ⟨u, v, c⟩, e, f⟩ m hm => by
    simp only [List.mem_cons, List.not_mem_nil, or_false] at hm
    rcases hm with q | q | q | q | q | q | q <;> rw [q]
    · exact ⟨_, a⟩
    · exact ⟨_, b⟩
    · exact ⟨_, c⟩
    · exact d1.it_ _ _ e
    · exact d2.it_ _ _ f
    · exact d1.src _ _ e
    · exact d2.src _ _ f
  sub := fun m hm => by
    simp only [List.mem_cons, List.not_mem_nil, or_false] at hm ⊢
    rcases hm with q | q | q | q <;> simp [q]
  noKeys := fun A s Q E hA ok h => getAttrOr_miss_zip ok.1 rfl rfl rfl zip_no_keys (by decide +kernel) hA h
  iter := fun A s d Q E hA ⟨a, b, ⟨u, v, c⟩, e, f⟩ hd off h => by
    simp only [List.mem_cons, List.not_mem_nil, or_false, not_or] at off
    obtain ⟨o1, o2, o3, o4, o5, o6, o7⟩ := off
    refine wpAny_pyIter_zip a (h z [z, TO, i1, i2] (fun i h => IsPair h TI (.ref i1) (.ref i2) ∧ S1 i h ∧ S2 i h ∧ ((IsZip h z TI TO .none ∧ ∃ a b, IsPair h TO a b) ∨ ∃ T f oT, IsZipHeld h z TI TO T f ∧ h.get? T = some oT ∧ T ≠ z ∧ T ≠ i1 ∧ T ≠ i2 ∧ T ≠ d)) s.heap s.toks ?_
      ⟨b, e, f, .inl ⟨a, u, v, c⟩⟩ (fun _ _ q => q) fun _ q => .inl q)
    refine ⟨?_, ?_, ?_, ?_⟩
    · simp only [List.mem_cons, List.not_mem_nil, or_false, not_or]
      exact ⟨o1, o3, o4, o5⟩
    · rintro i h1 h2 ⟨t, p, q, r⟩ k
      refine ⟨k _ _ (Ne.symm o2) t, d1.frame _ _ _ p (fun o => k _ o (Ne.symm o4)) (fun o => k _ o (Ne.symm o6)), d2.frame _ _ _ q (fun o => k _ o (Ne.symm o5)) (fun o => k _ o (Ne.symm o7)), ?_⟩
      rcases r with ⟨x, m, n, y⟩ | ⟨T, g, oT, x, y, n1, n2, n3, n4⟩
      · exact .inl ⟨k _ _ (Ne.symm o1) x, m, n, k _ _ (Ne.symm o3) y⟩
      · exact .inr ⟨T, g, oT, k _ _ (Ne.symm o1) x, k _ _ n4 y, n1, n2, n3, n4⟩
    · rintro i s1 Q1 E1 lt ⟨t, p, q, r⟩ dl go
      have e1 := Array.getElem?_eq_getElem (Nat.lt_of_lt_of_le lt (Nat.min_le_left xs.size ys.size))
      have e2 := Array.getElem?_eq_getElem (Nat.lt_of_lt_of_le lt (Nat.min_le_right xs.size ys.size))
      have new : ∀ {m o}, s1.heap.get? m = some o → s1.heap.objs.size ≠ m := fun h => Nat.ne_of_gt (Heap.lt_size h)
      obtain ⟨_, w1⟩ := d1.it_ _ _ p
      obtain ⟨_, w2⟩ := d2.it_ _ _ q
      unfold pyNext
      rcases r with ⟨x, m, n, y⟩ | ⟨T, g, oT, x, y, n1, n2, n3, n4⟩
      · have ty : s1.TypeIs (.ref z) "zip" := ⟨_, x, rfl⟩
        refine wpAny_bind (wpAny_attempt (wpAny_callSpecial?_slot (name := Str.ofString "__next__") ty F.slot_zip_next (wpAny_call_entry F.slot_zip_next ty F.entry_zip_next (free_item D ne1 ne2 d1 d2 x t y p q e1 e2 fun h' k1 k2 k3 k4 k5 k6 => wpAny_pure ?_) (F.args_zip_next_1 _))))
        exact go s1.heap.objs.size _ _ h' s1.toks ⟨e1, e2⟩ (.inl ⟨_, k4, rfl, _, rfl⟩) ⟨k6 _ _ D.TIz D.TITO D.TIi1 D.TIi2 t, k2, k3, .inr ⟨_, false, _, k1, k4, new x, new w1, new w2, Nat.ne_of_gt dl⟩⟩
          fun c o hc h => k6 c o (fun z => hc (by simp [z])) (fun z => hc (by simp [z])) (fun z => hc (by simp [z])) (fun z => hc (by simp [z])) h
      · have ty : s1.TypeIs (.ref z) "zip" := ⟨_, x, rfl⟩
        refine wpAny_bind (wpAny_attempt (wpAny_callSpecial?_slot (name := Str.ofString "__next__") ty F.slot_zip_next (wpAny_call_entry F.slot_zip_next ty F.entry_zip_next (held_item D d1 d2 x y t p q e1 e2 fun h' k1 k2 k3 k4 k5 k6 => wpAny_pure ?_) (F.args_zip_next_1 _))))
        exact go s1.heap.objs.size _ _ h' s1.toks ⟨e1, e2⟩ (.inl ⟨_, k4, rfl, _, rfl⟩) ⟨k6 _ _ D.TIz D.TIi1 D.TIi2 t, k2, k3, .inr ⟨T, true, oT, k1, k6 _ _ n1 n2 n3 y, n1, n2, n3, n4⟩⟩
          fun c o hc h => k6 c o (fun z => hc (by simp [z])) (fun z => hc (by simp [z])) (fun z => hc (by simp [z])) h
    · rintro s1 Q1 E1 ⟨t, p, q, r⟩ go
      have fin : xs[min xs.size ys.size]? = none ∨ ys[min xs.size ys.size]? = none := by
        by_cases h : xs.size ≤ ys.size
        · exact .inl (Array.getElem?_eq_none (by omega))
        · exact .inr (Array.getElem?_eq_none (by omega))
      unfold pyNext
      rcases r with ⟨x, m, n, y⟩ | ⟨T, g, oT, x, y, n1, n2, n3, n4⟩
      · have ty : s1.TypeIs (.ref z) "zip" := ⟨_, x, rfl⟩
        refine wpAny_bind (wpAny_attempt (wpAny_callSpecial?_slot (name := Str.ofString "__next__") ty F.slot_zip_next (wpAny_call_entry F.slot_zip_next ty F.entry_zip_next (free_end (A := A.in1) hA D ne1 ne2 d1 d2 x t y p q fin fun h' e k he => ?_) (F.args_zip_next_1 _))))
        obtain ⟨o, g1, g2⟩ := he
        exact wpAny_bind (wpAny_isInstance (T := "StopIteration") (b := true) ⟨o, g1, g2⟩ isSubtype_stop (wpAny_pure (go _ s1.toks fun c o hc h => k c o (fun z => hc (by simp [z])) (fun z => hc (by simp [z])) (fun z => hc (by simp [z])) (fun z => hc (by simp [z])) h)))
      · have ty : s1.TypeIs (.ref z) "zip" := ⟨_, x, rfl⟩
        refine wpAny_bind (wpAny_attempt (wpAny_callSpecial?_slot (name := Str.ofString "__next__") ty F.slot_zip_next (wpAny_call_entry F.slot_zip_next ty F.entry_zip_next (held_end (A := A.in1) hA D d1 d2 x y t p q fin fun h' e k he => ?_) (F.args_zip_next_1 _))))
        obtain ⟨o, g1, g2⟩ := he
        exact wpAny_bind (wpAny_isInstance (T := "StopIteration") (b := true) ⟨o, g1, g2⟩ isSubtype_stop (wpAny_pure (go _ s1.toks fun c o hc h => k c o (fun z => hc (by simp [z])) (fun z => hc (by simp [z])) (fun z => hc (by simp [z])) h)))
end DL
/-! dict(zip(xs, ys)) -/
namespace DL
open PySem PySem.Spec PyProof.Rows L2 RZ
theorem apart_nat {a b n : Nat} (h1 : a < n) (h2 : b < n) : ZipApart (n + 4) (n + 2) (n + 3) n (n + 1) a b := by
  constructor <;> (show @Ne Nat _ _; omega)
section
variable {prog : Program} {w : World} {A : Around} {E : Value → Shared → Prop} {s : Shared} {l1 l2 : Addr} {us vs : Array Value} {o1 o2 : Obj} {H1 H2 : Heap → Prop} {S1 S2 : Addr → Nat → Heap → Prop} {ks : List Key}
theorem dict_zip0 (B1 : Begins (.ref l1) o1 H1) (B2 : Begins (.ref l2) o2 H2) (h1 : H1 s.heap) (h2 : H2 s.heap) (lt1 : l1 < s.heap.objs.size) (lt2 : l2 < s.heap.objs.size)
    (d1 : ∀ I, l1 ≠ I → Draw prog w I l1 us (S1 I)) (d2 : ∀ I, l2 ≠ I → Draw prog w I l2 vs (S2 I))
    (m1 : ∀ I h', h'.get? I = some o1 → (∀ c o, s.heap.get? c = some o → h'.get? c = some o) → S1 I 0 h') (m2 : ∀ I h', h'.get? I = some o2 → (∀ c o, s.heap.get? c = some o → h'.get? c = some o) → S2 I 0 h')
    (free : A.handled = none) (n : us.size = vs.size) (hk : Vals (ks.map kV) us.toList) (nd : ks.Nodup) (small : us.size ≤ sizeLine) {Q : Value → Shared → Prop}
    (q : ∀ h' tk d, s.heap.objs.size ≤ d → h'.DictOf (mixKind prog w) d (ks.zip vs.toList) → (∀ b o, s.heap.get? b = some o → h'.get? b = some o) → Q (.ref d) { s with heap := h', toks := tk }) :
    wpAny (model prog w) A (call (.type "zip") [.ref l1, .ref l2]) (fun z s1 => wpAny (model prog w) A (call (.type "dict") [z]) Q E s1) E s := by
  refine zip_begins2 B1 B2 h1 h2 fun h' a b c e1 e2 sz keep => ?_
  have kl : ks.length = us.size := by
    have z := hk.length
    rwa [List.length_map, Array.length_toList] at z
  have D : ZipApart (s.heap.objs.size + 4) (s.heap.objs.size + 2) (s.heap.objs.size + 3) s.heap.objs.size (s.heap.objs.size + 1) l1 l2 := apart_nat lt1 lt2
  have b1 : @LT.lt Nat _ l1 s.heap.objs.size := lt1
  have b2 : @LT.lt Nat _ l2 s.heap.objs.size := lt2
  have f1 : l1 ≠ s.heap.objs.size + 3 := Nat.ne_of_lt (by omega)
  have f2 : l2 ≠ s.heap.objs.size + 3 := Nat.ne_of_lt (by omega)
  have f3 : l1 ≠ s.heap.objs.size := Nat.ne_of_lt b1
  have f4 : l2 ≠ s.heap.objs.size + 1 := Nat.ne_of_lt (by omega)
  have P := pair_draws (prog := prog) (w := w) D f1 f2 (d1 s.heap.objs.size f3) (d2 (s.heap.objs.size + 1) f4)
  have mm : merged [] (ks.zip vs.toList) = ks.zip vs.toList := merged_nil_of_nodup _ (by
    rw [List.map_fst_zip (by rw [kl, n, Array.length_toList]; exact Nat.le_refl _)]
    exact nd)
  refine call_dict_pairs (knd := mixKind prog w) (kvs := ks.zip vs.toList) P free ⟨a, b, ⟨_, _, c⟩, m1 _ _ e1 keep, m2 _ _ e2 keep⟩ ⟨?_, fun i key v h => ?_⟩ (Nat.le_trans (Nat.min_le_left _ _) small) fun h'' tk dd k2 => ?_
  · rw [List.length_zip, kl, n, Array.length_toList]
  · obtain ⟨g1, g2⟩ := h
    obtain ⟨y, hy, ry⟩ := keys_at hk i key (by rw [Array.getElem?_toList]; exact g1)
    exact ⟨y, by rw [List.getElem?_zip_eq_some]; exact ⟨hy, by rw [Array.getElem?_toList]; exact g2⟩, kV_is ry⟩
  · rw [mm] at dd
    refine q h'' tk _ (by show @LE.le Nat _ _ h'.objs.size; rw [sz]; omega) dd fun m o h => k2 m o ?_ (keep m o h)
    have lt : @LT.lt Nat _ m s.heap.objs.size := Heap.lt_size h
    simp only [List.mem_cons, List.not_mem_nil, or_false, not_or]
    exact ⟨Nat.ne_of_lt (by omega), Nat.ne_of_lt (by omega), Nat.ne_of_lt lt, Nat.ne_of_lt (by omega)⟩
theorem dict_zip (g1 : Sq s.heap l1 us) (g2 : Sq s.heap l2 vs) (free : A.handled = none) (n : us.size = vs.size) (hk : Vals (ks.map kV) us.toList) (nd : ks.Nodup) (small : us.size ≤ sizeLine) {Q : Value → Shared → Prop}
    (q : ∀ h' tk d, s.heap.objs.size ≤ d → h'.DictOf (mixKind prog w) d (ks.zip vs.toList) → (∀ b o, s.heap.get? b = some o → h'.get? b = some o) → Q (.ref d) { s with heap := h', toks := tk }) :
    wpAny (model prog w) A (call (.type "zip") [.ref l1, .ref l2]) (fun z s1 => wpAny (model prog w) A (call (.type "dict") [z]) Q E s1) E s := by
  have a1 : l1 < s.heap.objs.size := by rcases g1 with ⟨o, e, _⟩ | ⟨o, e, _⟩ <;> exact Heap.lt_size e
  have a2 : l2 < s.heap.objs.size := by rcases g2 with ⟨o, e, _⟩ | ⟨o, e, _⟩ <;> exact Heap.lt_size e
  rcases g1 with g1 | g1 <;> rcases g2 with g2 | g2
  · exact dict_zip0 (begins_list l1 us) (begins_list l2 vs) g1 g2 a1 a2 (fun I h => draw_list h) (fun I h => draw_list h) (fun I h' e k => ⟨⟨_, e, rfl, rfl⟩, g1.at fun o => k _ o⟩) (fun I h' e k => ⟨⟨_, e, rfl, rfl⟩, g2.at fun o => k _ o⟩) free n hk nd small q
  · exact dict_zip0 (begins_list l1 us) (begins_tuple l2 vs) g1 g2 a1 a2 (fun I h => draw_list h) (fun I h => draw_tup h) (fun I h' e k => ⟨⟨_, e, rfl, rfl⟩, g1.at fun o => k _ o⟩) (fun I h' e k => ⟨⟨_, e, rfl, rfl⟩, g2.at fun o => k _ o⟩) free n hk nd small q
  · exact dict_zip0 (begins_tuple l1 us) (begins_list l2 vs) g1 g2 a1 a2 (fun I h => draw_tup h) (fun I h => draw_list h) (fun I h' e k => ⟨⟨_, e, rfl, rfl⟩, g1.at fun o => k _ o⟩) (fun I h' e k => ⟨⟨_, e, rfl, rfl⟩, g2.at fun o => k _ o⟩) free n hk nd small q
  · exact dict_zip0 (begins_tuple l1 us) (begins_tuple l2 vs) g1 g2 a1 a2 (fun I h => draw_tup h) (fun I h => draw_tup h) (fun I h' e k => ⟨⟨_, e, rfl, rfl⟩, g1.at fun o => k _ o⟩) (fun I h' e k => ⟨⟨_, e, rfl, rfl⟩, g2.at fun o => k _ o⟩) free n hk nd small q
end
end DL
namespace DL
open PySem PySem.Spec PyProof.Rows L2 RZ
theorem kv_zip : ∀ (ks : List Key) {ys : List V} {us : List Value}, Vals ys us → KV (ks.zip ys) (ks.zip us)
  | [], _, _, _ => by rw [List.zip_nil_left, List.zip_nil_left]; exact .nil
  | k :: ks, _, _, .nil => by rw [List.zip_nil_right, List.zip_nil_right]; exact .nil
  | k :: ks, _, _, .cons r t => by
    rw [List.zip_cons_cons, List.zip_cons_cons]
    exact .cons ⟨rfl, r⟩ (kv_zip ks t)
def dzipK (Q : KN) (es : List D) (M : Mem) : Prop := match es with
  | [d, e] => optK (seqOf M d) fun xs => optK (seqOf M e) fun ys => optK (keysD xs) fun ks => ks.Nodup ∧ xs.length = ys.length ∧ xs.length ≤ sizeLine ∧ Q (.dct ks ys) M
  | _ => False
/-- dict(zip(a, b)), a dict that nobody changes -/
def wDzip (wa : WA) : WE := fun ds M Q Xc => wa ds M (dzipK Q) Xc
section
variable {X : Cx} {W : WX} {a b : Expr} {wa : WA} {p p2 q pos : Pos}
theorem j_dzip (hc : X.calm = true) (hm : X.mg "dict" = none) (hm2 : X.mg "zip" = none) (ha : JA X W [a, b] wa) (hg : Gl X "dict" := by rfl) (hg2 : Gl X "zip" := by rfl)
    (hs : starEach [a, b] X.env = (false, eval a X.env) :: starEach [b] X.env := by rfl) (hpl : (backTo q (starEach [b] X.env)).any (·.1) = false := by rfl) :
    JE X W (.Call (.Name "dict" p) [.Call (.Name "zip" p2) [a, b] [] q] [] pos) (wDzip wa) := by
  refine ⟨fun pins s σ H Q I h => ?_⟩
  refine Call_ (ld_blt I hg hm boot_dict ?_)
  refine PyProof.Rows.callWith_type1 (PyProof.Rows.args_cons ?_ rfl) rfl rfl
  refine Call_ (ld_blt I hg2 hm2 PyProof.Rows.boot_zip ?_)
  have hh := bindA (R := fun vs H1 => ∃ (l1 l2 : Addr) (ks xs : List Key) (ys : List V), vs = [V.ref l1, V.ref l2] ∧ (SqL X.K H1 l1 (ks.map kV) ∨ SqT X.K H1 l1 (ks.map kV)) ∧ (SqL X.K H1 l2 ys ∨ SqT X.K H1 l2 ys) ∧ ks.Nodup ∧ ks.length = ys.length ∧ ks.length ≤ sizeLine ∧ xs = ks ∧ ∀ d, H1 d = none → Q (.ref d) (upd H1 d (.dK (ks.zip ys)))) (wa := wa) (f := fun es _ M Q _ => dzipK Q es M) h fun vs es H1 h => by
    obtain ⟨ds, M, F, Qd, Xd, hs, hv, hw, l1, l2⟩ := h
    rw [List.append_nil, List.append_nil] at hv
    unfold dzipK at hw
    split at hw
    · rename_i d e
      obtain ⟨x, y, e1, g1, g2⟩ := dv2 hv
      subst e1
      obtain ⟨xs, q1, hw⟩ := optK_of hw
      obtain ⟨ys, q2, hw⟩ := optK_of hw
      obtain ⟨ks, q3, nd, n, small, q⟩ := optK_of hw
      obtain ⟨a1, zs, e2, s1, r1⟩ := seqOf_ok hs.1 q1 g1
      obtain ⟨a2, ws, e3, s2, r2⟩ := seqOf_ok hs.1 q2 g2
      have e4 := keysD_ok q3 r1
      subst e2
      subst e3
      subst e4
      have kl : ks.length = xs.length := by
        have z := r1.len
        rwa [List.length_map] at z
      have wl := r2.len
      refine ⟨a1, a2, ks, ks, ws, rfl, s1, s2, nd, by omega, by omega, rfl, fun d hd => ?_⟩
      have ex := new_ext hs.1.rel (o := HO.dK (ks.zip ws)) hd
      refine l1 (.ref d) _ (.dct ks ys) M ex (hs.1.new hd) ⟨d, ks.zip ws, rfl, .inl upd_same, hs.1.rel.free hd, List.map_fst_zip (by omega), ?_⟩ q
      rw [List.map_snd_zip (by omega)]
      exact DVs.ext hs.1.rel ex _ _ r2
    · exact hw.elim
  refine PyProof.Rows.callWith_type1 (thn (ha.run q pins s σ H _ I hh) fun us s1 ⟨vs, H1, I1, r1, q1⟩ => ?_) hs hpl
  obtain ⟨l1, l2, ks, xs, ys, e1, g1, g2, nd, n, small, e2, fin⟩ := q1
  subst e1
  obtain ⟨u1, u2, e3, t1, t2⟩ := vals2 r1
  subst e3
  cases t1
  cases t2
  have sq : ∀ (l : Addr) (zs : List V), (SqL X.K H1 l zs ∨ SqT X.K H1 l zs) → ∃ its : List Value, Vals zs its ∧ Sq s1.heap l its.toArray := fun l zs h => by
    rcases h with h | h
    · obtain ⟨its, r, at_, _⟩ := I1.list h
      exact ⟨its, r, .inl at_.isList⟩
    · obtain ⟨its, r, at_, _⟩ := I1.tuple h
      exact ⟨its, r, .inr at_⟩
  obtain ⟨i1, r1, s1'⟩ := sq l1 _ g1
  obtain ⟨i2, r2, s2'⟩ := sq l2 _ g2
  have n1 := r1.length
  have n2 := r2.length
  rw [List.length_map] at n1
  refine wpAny_mono (dict_zip (E := X.xe) (Q := fun v s2 => EP X pins σ Q v s2) s1' s2' (I1.ok.hd hc) (by simp; omega) (by simpa using r1) nd (by simp; omega) fun h' tk d le dd keep => ?_) (fun z s2 hz => PyProof.Rows.args_nil hz) fun _ _ h => h
  have big : (d == sysModules) = false := beq_eq_false_iff_ne.mpr (Nat.ne_of_gt (Nat.lt_of_lt_of_le I1.big le))
  exact ⟨.ref d, upd H1 d (.dK (ks.zip ys)), I1.laid (t' := tk) keep le (show ObjOk X.prog X.w _ _ _ (.dK (ks.zip ys)) from ⟨by rw [List.length_zip]; omega, big, ks.zip i2, kv_zip ks r2, by simpa using dd⟩), rfl, fin d (I1.hok.fresh le)⟩
end
def dzipKO (Q : KN) (es : List D) (M : Mem) : Prop := match es with
  | [d, e] => optK (seqOf M d) fun xs => optK (seqOf M e) fun ys => optK (keysD xs) fun ks => ks.Nodup ∧ xs.length = ys.length ∧ xs.length ≤ sizeLine ∧ ∀ a, M a = none → Q (.ref a) (mput M a (.dct ks ys))
  | _ => False
/-- dict(zip(a, b)), an owned dict -/
def wDzipO (wa : WA) : WE := fun ds M Q Xc => wa ds M (dzipKO Q) Xc
section
variable {X : Cx} {W : WX} {a b : Expr} {wa : WA} {p p2 q pos : Pos}
theorem j_dzipO (hc : X.calm = true) (hm : X.mg "dict" = none) (hm2 : X.mg "zip" = none) (ha : JA X W [a, b] wa) (hg : Gl X "dict" := by rfl) (hg2 : Gl X "zip" := by rfl)
    (hs : starEach [a, b] X.env = (false, eval a X.env) :: starEach [b] X.env := by rfl) (hpl : (backTo q (starEach [b] X.env)).any (·.1) = false := by rfl) :
    JE X W (.Call (.Name "dict" p) [.Call (.Name "zip" p2) [a, b] [] q] [] pos) (wDzipO wa) := by
  refine ⟨fun pins s σ H Q I h => ?_⟩
  refine Call_ (ld_blt I hg hm boot_dict ?_)
  refine PyProof.Rows.callWith_type1 (PyProof.Rows.args_cons ?_ rfl) rfl rfl
  refine Call_ (ld_blt I hg2 hm2 PyProof.Rows.boot_zip ?_)
  have hh := bindA (R := fun vs H1 => ∃ (l1 l2 : Addr) (ks xs : List Key) (ys : List V), vs = [V.ref l1, V.ref l2] ∧ (SqL X.K H1 l1 (ks.map kV) ∨ SqT X.K H1 l1 (ks.map kV)) ∧ (SqL X.K H1 l2 ys ∨ SqT X.K H1 l2 ys) ∧ ks.Nodup ∧ ks.length = ys.length ∧ ks.length ≤ sizeLine ∧ xs = ks ∧ ∀ d, H1 d = none → Q (.ref d) (upd H1 d (.dK (ks.zip ys)))) (wa := wa) (f := fun es _ M Q _ => dzipKO Q es M) h fun vs es H1 h => by
    obtain ⟨ds, M, F, Qd, Xd, hs, hv, hw, l1, l2⟩ := h
    rw [List.append_nil, List.append_nil] at hv
    unfold dzipKO at hw
    split at hw
    · rename_i d e
      obtain ⟨x, y, e1, g1, g2⟩ := dv2 hv
      subst e1
      obtain ⟨xs, q1, hw⟩ := optK_of hw
      obtain ⟨ys, q2, hw⟩ := optK_of hw
      obtain ⟨ks, q3, nd, n, small, q⟩ := optK_of hw
      obtain ⟨a1, zs, e2, s1, r1⟩ := seqOf_ok hs.1 q1 g1
      obtain ⟨a2, ws, e3, s2, r2⟩ := seqOf_ok hs.1 q2 g2
      have e4 := keysD_ok q3 r1
      subst e2
      subst e3
      subst e4
      have kl : ks.length = xs.length := by
        have z := r1.len
        rwa [List.length_map] at z
      have wl := r2.len
      refine ⟨a1, a2, ks, ks, ws, rfl, s1, s2, nd, by omega, by omega, rfl, fun d hd => ?_⟩
      have ex := hs.1.xown (o := HO.dK (ks.zip ws)) (u := .dct ks ys) hd
      refine l1 (.ref d) _ (.ref d) _ ex (hs.1.own hd ⟨ks.zip ws, upd_same, List.map_fst_zip (by omega), ?_⟩) rfl (q d (hs.1.mfree hd))
      rw [List.map_snd_zip (by omega)]
      exact DVs.ext hs.1.rel ex _ _ r2
    · exact hw.elim
  refine PyProof.Rows.callWith_type1 (thn (ha.run q pins s σ H _ I hh) fun us s1 ⟨vs, H1, I1, r1, q1⟩ => ?_) hs hpl
  obtain ⟨l1, l2, ks, xs, ys, e1, g1, g2, nd, n, small, e2, fin⟩ := q1
  subst e1
  obtain ⟨u1, u2, e3, t1, t2⟩ := vals2 r1
  subst e3
  cases t1
  cases t2
  have sq : ∀ (l : Addr) (zs : List V), (SqL X.K H1 l zs ∨ SqT X.K H1 l zs) → ∃ its : List Value, Vals zs its ∧ Sq s1.heap l its.toArray := fun l zs h => by
    rcases h with h | h
    · obtain ⟨its, r, at_, _⟩ := I1.list h
      exact ⟨its, r, .inl at_.isList⟩
    · obtain ⟨its, r, at_, _⟩ := I1.tuple h
      exact ⟨its, r, .inr at_⟩
  obtain ⟨i1, r1, s1'⟩ := sq l1 _ g1
  obtain ⟨i2, r2, s2'⟩ := sq l2 _ g2
  have n1 := r1.length
  have n2 := r2.length
  rw [List.length_map] at n1
  refine wpAny_mono (dict_zip (E := X.xe) (Q := fun v s2 => EP X pins σ Q v s2) s1' s2' (I1.ok.hd hc) (by simp; omega) (by simpa using r1) nd (by simp; omega) fun h' tk d le dd keep => ?_) (fun z s2 hz => PyProof.Rows.args_nil hz) fun _ _ h => h
  have big : (d == sysModules) = false := beq_eq_false_iff_ne.mpr (Nat.ne_of_gt (Nat.lt_of_lt_of_le I1.big le))
  exact ⟨.ref d, upd H1 d (.dK (ks.zip ys)), I1.laid (t' := tk) keep le (show ObjOk X.prog X.w _ _ _ (.dK (ks.zip ys)) from ⟨by rw [List.length_zip]; omega, big, ks.zip i2, kv_zip ks r2, by simpa using dd⟩), rfl, fin d (I1.hok.fresh le)⟩
end
end DL
/-! a tuple times a number: at 1 the very tuple, beyond it a new one -/
namespace DL
open PySem PySem.Spec PyProof.Rows L2 RZ
theorem tuple_one (l : Addr) (items : Array Value) (n : Nat) (dd : Option Addr) (sl : Array (Option Value)) (u : Tok) :
    Meets (Builtin.«tuple.__mul__» ⟨[.ref l, .int 1 u], []⟩) (fun _ R s => s.heap.get? l = some { cls := .type "tuple", dict := dd, data := .seq items n, slots := sl } ∧
      R (.ok (.ret (Value.ref l))) s) :=
  .of_wp fun prog w A R s h => by
    obtain ⟨hp, g, d, tk, os⟩ := s
    obtain ⟨hl, h⟩ := h
    have f1 := AutoSeq1.idx_int
    have c0 : (decide ((1 : Int) < -(2 ^ 63)) || decide ((1 : Int) ≥ 2 ^ 63)) = false := by decide +kernel
    have c1 : (items.isEmpty || (1 : Int) == 1) = true := by simp
    wp_walk using wpAny_loadPart' hl
    repeat (first
      | (refine wpAny_ite_false (decide_eq_false (by rw [c0]; exact Bool.false_ne_true)) ?_; wp_walk using wpAny_loadPart' hl)
      | (refine wpAny_ite_true (decide_eq_true (by rw [c1])) ?_; wp_walk using wpAny_loadPart' hl))
    exact ⟨_, rfl, h⟩
def rRepTD : RD2 := fun d e M Q => match d, e with
  | .tup xs, .int k => xs ≠ [] ∧ 1 ≤ k ∧ k ≤ 1000 ∧ xs.length ≤ 1000 ∧ Q (.tup (List.replicate k.toNat xs).flatten) M
  | _, _ => False
section
variable {X : Cx}
theorem op_rep1 : OpR X (binaryOp .Mult) (fun x y H Q => ∃ l xs, x = .ref l ∧ y = .int 1 ∧ SqT X.K H l xs ∧ Q (.ref l) H) := by
  intro pins s σ H x y v u Q I rx ry h
  obtain ⟨l, xs, rfl, rfl, hT, q⟩ := h
  cases rx
  obtain ⟨t, rfl⟩ := ry
  obtain ⟨its, r, ⟨⟨cls, dd, data, sl⟩, ho, hc, n, hd⟩, hs⟩ := I.tuple hT
  simp only at hc hd
  subst hc hd
  refine wpAny_binaryOp_repeat_ref (T := "tuple") (U := "int") (by decide) ⟨_, ho, rfl⟩ (fun s' => typeIs_int s' 1 t) noFill_tuple_mul F.fills_int_mul F.slot_int_rmul repeat_tuple F.slot_int_index.lookup
    (call_meets F.slot_int_rmul (typeIs_int s 1 t) F.entry_int_rmul (F.args_int_rmul_2 _ _) (int_rmul_tuple 1 t l its.toArray n dd sl)
      ⟨ho, rfl, ⟨_, ho, rfl⟩, call_meets F.slot_tuple_mul ⟨_, ho, rfl⟩ F.entry_tuple_mul (F.args_tuple_mul_2 _ _) (tuple_one l its.toArray n dd sl t) ⟨ho, ?_⟩⟩)
  exact ⟨.ref l, H, I, rfl, q⟩
theorem od_repT : OpR X (binaryOp .Mult) (liftV2 X.K rRepTD) := by
  intro pins s σ H x y v u Q I rx ry hh
  obtain ⟨d, e, M, F, Qd, R, h1, h2, h3, l⟩ := hh
  unfold rRepTD at h3
  split at h3
  · rename_i xs k
    obtain ⟨a, ys, e1, g1, g2⟩ := h1
    subst e1
    cases (show y = .int k from h2)
    obtain ⟨hne, k1, k2, k3, q⟩ := h3
    by_cases hk : k = 1
    · subst hk
      have e : (List.replicate (1 : Int).toNat xs).flatten = xs := by simp
      rw [e] at q
      exact op_rep1 pins s σ H _ _ v u Q I rx ry ⟨a, ys, rfl, rfl, g1, l _ H (.tup xs) M Ext.rfl' R ⟨a, ys, rfl, g1, g2⟩ q⟩
    · refine op_repT pins s σ H _ _ v u Q I rx ry ⟨a, k, ys, rfl, rfl, g1, fun z => hne (List.eq_nil_of_length_eq_zero (by rw [← g2.len, z]; rfl)), by omega, k2, by rw [g2.len]; exact k3, fun p hp => ?_⟩
      have e' := new_ext R.rel (o := HO.tup (List.replicate k.toNat ys).flatten) hp
      exact l _ _ (.tup (List.replicate k.toNat xs).flatten) M e' (R.new hp) ⟨p, _, rfl, .inl (.inl upd_same), DVs.ext R.rel e' _ _ (g2.rep _)⟩ q
  · exact h3.elim
end
end DL
/-! further steps by constructor -/
namespace DL
open PySem PySem.Spec PyProof.Rows L2 RZ
theorem pChain {r r' : RD2} {wa wb wc : WE} {ds : SD} {M : Mem} {Q : KN} {X : KX} : (wChain r r' wa wb wc ds M Q X) = (wa ds M (fun x M1 => wb ds M1 (fun y M2 => r x y M2 fun z M3 => isBl z fun k => if k = true then wc ds M3 (fun w M4 => r' y w M4 fun z2 M5 => isBl z2 fun k2 => Q (.bl k2) M5) X else Q (.bl false) M3) X) X) := propext Iff.rfl
theorem pCallK {sp : SpD} {n m : Nat} {ord : List Nat} {wa wk : WA} {ds : SD} {M : Mem} {Q : KN} {X : KX} : (wCallK sp n m ord wa wk ds M Q X) = (wa ds M (fun xs M1 => wk ds M1 (fun ys M2 => sp (gOrd n m ord xs ys) M2 Q X) X) X) := propext Iff.rfl
theorem pDzip {wa : WA} {ds : SD} {M : Mem} {Q : KN} {X : KX} : (wDzip wa ds M Q X) = (wa ds M (dzipK Q) X) := propext Iff.rfl
theorem pDzipK {d e : D} {M : Mem} {Q : KN} : (dzipK Q [d, e] M) = (optK (seqOf M d) fun xs => optK (seqOf M e) fun ys => optK (keysD xs) fun ks => ks.Nodup ∧ xs.length = ys.length ∧ xs.length ≤ sizeLine ∧ Q (.dct ks ys) M) := propext Iff.rfl
theorem pDzipO {wa : WA} {ds : SD} {M : Mem} {Q : KN} {X : KX} : (wDzipO wa ds M Q X) = (wa ds M (dzipKO Q) X) := propext Iff.rfl
theorem pDzipKO {d e : D} {M : Mem} {Q : KN} : (dzipKO Q [d, e] M) = (optK (seqOf M d) fun xs => optK (seqOf M e) fun ys => optK (keysD xs) fun ks => ks.Nodup ∧ xs.length = ys.length ∧ xs.length ≤ sizeLine ∧ ∀ a, M a = none → Q (.ref a) (mput M a (.dct ks ys))) := propext Iff.rfl
theorem rIsB_bl {neg a b : Bool} {M : Mem} {Q : KN} : (rIsBD neg (.bl a) (.bl b) M Q) = (Q (.bl (xor neg (decide (a = b)))) M) := propext Iff.rfl
theorem rDix_str {ks : List Key} {xs : List D} {x : Str} {M : Mem} {Q : KN} : (rDixD (.dct ks xs) (.str x) M Q) = (optK (valD ks xs (.inr x)) fun v => Q v M) := propext Iff.rfl
theorem rDix_int {ks : List Key} {xs : List D} {x : Int} {M : Mem} {Q : KN} : (rDixD (.dct ks xs) (.int x) M Q) = (optK (valD ks xs (.inl x)) fun v => Q v M) := propext Iff.rfl
theorem rIn_tup {neg : Bool} {d : D} {xs : List D} {M : Mem} {Q : KN} : (rInD neg d (.tup xs) M Q) = (flatD d = true ∧ xs.all flatD = true ∧ Q (.bl (xor neg (inD d xs))) M) := propext Iff.rfl
theorem rIn_lst {neg : Bool} {d : D} {xs : List D} {M : Mem} {Q : KN} : (rInD neg d (.lst xs) M Q) = (flatD d = true ∧ xs.all flatD = true ∧ Q (.bl (xor neg (inD d xs))) M) := propext Iff.rfl
theorem rEq_ns {neg : Bool} {y : Str} {M : Mem} {Q : KN} : (rEqD neg .non (.str y) M Q) = (Dat .non 60 ∧ Dat (.str y) 60 ∧ Q (.bl (xor neg (deq .non (.str y)))) M) := propext Iff.rfl
theorem rEq_sn {neg : Bool} {y : Str} {M : Mem} {Q : KN} : (rEqD neg (.str y) .non M Q) = (Dat (.str y) 60 ∧ Dat .non 60 ∧ Q (.bl (xor neg (deq (.str y) .non))) M) := propext Iff.rfl
theorem rRepT_p {xs : List D} {k : Int} {M : Mem} {Q : KN} : (rRepTD (.tup xs) (.int k) M Q) = (xs ≠ [] ∧ 1 ≤ k ∧ k ≤ 1000 ∧ xs.length ≤ 1000 ∧ Q (.tup (List.replicate k.toNat xs).flatten) M) := propext Iff.rfl
theorem rAll_f {xs : List D} {M : Mem} {Q : KN} : (rAllD false [.lst xs] M Q) = (optK (bools xs) fun bs => Q (.bl (bs.all id)) M) := propext Iff.rfl
theorem rAll_t {xs : List D} {M : Mem} {Q : KN} : (rAllD true [.lst xs] M Q) = (optK (bools xs) fun bs => Q (.bl (bs.any id)) M) := propext Iff.rfl
/-! items of a list by its head -/
theorem at_0 {x : D} {xs : List D} : atI (x :: xs) (0 : Int) = some x := (atI_nat (k := 0)).trans rfl
theorem at_1 {x y : D} {xs : List D} : atI (x :: y :: xs) (1 : Int) = some y := (atI_nat (k := 1)).trans rfl
theorem at_2 {x y z : D} {xs : List D} : atI (x :: y :: z :: xs) (2 : Int) = some z := (atI_nat (k := 2)).trans rfl
theorem at_3 {x y z w : D} {xs : List D} : atI (x :: y :: z :: w :: xs) (3 : Int) = some w := (atI_nat (k := 3)).trans rfl
theorem dl_0_0 : decide (((0 : Nat) : Int) = 0) = true := by decide
theorem dl_0_1 : decide (((0 : Nat) : Int) = 1) = false := by decide
theorem dl_0_2 : decide (((0 : Nat) : Int) = 2) = false := by decide
theorem dl_0_3 : decide (((0 : Nat) : Int) = 3) = false := by decide
theorem dl_0_4 : decide (((0 : Nat) : Int) = 4) = false := by decide
theorem dl_0_5 : decide (((0 : Nat) : Int) = 5) = false := by decide
theorem dl_1_0 : decide (((0 + 1 : Nat) : Int) = 0) = false := by decide
theorem dl_1_1 : decide (((0 + 1 : Nat) : Int) = 1) = true := by decide
theorem dl_1_2 : decide (((0 + 1 : Nat) : Int) = 2) = false := by decide
theorem dl_1_3 : decide (((0 + 1 : Nat) : Int) = 3) = false := by decide
theorem dl_1_4 : decide (((0 + 1 : Nat) : Int) = 4) = false := by decide
theorem dl_1_5 : decide (((0 + 1 : Nat) : Int) = 5) = false := by decide
theorem dl_2_0 : decide (((0 + 1 + 1 : Nat) : Int) = 0) = false := by decide
theorem dl_2_1 : decide (((0 + 1 + 1 : Nat) : Int) = 1) = false := by decide
theorem dl_2_2 : decide (((0 + 1 + 1 : Nat) : Int) = 2) = true := by decide
theorem dl_2_3 : decide (((0 + 1 + 1 : Nat) : Int) = 3) = false := by decide
theorem dl_2_4 : decide (((0 + 1 + 1 : Nat) : Int) = 4) = false := by decide
theorem dl_2_5 : decide (((0 + 1 + 1 : Nat) : Int) = 5) = false := by decide
theorem dl_3_0 : decide (((0 + 1 + 1 + 1 : Nat) : Int) = 0) = false := by decide
theorem dl_3_1 : decide (((0 + 1 + 1 + 1 : Nat) : Int) = 1) = false := by decide
theorem dl_3_2 : decide (((0 + 1 + 1 + 1 : Nat) : Int) = 2) = false := by decide
theorem dl_3_3 : decide (((0 + 1 + 1 + 1 : Nat) : Int) = 3) = true := by decide
theorem dl_3_4 : decide (((0 + 1 + 1 + 1 : Nat) : Int) = 4) = false := by decide
theorem dl_3_5 : decide (((0 + 1 + 1 + 1 : Nat) : Int) = 5) = false := by decide
theorem dl_4_0 : decide (((0 + 1 + 1 + 1 + 1 : Nat) : Int) = 0) = false := by decide
theorem dl_4_1 : decide (((0 + 1 + 1 + 1 + 1 : Nat) : Int) = 1) = false := by decide
theorem dl_4_2 : decide (((0 + 1 + 1 + 1 + 1 : Nat) : Int) = 2) = false := by decide
theorem dl_4_3 : decide (((0 + 1 + 1 + 1 + 1 : Nat) : Int) = 3) = false := by decide
theorem dl_4_4 : decide (((0 + 1 + 1 + 1 + 1 : Nat) : Int) = 4) = true := by decide
theorem dl_4_5 : decide (((0 + 1 + 1 + 1 + 1 : Nat) : Int) = 5) = false := by decide
theorem dn_1_0 {n : Nat} : decide (((n + 1 : Nat) : Int) = 0) = false := decide_eq_false (by omega)
theorem dn_2_0 {n : Nat} : decide (((n + 1 + 1 : Nat) : Int) = 0) = false := decide_eq_false (by omega)
theorem dn_2_1 {n : Nat} : decide (((n + 1 + 1 : Nat) : Int) = 1) = false := decide_eq_false (by omega)
theorem dn_3_0 {n : Nat} : decide (((n + 1 + 1 + 1 : Nat) : Int) = 0) = false := decide_eq_false (by omega)
theorem dn_3_1 {n : Nat} : decide (((n + 1 + 1 + 1 : Nat) : Int) = 1) = false := decide_eq_false (by omega)
theorem dn_3_2 {n : Nat} : decide (((n + 1 + 1 + 1 : Nat) : Int) = 2) = false := decide_eq_false (by omega)
theorem dn_4_0 {n : Nat} : decide (((n + 1 + 1 + 1 + 1 : Nat) : Int) = 0) = false := decide_eq_false (by omega)
theorem dn_4_1 {n : Nat} : decide (((n + 1 + 1 + 1 + 1 : Nat) : Int) = 1) = false := decide_eq_false (by omega)
theorem dn_4_2 {n : Nat} : decide (((n + 1 + 1 + 1 + 1 : Nat) : Int) = 2) = false := decide_eq_false (by omega)
theorem dn_4_3 {n : Nat} : decide (((n + 1 + 1 + 1 + 1 : Nat) : Int) = 3) = false := decide_eq_false (by omega)
end DL
/-! loops and comprehensions by their turn's number -/
namespace DL
open PySem PySem.Spec PyProof.Rows L2 RZ
theorem rngD_at {lo : Int} {n k : Nat} (h : k < n) : (rngD lo n)[k]? = some (.int (lo + (k : Nat))) := by
  unfold rngD
  rw [List.getElem?_map, List.getElem?_range h]
  rfl
theorem forR_at {g : GD} {wb : WS} {E : ED} (xs : List D) (I : Nat → SD → Mem → Prop) (hn : ∀ ds M, I xs.length ds M → E.nx ds M)
    (hs : ∀ k d, xs[k]? = some d → ∀ ds M (R : SD → Mem → Prop), (∀ ds' M', I (k + 1) ds' M' → R ds' M') → I k ds M → g d ds fun ds2 => wb { E with nx := R, ct := R, bk := E.nx } ds2 M)
    {ds : SD} {M : Mem} (h : I 0 ds M) : forR g wb E xs ds M := by
  refine forR_ind (fun items ds M => ∃ k, k + items.length = xs.length ∧ items = xs.drop k ∧ I k ds M) ?_ ?_ xs ds M ⟨0, by omega, rfl, h⟩
  · rintro ds M ⟨k, h1, h2, h3⟩
    rw [List.length_nil, Nat.add_zero] at h1
    subst h1
    exact hn _ _ h3
  · rintro d items ds M R hR ⟨k, h1, h2, h3⟩
    rw [List.length_cons] at h1
    have e : xs[k]? = some d := by
      have := congrArg (fun l => l[0]?) h2
      rw [List.getElem?_drop] at this
      simpa using this.symm
    refine hs k d e ds M R (fun ds' M' q => hR _ _ ⟨k + 1, by omega, ?_, q⟩) h3
    have := congrArg List.tail h2
    rw [List.tail_cons, List.tail_drop] at this
    exact this
theorem forR_rng {g : GD} {wb : WS} {E : ED} {lo : Int} {n : Nat} (I : Nat → SD → Mem → Prop) (hn : ∀ ds M, I n ds M → E.nx ds M)
    (hs : ∀ k, k < n → ∀ ds M (R : SD → Mem → Prop), (∀ ds' M', I (k + 1) ds' M' → R ds' M') → I k ds M → g (.int (lo + (k : Nat))) ds fun ds2 => wb { E with nx := R, ct := R, bk := E.nx } ds2 M)
    {ds : SD} {M : Mem} (h : I 0 ds M) : forR g wb E (rngD lo n) ds M :=
  forR_at _ I (by rw [rngD_len]; exact hn) (fun k d e ds M R hR hI => by
    have hk : k < n := by
      have := (List.getElem?_eq_some_iff.mp e).1
      rwa [rngD_len] at this
    rw [rngD_at hk] at e
    cases e
    exact hs k hk ds M R hR hI) h
theorem lcR_at {g : GD} {tt : WT} {te : WE} {ds : SD} {k : List D → Mem → Prop} (xs : List D) (I : Nat → List D → Mem → Prop) (hn : ∀ acc M, I xs.length acc M → k acc M)
    (hs : ∀ j d, xs[j]? = some d → ∀ acc M (R : List D → Mem → Prop), (∀ acc' M', I (j + 1) acc' M' → R acc' M') → I j acc M →
      g d ds fun ds2 => tt ds2 M (fun b M1 => if b = true then te ds2 M1 (fun y M2 => acc.length < sizeLine ∧ R (acc ++ [y]) M2) XF else R acc M1) XF)
    {M : Mem} (h : I 0 [] M) : lcR g tt te ds xs [] M k := by
  refine lcR_ind (fun items acc M => ∃ j, j + items.length = xs.length ∧ items = xs.drop j ∧ I j acc M) ?_ ?_ xs [] M ⟨0, by omega, rfl, h⟩
  · rintro acc M ⟨j, h1, h2, h3⟩
    rw [List.length_nil, Nat.add_zero] at h1
    subst h1
    exact hn _ _ h3
  · rintro d items acc M R hR ⟨j, h1, h2, h3⟩
    rw [List.length_cons] at h1
    have e : xs[j]? = some d := by
      have := congrArg (fun l => l[0]?) h2
      rw [List.getElem?_drop] at this
      simpa using this.symm
    refine hs j d e acc M R (fun acc' M' q => hR _ _ ⟨j + 1, by omega, ?_, q⟩) h3
    have := congrArg List.tail h2
    rw [List.tail_cons, List.tail_drop] at this
    exact this
theorem lcR_rng {g : GD} {tt : WT} {te : WE} {ds : SD} {k : List D → Mem → Prop} {lo : Int} {n : Nat} (I : Nat → List D → Mem → Prop) (hn : ∀ acc M, I n acc M → k acc M)
    (hs : ∀ j, j < n → ∀ acc M (R : List D → Mem → Prop), (∀ acc' M', I (j + 1) acc' M' → R acc' M') → I j acc M →
      g (.int (lo + (j : Nat))) ds fun ds2 => tt ds2 M (fun b M1 => if b = true then te ds2 M1 (fun y M2 => acc.length < sizeLine ∧ R (acc ++ [y]) M2) XF else R acc M1) XF)
    {M : Mem} (h : I 0 [] M) : lcR g tt te ds (rngD lo n) [] M k :=
  lcR_at _ I (by rw [rngD_len]; exact hn) (fun j d e acc M R hR hI => by
    have hj : j < n := by
      have := (List.getElem?_eq_some_iff.mp e).1
      rwa [rngD_len] at this
    rw [rngD_at hj] at e
    cases e
    exact hs j hj acc M R hR hI) h
theorem cut_to {α : Type} {xs : List α} {k : Nat} (h : k ≤ xs.length) : cutL xs none (some (k : Int)) = xs.take k := by
  unfold cutL
  rw [HT.sIx_none, HT.sIx_nat, Nat.min_eq_left h, List.drop_zero, Nat.sub_zero]
theorem cut_from {α : Type} {xs : List α} {k : Nat} (h : k ≤ xs.length) : cutL xs (some (k : Int)) none = xs.drop k := by
  unfold cutL
  rw [HT.sIx_none, HT.sIx_nat, Nat.min_eq_left h, List.take_of_length_le]
  rw [List.length_drop]
  exact Nat.le_refl _
theorem cut_1 {x : D} {xs : List D} : cutL (x :: xs) (some 1) none = xs := cut_from (k := 1) (xs := x :: xs) (by simp)
theorem cut_2 {x y : D} {xs : List D} : cutL (x :: y :: xs) (some 2) none = xs := cut_from (k := 2) (xs := x :: y :: xs) (by simp)
/-- a if t else b as a test -/
def wIfT (c t u : WT) : WT := fun ds M Q Xc => c ds M (fun b M1 => if b = true then t ds M1 Q Xc else u ds M1 Q Xc) Xc
theorem pIfT {c t u : WT} {ds : SD} {M : Mem} {Q : Bool → Mem → Prop} {X : KX} : (wIfT c t u ds M Q X) = (c ds M (fun b M1 => if b = true then t ds M1 Q X else u ds M1 Q X) X) := propext Iff.rfl
theorem jt_if {X : Cx} {W : WX} {c a b : Expr} {pos : Pos} {wc wa wb : WT} (hc : JT X W c wc) (ha : JT X W a wa) (hb : JT X W b wb) : JT X W (.IfExp c a b pos) (wIfT wc wa wb) := by
  refine ⟨fun pins s σ H Q I h => isTrue_IfExp (thn (hc.run pins s σ H (fun k H1 => if k = true then liftT X.K W wa σ H1 Q else liftT X.K W wb σ H1 Q) I
    (bindT (wa := wc) (f := fun b ds M Q Xc => if b = true then wa ds M Q Xc else wb ds M Q Xc) h fun k H1 h => ?_)) fun k s1 ⟨H1, I1, q1⟩ => ?_)⟩
  · obtain ⟨ds, M, F, Qd, Xd, hs, hv, hw, l1, l2⟩ := h
    cases k with
    | true =>
      rw [if_pos rfl]
      exact ⟨ds, M, F, Qd, Xd, hs, rfl, DL.ite_tt hw, l1, l2⟩
    | false =>
      rw [if_neg Bool.false_ne_true]
      exact ⟨ds, M, F, Qd, Xd, hs, rfl, DL.ite_ff hw, l1, l2⟩
  · cases k with
    | true => exact ha.run pins s1 σ H1 Q I1 q1
    | false => exact hb.run pins s1 σ H1 Q I1 q1
/-- a comprehension of values that change nothing, with a test -/
theorem lcR_filt {α : Type} {g : GD} {tt : WT} {te : WE} {ds : SD} {k : List D → Mem → Prop} {M : Mem} (h f : α → D) (p : α → Bool) (P : α → Prop)
    (hs : ∀ a (acc : List D) (R : List D → Mem → Prop), P a → (if p a = true then acc.length < sizeLine ∧ R (acc ++ [f a]) M else R acc M) →
      g (h a) ds fun ds2 => tt ds2 M (fun b M1 => if b = true then te ds2 M1 (fun y M2 => acc.length < sizeLine ∧ R (acc ++ [y]) M2) XF else R acc M1) XF) :
    ∀ (L : List α) (acc : List D), (∀ a ∈ L, P a) → acc.length + L.length < sizeLine → k (acc ++ (L.filter p).map f) M → lcR g tt te ds (L.map h) acc M k
  | [], acc, _, _, q => by
    rw [List.filter_nil, List.map_nil, List.append_nil] at q
    exact q
  | a :: L, acc, hp, hl, q => by
    rw [List.length_cons] at hl
    refine hs a acc (fun acc' M' => lcR g tt te ds (L.map h) acc' M' k) (hp a List.mem_cons_self) ?_
    by_cases e : p a = true
    · rw [if_pos e]
      refine ⟨by omega, lcR_filt h f p P hs L _ (fun b hb => hp b (List.mem_cons_of_mem _ hb)) (by rw [List.length_append, List.length_singleton]; omega) ?_⟩
      rw [List.filter_cons, if_pos e, List.map_cons] at q
      rw [List.append_assoc]
      exact q
    · rw [if_neg e]
      refine lcR_filt h f p P hs L _ (fun b hb => hp b (List.mem_cons_of_mem _ hb)) (by omega) ?_
      rw [List.filter_cons, if_neg e] at q
      exact q
end DL
/-! a def that is called with keywords -/
namespace DL
open PySem PySem.Spec PyProof.Rows L2 RZ
theorem FnOk.mkD {P : Program} {w : World} {K : PySem.W.Frag} {mg : Str → Option Value} {base : Heap} {k : Nat} {x qual : Str} {st : Stmt} {f : Addr} {fd : FuncData} {N ps : List Str} {sp : SpD} {wb : WS}
    (F : Fun K x qual st f fd) (S : FnScope N ps (defScope st))
    (body : ∀ (cdv : Value) (A : Around) (outer : List Env) (s : Shared) (H : Hp) (E : XK), Room k (A.deeper (envOfC qual (defScope st) s.heap.objs.size f cdv)) →
      Takes (cxOf (L2.CX P w) P w K mg base N qual (defScope st) f cdv A outer s H E) (WD E) →
      JSs (cxOf (L2.CX P w) P w K mg base N qual (defScope st) f cdv A outer s H E) (WD E) (defBody st) wb)
    (h : ∀ ds M Q Xc, sp ds M Q Xc → ds.length = ps.length ∧ wb { nx := fun _ M => Fin Q .non M, rt := Fin Q, ex := fun x _ M => Xc x M } (startD N ds) M) : FnOk P w K mg base (L2.CX P w) (k + 1) f fd ps (liftSp K sp) := by
  refine F.okX S (fun vs H Q E hh => ?_) (fun cdv A outer s H vs Q E hr hh => ?_)
  · obtain ⟨ds, M, Fr, Qd, Xd, q1, q2, q3, _⟩ := hh
    rw [q2.len]
    exact (h _ _ _ _ q3).1
  · obtain ⟨ds, M, Fr, Qd, Xd, q1, q2, q3, l1, l2⟩ := hh
    refine ⟨_, body cdv A outer s H E hr (takes_of rfl rfl rfl rfl), ?_⟩
    have fin : ∀ (v : V) (H' : Hp) (d : D) (M' : Mem), Ext H (uni M Fr) H' (uni M' Fr) → Rm K H' M' Fr → DV K H' (uni M' Fr) d v → Fin Qd d M' → Q v H' := fun v H' d M' e r dv ⟨d2, M2, fz, q⟩ =>
      l1 v H' d2 M2 (e.down (sub_none fz.sub)) (r.sub fz.sub) (fz.dv K H' Fr v r dv) q
    exact ⟨startD N ds, M, Fr, _, ⟨q1, Sl.start q2⟩, rfl, (h _ _ _ _ q3).2, ⟨fun σ' H' ds' M' e r q => fin .non H' .non M' e r.1 rfl q, fin, fun _ _ _ _ _ _ z => z.elim, fun _ _ _ _ _ _ z => z.elim, fun cls dc σ' H' x ds' M' e r dv q => l2 cls dc H' x M' e r.1 dv q⟩⟩
theorem FnJK.mkAt {P : Program} {w : World} {K : PySem.W.Frag} {mg : Str → Option Value} {base : Heap} {k : Nat} {x qual : Str} {st : Stmt} {f : Addr} {N ps ks : List Str} {n m : Nat} {ord : List Nat} {sp : SpD} {wb : WS}
    (F : DefAt K x qual st ps f) (S : FnScope N ps (defScope st)) (hp : 0 < ps.length)
    (hb : ∀ (kV doc pm : Value) (an : Option Addr) (cdv ct : Value) (us ws : List Value), us.length = n → ws.length = m →
      bindArgs (PySem.W.fnOf x qual (defArgs st) (defBody st) (defScope st) .none kV doc pm an cdv ct) ⟨us, ks.zip ws⟩ = pure (ps.zip (gOrd n m ord us ws)))
    (body : ∀ (cdv : Value) (A : Around) (outer : List Env) (s : Shared) (H : Hp) (E : XK), Room k (A.deeper (envOfC qual (defScope st) s.heap.objs.size f cdv)) →
      Takes (cxOf (L2.CX P w) P w K mg base N qual (defScope st) f cdv A outer s H E) (WD E) →
      JSs (cxOf (L2.CX P w) P w K mg base N qual (defScope st) f cdv A outer s H E) (WD E) (defBody st) wb)
    (h : ∀ ds M Q Xc, sp ds M Q Xc → ds.length = ps.length ∧ wb { nx := fun _ M => Fin Q .non M, rt := Fin Q, ex := fun x _ M => Xc x M } (startD N ds) M) : FnJK P w K mg base (k + 1) f sp ks n m ord := by
  obtain ⟨fd, h1, h2⟩ := F.ex
  refine ⟨⟨fd, ps, FnOk.mkD h1 S body h, ?_⟩, h1.kp⟩
  obtain ⟨oc, od, kV, doc, pm, an, cdv, ct, osl, rfl, lk, hcd⟩ := h1.ex
  exact kb_mk hp fun us ws e1 e2 s => .of_eq (hb kV doc pm an cdv ct us ws e1 e2)
end DL
namespace DL.K09
open PySem PySem.Spec PyProof.Rows L2 RZ
def ns_Shape : List Str := ["own_fields", "own_sources"]
def k_LETTERS : D := .str "abcdefghijklmnopqrstuvwxyz"
def k_DIGITS : D := .str "0123456789"
def k_MAX_WORD : D := .int 8
def k_OWN_COLUMNS : D := .tup [.str "moment", .str "source"]
/-! ### the text by places -/
def top (i : Nat) : Stmt := PySem.Challenge.pw_mergesight_k09_conditions_hold.main.body.getD i (.Pass ⟨0, 0, 0, 0⟩)
abbrev s_is_number : Stmt := (top 5)
abbrev N_is_number : List Str := ["value"]
abbrev P_is_number : List Str := ["value"]
theorem st_is_number (a0 : D) : startD N_is_number [a0] = [some a0] := rfl
theorem sc_is_number : FnScope N_is_number P_is_number (defScope s_is_number) := ⟨rfl, rfl, rfl, by decide +kernel, rfl, by decide +kernel, by decide +kernel⟩
abbrev s_is_listed : Stmt := (top 6)
abbrev N_is_listed : List Str := ["value"]
abbrev P_is_listed : List Str := ["value"]
theorem st_is_listed (a0 : D) : startD N_is_listed [a0] = [some a0] := rfl
theorem sc_is_listed : FnScope N_is_listed P_is_listed (defScope s_is_listed) := ⟨rfl, rfl, rfl, by decide +kernel, rfl, by decide +kernel, by decide +kernel⟩
abbrev s_is_made_of : Stmt := (top 7)
abbrev N_is_made_of : List Str := ["value", "signs", "most", "sign"]
abbrev P_is_made_of : List Str := ["value", "signs", "most"]
theorem st_is_made_of (a0 : D) (a1 : D) (a2 : D) : startD N_is_made_of [a0, a1, a2] = [some a0, some a1, some a2, none] := rfl
theorem sc_is_made_of : FnScope N_is_made_of P_is_made_of (defScope s_is_made_of) := ⟨rfl, rfl, rfl, by decide +kernel, rfl, by decide +kernel, by decide +kernel⟩
abbrev s_is_plain_name : Stmt := (top 8)
abbrev N_is_plain_name : List Str := ["value"]
abbrev P_is_plain_name : List Str := ["value"]
theorem st_is_plain_name (a0 : D) : startD N_is_plain_name [a0] = [some a0] := rfl
theorem sc_is_plain_name : FnScope N_is_plain_name P_is_plain_name (defScope s_is_plain_name) := ⟨rfl, rfl, rfl, by decide +kernel, rfl, by decide +kernel, by decide +kernel⟩
abbrev s_is_plain_word : Stmt := (top 9)
abbrev N_is_plain_word : List Str := ["value"]
abbrev P_is_plain_word : List Str := ["value"]
theorem st_is_plain_word (a0 : D) : startD N_is_plain_word [a0] = [some a0] := rfl
theorem sc_is_plain_word : FnScope N_is_plain_word P_is_plain_word (defScope s_is_plain_word) := ⟨rfl, rfl, rfl, by decide +kernel, rfl, by decide +kernel, by decide +kernel⟩
abbrev s_unlike : Stmt := (top 10)
abbrev N_unlike : List Str := ["values"]
abbrev P_unlike : List Str := ["values"]
theorem st_unlike (a0 : D) : startD N_unlike [a0] = [some a0] := rfl
theorem sc_unlike : FnScope N_unlike P_unlike (defScope s_unlike) := ⟨rfl, rfl, rfl, by decide +kernel, rfl, by decide +kernel, by decide +kernel⟩
abbrev s_are_names : Stmt := (top 26)
abbrev N_are_names : List Str := ["value", "most", "name"]
abbrev P_are_names : List Str := ["value", "most"]
theorem st_are_names (a0 : D) (a1 : D) : startD N_are_names [a0, a1] = [some a0, some a1, none] := rfl
theorem sc_are_names : FnScope N_are_names P_are_names (defScope s_are_names) := ⟨rfl, rfl, rfl, by decide +kernel, rfl, by decide +kernel, by decide +kernel⟩
abbrev s_Shape___init__ : Stmt := (inClass (top 27) 2)
abbrev N_Shape___init__ : List Str := ["self", "fields", "sources", "name"]
abbrev P_Shape___init__ : List Str := ["self", "fields", "sources"]
theorem st_Shape___init__ (a0 : D) (a1 : D) (a2 : D) : startD N_Shape___init__ [a0, a1, a2] = [some a0, some a1, some a2, none] := rfl
theorem sc_Shape___init__ : FnScope N_Shape___init__ P_Shape___init__ (defScope s_Shape___init__) := ⟨rfl, rfl, rfl, by decide +kernel, rfl, by decide +kernel, by decide +kernel⟩
abbrev s_Shape_fields : Stmt := (inClass (top 27) 4)
abbrev N_Shape_fields : List Str := ["self"]
abbrev P_Shape_fields : List Str := ["self"]
theorem st_Shape_fields (a0 : D) : startD N_Shape_fields [a0] = [some a0] := rfl
theorem sc_Shape_fields : FnScope N_Shape_fields P_Shape_fields (defScope s_Shape_fields) := ⟨rfl, rfl, rfl, by decide +kernel, rfl, by decide +kernel, by decide +kernel⟩
abbrev s_Shape_sources : Stmt := (inClass (top 27) 5)
abbrev N_Shape_sources : List Str := ["self"]
abbrev P_Shape_sources : List Str := ["self"]
theorem st_Shape_sources (a0 : D) : startD N_Shape_sources [a0] = [some a0] := rfl
theorem sc_Shape_sources : FnScope N_Shape_sources P_Shape_sources (defScope s_Shape_sources) := ⟨rfl, rfl, rfl, by decide +kernel, rfl, by decide +kernel, by decide +kernel⟩
abbrev s_Shape_columns : Stmt := (inClass (top 27) 6)
abbrev N_Shape_columns : List Str := ["self"]
abbrev P_Shape_columns : List Str := ["self"]
theorem st_Shape_columns (a0 : D) : startD N_Shape_columns [a0] = [some a0] := rfl
theorem sc_Shape_columns : FnScope N_Shape_columns P_Shape_columns (defScope s_Shape_columns) := ⟨rfl, rfl, rfl, by decide +kernel, rfl, by decide +kernel, by decide +kernel⟩
abbrev s_Shape_is_row : Stmt := (inClass (top 27) 7)
abbrev N_Shape_is_row : List Str := ["self", "value", "word"]
abbrev P_Shape_is_row : List Str := ["self", "value"]
theorem st_Shape_is_row (a0 : D) (a1 : D) : startD N_Shape_is_row [a0, a1] = [some a0, some a1, none] := rfl
theorem sc_Shape_is_row : FnScope N_Shape_is_row P_Shape_is_row (defScope s_Shape_is_row) := ⟨rfl, rfl, rfl, by decide +kernel, rfl, by decide +kernel, by decide +kernel⟩
abbrev s_Shape_need_row : Stmt := (inClass (top 27) 10)
abbrev N_Shape_need_row : List Str := ["self", "row"]
abbrev P_Shape_need_row : List Str := ["self", "row"]
theorem st_Shape_need_row (a0 : D) (a1 : D) : startD N_Shape_need_row [a0, a1] = [some a0, some a1] := rfl
theorem sc_Shape_need_row : FnScope N_Shape_need_row P_Shape_need_row (defScope s_Shape_need_row) := ⟨rfl, rfl, rfl, by decide +kernel, rfl, by decide +kernel, by decide +kernel⟩
abbrev s_Shape_sheet : Stmt := (inClass (top 27) 13)
abbrev N_Shape_sheet : List Str := ["self", "row"]
abbrev P_Shape_sheet : List Str := ["self", "row"]
theorem st_Shape_sheet (a0 : D) (a1 : D) : startD N_Shape_sheet [a0, a1] = [some a0, some a1] := rfl
theorem sc_Shape_sheet : FnScope N_Shape_sheet P_Shape_sheet (defScope s_Shape_sheet) := ⟨rfl, rfl, rfl, by decide +kernel, rfl, by decide +kernel, by decide +kernel⟩
abbrev s_head : Stmt := (top 17)
abbrev N_head : List Str := ["value", "path"]
abbrev P_head : List Str := ["value", "path"]
theorem st_head (a0 : D) (a1 : D) : startD N_head [a0, a1] = [some a0, some a1] := rfl
theorem sc_head : FnScope N_head P_head (defScope s_head) := ⟨rfl, rfl, rfl, by decide +kernel, rfl, by decide +kernel, by decide +kernel⟩
abbrev s_is_field : Stmt := (top 18)
abbrev N_is_field : List Str := ["shape", "value"]
abbrev P_is_field : List Str := ["shape", "value"]
theorem st_is_field (a0 : D) (a1 : D) : startD N_is_field [a0, a1] = [some a0, some a1] := rfl
theorem sc_is_field : FnScope N_is_field P_is_field (defScope s_is_field) := ⟨rfl, rfl, rfl, by decide +kernel, rfl, by decide +kernel, by decide +kernel⟩
abbrev s_is_simple : Stmt := (top 19)
abbrev N_is_simple : List Str := ["shape", "value", "held"]
abbrev P_is_simple : List Str := ["shape", "value", "held"]
theorem st_is_simple (a0 : D) (a1 : D) (a2 : D) : startD N_is_simple [a0, a1, a2] = [some a0, some a1, some a2] := rfl
theorem sc_is_simple : FnScope N_is_simple P_is_simple (defScope s_is_simple) := ⟨rfl, rfl, rfl, by decide +kernel, rfl, by decide +kernel, by decide +kernel⟩
abbrev s_need_condition : Stmt := (top 20)
abbrev N_need_condition : List Str := ["shape", "value", "path", "held", "word", "many", "at"]
abbrev P_need_condition : List Str := ["shape", "value", "path", "held"]
theorem st_need_condition (a0 : D) (a1 : D) (a2 : D) (a3 : D) : startD N_need_condition [a0, a1, a2, a3] = [some a0, some a1, some a2, some a3, none, none, none] := rfl
theorem sc_need_condition : FnScope N_need_condition P_need_condition (defScope s_need_condition) := ⟨rfl, rfl, rfl, by decide +kernel, rfl, by decide +kernel, by decide +kernel⟩
abbrev s_check_condition : Stmt := (top 21)
abbrev N_check_condition : List Str := ["shape", "value"]
abbrev P_check_condition : List Str := ["shape", "value"]
theorem st_check_condition (a0 : D) (a1 : D) : startD N_check_condition [a0, a1] = [some a0, some a1] := rfl
theorem sc_check_condition : FnScope N_check_condition P_check_condition (defScope s_check_condition) := ⟨rfl, rfl, rfl, by decide +kernel, rfl, by decide +kernel, by decide +kernel⟩
abbrev s_met : Stmt := (top 22)
abbrev N_met : List Str := ["condition", "sheet", "word", "part"]
abbrev P_met : List Str := ["condition", "sheet"]
theorem st_met (a0 : D) (a1 : D) : startD N_met [a0, a1] = [some a0, some a1, none, none] := rfl
theorem sc_met : FnScope N_met P_met (defScope s_met) := ⟨rfl, rfl, rfl, by decide +kernel, rfl, by decide +kernel, by decide +kernel⟩
abbrev s_holds : Stmt := (top 23)
abbrev N_holds : List Str := ["shape", "condition", "row"]
abbrev P_holds : List Str := ["shape", "condition", "row"]
theorem st_holds (a0 : D) (a1 : D) (a2 : D) : startD N_holds [a0, a1, a2] = [some a0, some a1, some a2] := rfl
theorem sc_holds : FnScope N_holds P_holds (defScope s_holds) := ⟨rfl, rfl, rfl, by decide +kernel, rfl, by decide +kernel, by decide +kernel⟩
abbrev s__law_opened : Stmt := (top 29)
abbrev N__law_opened : List Str := ["_law_script"]
abbrev P__law_opened : List Str := ["_law_script"]
theorem st__law_opened (a0 : D) : startD N__law_opened [a0] = [some a0] := rfl
theorem sc__law_opened : FnScope N__law_opened P__law_opened (defScope s__law_opened) := ⟨rfl, rfl, rfl, by decide +kernel, rfl, by decide +kernel, by decide +kernel⟩
abbrev s__law_pull : Stmt := (top 30)
abbrev N__law_pull : List Str := ["_law_bag", "_law_many", "_law_cell", "_law_digit", "_law_seed"]
abbrev P__law_pull : List Str := ["_law_bag", "_law_many"]
theorem st__law_pull (a0 : D) (a1 : D) : startD N__law_pull [a0, a1] = [some a0, some a1, none, none, none] := rfl
theorem sc__law_pull : FnScope N__law_pull P__law_pull (defScope s__law_pull) := ⟨rfl, rfl, rfl, by decide +kernel, rfl, by decide +kernel, by decide +kernel⟩
abbrev s__law_any : Stmt := (top 31)
abbrev N__law_any : List Str := ["_law_bag", "_law_things"]
abbrev P__law_any : List Str := ["_law_bag", "_law_things"]
theorem st__law_any (a0 : D) (a1 : D) : startD N__law_any [a0, a1] = [some a0, some a1] := rfl
theorem sc__law_any : FnScope N__law_any P__law_any (defScope s__law_any) := ⟨rfl, rfl, rfl, by decide +kernel, rfl, by decide +kernel, by decide +kernel⟩
abbrev s__law_like : Stmt := (top 32)
abbrev N__law_like : List Str := ["_law_found", "_law_due", "_law_one", "_law_other", "_law_key"]
abbrev P__law_like : List Str := ["_law_found", "_law_due"]
theorem st__law_like (a0 : D) (a1 : D) : startD N__law_like [a0, a1] = [some a0, some a1, none, none, none] := rfl
theorem sc__law_like : FnScope N__law_like P__law_like (defScope s__law_like) := ⟨rfl, rfl, rfl, by decide +kernel, rfl, by decide +kernel, by decide +kernel⟩
abbrev s__law_stems : Stmt := (top 33)
abbrev N__law_stems : List Str := ["_law_bag", "_law_many", "_law_most", "_law_letters", "_law_left", "_law_signs", "_law_stem", "_law_at", "_law_tail", "_law_even", "_law_found", "_law_sign", "_law_k", "_law_name"]
abbrev P__law_stems : List Str := ["_law_bag", "_law_many", "_law_most"]
theorem st__law_stems (a0 : D) (a1 : D) (a2 : D) : startD N__law_stems [a0, a1, a2] = [some a0, some a1, some a2, none, none, none, none, none, none, none, none, none, none, none] := rfl
theorem sc__law_stems : FnScope N__law_stems P__law_stems (defScope s__law_stems) := ⟨rfl, rfl, rfl, by decide +kernel, rfl, by decide +kernel, by decide +kernel⟩
abbrev s__law_words : Stmt := (top 34)
abbrev N__law_words : List Str := ["_law_bag", "_law_many", "_law_signs", "_law_left", "_law_some", "_law_stem", "_law_at", "_law_tail", "_law_even", "_law_sign", "_law_k"]
abbrev P__law_words : List Str := ["_law_bag", "_law_many"]
theorem st__law_words (a0 : D) (a1 : D) : startD N__law_words [a0, a1] = [some a0, some a1, none, none, none, none, none, none, none, none, none] := rfl
theorem sc__law_words : FnScope N__law_words P__law_words (defScope s__law_words) := ⟨rfl, rfl, rfl, by decide +kernel, rfl, by decide +kernel, by decide +kernel⟩
abbrev s__law_ground : Stmt := (top 35)
abbrev N__law_ground : List Str := ["_law_bag", "_law_fields", "_law_sources"]
abbrev P__law_ground : List Str := ["_law_bag", "_law_fields", "_law_sources"]
theorem st__law_ground (a0 : D) (a1 : D) (a2 : D) : startD N__law_ground [a0, a1, a2] = [some a0, some a1, some a2] := rfl
theorem sc__law_ground : FnScope N__law_ground P__law_ground (defScope s__law_ground) := ⟨rfl, rfl, rfl, by decide +kernel, rfl, by decide +kernel, by decide +kernel⟩
abbrev s__law_shape : Stmt := (top 36)
abbrev N__law_shape : List Str := ["_law_ground_here"]
abbrev P__law_shape : List Str := ["_law_ground_here"]
theorem st__law_shape (a0 : D) : startD N__law_shape [a0] = [some a0] := rfl
theorem sc__law_shape : FnScope N__law_shape P__law_shape (defScope s__law_shape) := ⟨rfl, rfl, rfl, by decide +kernel, rfl, by decide +kernel, by decide +kernel⟩
abbrev s__law_columns : Stmt := (top 37)
abbrev N__law_columns : List Str := ["_law_ground_here"]
abbrev P__law_columns : List Str := ["_law_ground_here"]
theorem st__law_columns (a0 : D) : startD N__law_columns [a0] = [some a0] := rfl
theorem sc__law_columns : FnScope N__law_columns P__law_columns (defScope s__law_columns) := ⟨rfl, rfl, rfl, by decide +kernel, rfl, by decide +kernel, by decide +kernel⟩
abbrev s__law_row : Stmt := (top 38)
abbrev N__law_row : List Str := ["_law_bag", "_law_ground_here", "_law_moment", "_law_values", "_law_name"]
abbrev P__law_row : List Str := ["_law_bag", "_law_ground_here", "_law_moment"]
theorem st__law_row (a0 : D) (a1 : D) (a2 : D) : startD N__law_row [a0, a1, a2] = [some a0, some a1, some a2, none, none] := rfl
theorem sc__law_row : FnScope N__law_row P__law_row (defScope s__law_row) := ⟨rfl, rfl, rfl, by decide +kernel, rfl, by decide +kernel, by decide +kernel⟩
abbrev s__law_cond : Stmt := (top 39)
abbrev N__law_cond : List Str := ["_law_bag", "_law_ground_here", "_law_columns_here", "_law_deep", "_law_fields", "_law_ways", "_law_way", "_law_many", "_law_name", "_law_k"]
abbrev P__law_cond : List Str := ["_law_bag", "_law_ground_here", "_law_columns_here", "_law_deep"]
theorem st__law_cond (a0 : D) (a1 : D) (a2 : D) (a3 : D) : startD N__law_cond [a0, a1, a2, a3] = [some a0, some a1, some a2, some a3, none, none, none, none, none, none] := rfl
theorem sc__law_cond : FnScope N__law_cond P__law_cond (defScope s__law_cond) := ⟨rfl, rfl, rfl, by decide +kernel, rfl, by decide +kernel, by decide +kernel⟩
abbrev s__law_sheet : Stmt := (top 40)
abbrev N__law_sheet : List Str := ["_law_ground_here", "_law_row_z", "_law_found"]
abbrev P__law_sheet : List Str := ["_law_ground_here", "_law_row_z"]
theorem st__law_sheet (a0 : D) (a1 : D) : startD N__law_sheet [a0, a1] = [some a0, some a1, none] := rfl
theorem sc__law_sheet : FnScope N__law_sheet P__law_sheet (defScope s__law_sheet) := ⟨rfl, rfl, rfl, by decide +kernel, rfl, by decide +kernel, by decide +kernel⟩
abbrev s__law_met : Stmt := (top 41)
abbrev N__law_met : List Str := ["_law_condition_z", "_law_sheet_here", "_law_word", "_law_truths", "_law_part"]
abbrev P__law_met : List Str := ["_law_condition_z", "_law_sheet_here"]
theorem st__law_met (a0 : D) (a1 : D) : startD N__law_met [a0, a1] = [some a0, some a1, none, none, none] := rfl
theorem sc__law_met : FnScope N__law_met P__law_met (defScope s__law_met) := ⟨rfl, rfl, rfl, by decide +kernel, rfl, by decide +kernel, by decide +kernel⟩
abbrev s_law : Stmt := (top 42)
abbrev N_law : List Str := ["_law_script", "_law_bag", "_law_ground_here", "_law_shape_here", "_law_columns_here", "_law_turn", "_law_row_z", "_law_step", "_law_condition_z", "_law_due", "_law_told", "_law_turned", "_law_every", "_law_full", "_law_name"]
abbrev P_law : List Str := ["_law_script"]
theorem st_law (a0 : D) : startD N_law [a0] = [some a0, none, none, none, none, none, none, none, none, none, none, none, none, none, none] := rfl
theorem sc_law : FnScope N_law P_law (defScope s_law) := ⟨rfl, rfl, rfl, by decide +kernel, rfl, by decide +kernel, by decide +kernel⟩
/-! ### what the top has written -/
structure Ad where
  f_is_number : Addr
  f_is_listed : Addr
  f_is_made_of : Addr
  f_is_plain_name : Addr
  f_is_plain_word : Addr
  f_unlike : Addr
  f_are_names : Addr
  f_Shape___init__ : Addr
  f_Shape_fields : Addr
  f_Shape_sources : Addr
  f_Shape_columns : Addr
  f_Shape_is_row : Addr
  f_Shape_need_row : Addr
  f_Shape_sheet : Addr
  f_head : Addr
  f_is_field : Addr
  f_is_simple : Addr
  f_need_condition : Addr
  f_check_condition : Addr
  f_met : Addr
  f_holds : Addr
  f__law_opened : Addr
  f__law_pull : Addr
  f__law_any : Addr
  f__law_like : Addr
  f__law_stems : Addr
  f__law_words : Addr
  f__law_ground : Addr
  f__law_shape : Addr
  f__law_columns : Addr
  f__law_row : Addr
  f__law_cond : Addr
  f__law_sheet : Addr
  f__law_met : Addr
  f_law : Addr
  c_Shape : Addr
  q_Shape_fields : Addr
  q_Shape_sources : Addr
  q_Shape_columns : Addr
structure Txt (K : PySem.W.Frag) (mg : Str → Option Value) (A : Ad) : Prop where
  n_all : mg "all" = none
  n_any : mg "any" = none
  n_bool : mg "bool" = none
  n_dict : mg "dict" = none
  n_int : mg "int" = none
  n_isinstance : mg "isinstance" = none
  n_len : mg "len" = none
  n_list : mg "list" = none
  n_range : mg "range" = none
  n_set : mg "set" = none
  n_str : mg "str" = none
  n_tuple : mg "tuple" = none
  n_zip : mg "zip" = none
  k_DIGITS : GK K mg "DIGITS" k_DIGITS
  k_LETTERS : GK K mg "LETTERS" k_LETTERS
  k_MAX_WORD : GK K mg "MAX_WORD" k_MAX_WORD
  k_OWN_COLUMNS : GK K mg "OWN_COLUMNS" k_OWN_COLUMNS
  g_is_number : mg "is_number" = some (.ref A.f_is_number)
  d_is_number : DefAt K "is_number" "is_number" s_is_number P_is_number A.f_is_number
  g_is_listed : mg "is_listed" = some (.ref A.f_is_listed)
  d_is_listed : DefAt K "is_listed" "is_listed" s_is_listed P_is_listed A.f_is_listed
  g_is_made_of : mg "is_made_of" = some (.ref A.f_is_made_of)
  d_is_made_of : DefAt K "is_made_of" "is_made_of" s_is_made_of P_is_made_of A.f_is_made_of
  g_is_plain_name : mg "is_plain_name" = some (.ref A.f_is_plain_name)
  d_is_plain_name : DefAt K "is_plain_name" "is_plain_name" s_is_plain_name P_is_plain_name A.f_is_plain_name
  g_is_plain_word : mg "is_plain_word" = some (.ref A.f_is_plain_word)
  d_is_plain_word : DefAt K "is_plain_word" "is_plain_word" s_is_plain_word P_is_plain_word A.f_is_plain_word
  g_unlike : mg "unlike" = some (.ref A.f_unlike)
  d_unlike : DefAt K "unlike" "unlike" s_unlike P_unlike A.f_unlike
  g_are_names : mg "are_names" = some (.ref A.f_are_names)
  d_are_names : DefAt K "are_names" "are_names" s_are_names P_are_names A.f_are_names
  d_Shape___init__ : DefAt K "__init__" "Shape.__init__" s_Shape___init__ P_Shape___init__ A.f_Shape___init__
  d_Shape_fields : DefAt K "fields" "Shape.fields" s_Shape_fields P_Shape_fields A.f_Shape_fields
  d_Shape_sources : DefAt K "sources" "Shape.sources" s_Shape_sources P_Shape_sources A.f_Shape_sources
  d_Shape_columns : DefAt K "columns" "Shape.columns" s_Shape_columns P_Shape_columns A.f_Shape_columns
  d_Shape_is_row : DefAt K "is_row" "Shape.is_row" s_Shape_is_row P_Shape_is_row A.f_Shape_is_row
  d_Shape_need_row : DefAt K "need_row" "Shape.need_row" s_Shape_need_row P_Shape_need_row A.f_Shape_need_row
  d_Shape_sheet : DefAt K "sheet" "Shape.sheet" s_Shape_sheet P_Shape_sheet A.f_Shape_sheet
  g_head : mg "head" = some (.ref A.f_head)
  d_head : DefAt K "head" "head" s_head P_head A.f_head
  g_is_field : mg "is_field" = some (.ref A.f_is_field)
  d_is_field : DefAt K "is_field" "is_field" s_is_field P_is_field A.f_is_field
  g_is_simple : mg "is_simple" = some (.ref A.f_is_simple)
  d_is_simple : DefAt K "is_simple" "is_simple" s_is_simple P_is_simple A.f_is_simple
  g_need_condition : mg "need_condition" = some (.ref A.f_need_condition)
  d_need_condition : DefAt K "need_condition" "need_condition" s_need_condition P_need_condition A.f_need_condition
  g_check_condition : mg "check_condition" = some (.ref A.f_check_condition)
  d_check_condition : DefAt K "check_condition" "check_condition" s_check_condition P_check_condition A.f_check_condition
  g_met : mg "met" = some (.ref A.f_met)
  d_met : DefAt K "met" "met" s_met P_met A.f_met
  g_holds : mg "holds" = some (.ref A.f_holds)
  d_holds : DefAt K "holds" "holds" s_holds P_holds A.f_holds
  g__law_opened : mg "_law_opened" = some (.ref A.f__law_opened)
  d__law_opened : DefAt K "_law_opened" "_law_opened" s__law_opened P__law_opened A.f__law_opened
  g__law_pull : mg "_law_pull" = some (.ref A.f__law_pull)
  d__law_pull : DefAt K "_law_pull" "_law_pull" s__law_pull P__law_pull A.f__law_pull
  g__law_any : mg "_law_any" = some (.ref A.f__law_any)
  d__law_any : DefAt K "_law_any" "_law_any" s__law_any P__law_any A.f__law_any
  g__law_like : mg "_law_like" = some (.ref A.f__law_like)
  d__law_like : DefAt K "_law_like" "_law_like" s__law_like P__law_like A.f__law_like
  g__law_stems : mg "_law_stems" = some (.ref A.f__law_stems)
  d__law_stems : DefAt K "_law_stems" "_law_stems" s__law_stems P__law_stems A.f__law_stems
  g__law_words : mg "_law_words" = some (.ref A.f__law_words)
  d__law_words : DefAt K "_law_words" "_law_words" s__law_words P__law_words A.f__law_words
  g__law_ground : mg "_law_ground" = some (.ref A.f__law_ground)
  d__law_ground : DefAt K "_law_ground" "_law_ground" s__law_ground P__law_ground A.f__law_ground
  g__law_shape : mg "_law_shape" = some (.ref A.f__law_shape)
  d__law_shape : DefAt K "_law_shape" "_law_shape" s__law_shape P__law_shape A.f__law_shape
  g__law_columns : mg "_law_columns" = some (.ref A.f__law_columns)
  d__law_columns : DefAt K "_law_columns" "_law_columns" s__law_columns P__law_columns A.f__law_columns
  g__law_row : mg "_law_row" = some (.ref A.f__law_row)
  d__law_row : DefAt K "_law_row" "_law_row" s__law_row P__law_row A.f__law_row
  g__law_cond : mg "_law_cond" = some (.ref A.f__law_cond)
  d__law_cond : DefAt K "_law_cond" "_law_cond" s__law_cond P__law_cond A.f__law_cond
  g__law_sheet : mg "_law_sheet" = some (.ref A.f__law_sheet)
  d__law_sheet : DefAt K "_law_sheet" "_law_sheet" s__law_sheet P__law_sheet A.f__law_sheet
  g__law_met : mg "_law_met" = some (.ref A.f__law_met)
  d__law_met : DefAt K "_law_met" "_law_met" s__law_met P__law_met A.f__law_met
  g_law : mg "law" = some (.ref A.f_law)
  d_law : DefAt K "law" "law" s_law P_law A.f_law
  g_Shape : mg "Shape" = some (.ref A.c_Shape)
  cl_Shape : Cls K A.c_Shape
  na_Shape_own_fields : NoAttr K A.c_Shape "own_fields"
  na_Shape_own_sources : NoAttr K A.c_Shape "own_sources"
  mk_Shape : Mk K A.c_Shape A.f_Shape___init__
  m_Shape_is_row : Meth K A.c_Shape "is_row" A.f_Shape_is_row
  m_Shape_need_row : Meth K A.c_Shape "need_row" A.f_Shape_need_row
  m_Shape_sheet : Meth K A.c_Shape "sheet" A.f_Shape_sheet
  p_Shape_fields : PropOf K A.c_Shape "fields" A.q_Shape_fields A.f_Shape_fields
  p_Shape_sources : PropOf K A.c_Shape "sources" A.q_Shape_sources A.f_Shape_sources
  p_Shape_columns : PropOf K A.c_Shape "columns" A.q_Shape_columns A.f_Shape_columns
  cv_Shape_FIELDS : CVk K A.c_Shape "FIELDS" (.int 5)
  cv_Shape_SOURCES : CVk K A.c_Shape "SOURCES" (.int 5)
/-! ### is_number, is_listed -/
/-- a value that is no object of its own -/
def pl : D → Bool
  | .ref _ => false
  | .ins _ _ _ => false
  | .ty _ => false
  | .scr _ => false
  | _ => true
theorem pl_ty {d : D} {M : Mem} (h : pl d = true) : ∃ n, tyN M d = some n := by
  cases d <;> first | exact ⟨_, rfl⟩ | cases h
def isNum : D → Bool
  | .int _ => true
  | _ => false
def isSeq : D → Bool
  | .tup _ => true
  | .lst _ => true
  | _ => false
def isStr : D → Bool
  | .str _ => true
  | _ => false
def sp_is_number (A : Ad) : SpD := fun ds M Q _ => ∃ d, ds = [d] ∧ pl d = true ∧ Q (.bl (isNum d)) M
def wb_is_number (A : Ad) : WS :=
  (wRet (wAndV (wCB rIsD (wCons (wVar 0) (wCons (wC (.ty "int")) wNil))) (wNotV (wCB rIsD (wCons (wVar 0) (wCons (wC (.ty "bool")) wNil))))))
theorem bd_is_number {P : Program} {w : World} {K : PySem.W.Frag} {mg : Str → Option Value} {base : Heap} {A : Ad} (T : Txt K mg A) (cdv : Value) (R : Around) (outer : List Env) (s : Shared) (H : Hp) (E : XK) (hr : Room 0 (R.deeper (envOfC "is_number" (defScope s_is_number) s.heap.objs.size A.f_is_number cdv)))
    (tk : Takes (cxOf (L2.CX P w) P w K mg base N_is_number "is_number" (defScope s_is_number) A.f_is_number cdv R outer s H E) (WD E)) : JSs (cxOf (L2.CX P w) P w K mg base N_is_number "is_number" (defScope s_is_number) A.f_is_number cdv R outer s H E) (WD E) (defBody s_is_number) (wb_is_number A) :=
  (js_one (js_ret (j_and (j_callB cd_isi T.n_isinstance bo_isinstance (j_cons (jv 0) (j_cons (j_bltn T.n_int bo_int) j_nil))) (j_one (j_not (j_callB cd_isi T.n_isinstance bo_isinstance (j_cons (jv 0) (j_cons (j_bltn T.n_bool bo_bool) j_nil))))))))
theorem rd_is_number (A : Ad) : ∀ ds M Q Xc, sp_is_number A ds M Q Xc → ds.length = P_is_number.length ∧ wb_is_number A { nx := fun _ M => Fin Q .non M, rt := Fin Q, ex := fun x _ M => Xc x M } (startD N_is_number ds) M := by
  rintro _ M Q Xc ⟨d, rfl, hp, q⟩
  refine ⟨rfl, ?_⟩
  rw [st_is_number]
  cases d <;> try exact absurd hp Bool.false_ne_true
  all_goals simp only [wb_is_number, wipeD, wNx, wSeq_p, seqE_nx, seqE_rt, seqE_bk, seqE_ct, seqE_ex, wIf, wRet, wRetN, wDrop, wAsg, wBrk, wCnt, wVar, wGet, wC, wOp, wUn, wCB, wNil, wCons, wTest, wAndT, wOrT, wNotT, wAndV, wOrV, wNotV, wIfE, wChain, wTup, wLst, wLstO, wCall, wMeth, wFld, wFst, wCv, wProp, wMake, wSl, wNo, wSome, intK, isBl, gN, gT, gCons', gNil', wSub, wAug, wPar, wBM, wIsT, wFor, wLc, wLcO, wYes, wiSeq, wiStr, wiRng1, wiRng2, wiZip, wFz, frz_lst, frz_tup, at1_0, at2_0, at2_1, at3_0, at3_1, at3_2, at4_0, at4_1, at4_2, at4_3, at5_0, at5_1, at5_2, at5_3, at5_4, seqOf_put, ED.xc, rIxD, rLenD, rIsD, rIntCD, rStrCD, rListD, rListO, rTupD, rAddD, rIntD, rInt0D, rEqD, rIsND, rNegD, rSlD, seqOf_lst, seqOf_tup, optK_some, insK_same, tyN_non, tyN_bl, tyN_int, tyN_str, tyN_tup, tyN_lst, tyN_dct, List.getElem?_cons_zero, List.getElem?_cons_succ, List.set_cons_zero, List.set_cons_succ, List.length_cons, List.length_nil, isB_NoneType_bool, isB_NoneType_int, isB_NoneType_str, isB_NoneType_tuple, isB_NoneType_list, isB_NoneType_dict, isB_bool_bool, isB_bool_int, isB_bool_str, isB_bool_tuple, isB_bool_list, isB_bool_dict, isB_int_bool, isB_int_int, isB_int_str, isB_int_tuple, isB_int_list, isB_int_dict, isB_str_bool, isB_str_int, isB_str_str, isB_str_tuple, isB_str_list, isB_str_dict, isB_tuple_bool, isB_tuple_int, isB_tuple_str, isB_tuple_tuple, isB_tuple_list, isB_tuple_dict, isB_list_bool, isB_list_int, isB_list_str, isB_list_tuple, isB_list_list, isB_list_dict, isB_dict_bool, isB_dict_int, isB_dict_str, isB_dict_tuple, isB_dict_list, isB_dict_dict, isC_bool, isC_int, isC_str, isC_tuple, isC_list, isC_dict, isA_list_tuple, isQ_NoneType, isQ_bool, isQ_int, isQ_str, isQ_tuple, isQ_list, isQ_dict, true_and, and_true, ↓reduceIte, Bool.not_true, Bool.not_false, Bool.false_eq_true, Bool.true_xor, Bool.false_xor]
  all_goals exact fin_of q
theorem ok_is_number {P : Program} {w : World} {K : PySem.W.Frag} {mg : Str → Option Value} {base : Heap} {A : Ad} (T : Txt K mg A) : FnJ P w K mg base 1 A.f_is_number (sp_is_number A) :=
  FnJ.mkAt T.d_is_number sc_is_number (fun cdv R outer s H E hr tk => bd_is_number T cdv R outer s H E hr tk) (rd_is_number A)
def sp_is_listed (A : Ad) : SpD := fun ds M Q _ => ∃ d, ds = [d] ∧ pl d = true ∧ Q (.bl (isSeq d)) M
def wb_is_listed (A : Ad) : WS :=
  (wRet (wIsT ["list", "tuple"] (wVar 0)))
theorem bd_is_listed {P : Program} {w : World} {K : PySem.W.Frag} {mg : Str → Option Value} {base : Heap} {A : Ad} (T : Txt K mg A) (cdv : Value) (R : Around) (outer : List Env) (s : Shared) (H : Hp) (E : XK) (hr : Room 0 (R.deeper (envOfC "is_listed" (defScope s_is_listed) s.heap.objs.size A.f_is_listed cdv)))
    (tk : Takes (cxOf (L2.CX P w) P w K mg base N_is_listed "is_listed" (defScope s_is_listed) A.f_is_listed cdv R outer s H E) (WD E)) : JSs (cxOf (L2.CX P w) P w K mg base N_is_listed "is_listed" (defScope s_is_listed) A.f_is_listed cdv R outer s H E) (WD E) (defBody s_is_listed) (wb_is_listed A) :=
  (js_one (js_ret (j_isiT T.n_isinstance (jv 0) (pcs_cons (pe_bltn rfl T.n_list bo_list rfl) (pcs_cons (pe_bltn rfl T.n_tuple bo_tuple rfl) pcs_nil)))))
theorem rd_is_listed (A : Ad) : ∀ ds M Q Xc, sp_is_listed A ds M Q Xc → ds.length = P_is_listed.length ∧ wb_is_listed A { nx := fun _ M => Fin Q .non M, rt := Fin Q, ex := fun x _ M => Xc x M } (startD N_is_listed ds) M := by
  rintro _ M Q Xc ⟨d, rfl, hp, q⟩
  refine ⟨rfl, ?_⟩
  rw [st_is_listed]
  cases d <;> try exact absurd hp Bool.false_ne_true
  all_goals simp only [wb_is_listed, wipeD, wNx, wSeq_p, seqE_nx, seqE_rt, seqE_bk, seqE_ct, seqE_ex, wIf, wRet, wRetN, wDrop, wAsg, wBrk, wCnt, wVar, wGet, wC, wOp, wUn, wCB, wNil, wCons, wTest, wAndT, wOrT, wNotT, wAndV, wOrV, wNotV, wIfE, wChain, wTup, wLst, wLstO, wCall, wMeth, wFld, wFst, wCv, wProp, wMake, wSl, wNo, wSome, intK, isBl, gN, gT, gCons', gNil', wSub, wAug, wPar, wBM, wIsT, wFor, wLc, wLcO, wYes, wiSeq, wiStr, wiRng1, wiRng2, wiZip, wFz, frz_lst, frz_tup, at1_0, at2_0, at2_1, at3_0, at3_1, at3_2, at4_0, at4_1, at4_2, at4_3, at5_0, at5_1, at5_2, at5_3, at5_4, seqOf_put, ED.xc, rIxD, rLenD, rIsD, rIntCD, rStrCD, rListD, rListO, rTupD, rAddD, rIntD, rInt0D, rEqD, rIsND, rNegD, rSlD, seqOf_lst, seqOf_tup, optK_some, insK_same, tyN_non, tyN_bl, tyN_int, tyN_str, tyN_tup, tyN_lst, tyN_dct, List.getElem?_cons_zero, List.getElem?_cons_succ, List.set_cons_zero, List.set_cons_succ, List.length_cons, List.length_nil, isB_NoneType_bool, isB_NoneType_int, isB_NoneType_str, isB_NoneType_tuple, isB_NoneType_list, isB_NoneType_dict, isB_bool_bool, isB_bool_int, isB_bool_str, isB_bool_tuple, isB_bool_list, isB_bool_dict, isB_int_bool, isB_int_int, isB_int_str, isB_int_tuple, isB_int_list, isB_int_dict, isB_str_bool, isB_str_int, isB_str_str, isB_str_tuple, isB_str_list, isB_str_dict, isB_tuple_bool, isB_tuple_int, isB_tuple_str, isB_tuple_tuple, isB_tuple_list, isB_tuple_dict, isB_list_bool, isB_list_int, isB_list_str, isB_list_tuple, isB_list_list, isB_list_dict, isB_dict_bool, isB_dict_int, isB_dict_str, isB_dict_tuple, isB_dict_list, isB_dict_dict, isC_bool, isC_int, isC_str, isC_tuple, isC_list, isC_dict, isA_list_tuple, isQ_NoneType, isQ_bool, isQ_int, isQ_str, isQ_tuple, isQ_list, isQ_dict, true_and, and_true, ↓reduceIte, Bool.not_true, Bool.not_false, Bool.false_eq_true, Bool.true_xor, Bool.false_xor]
  all_goals exact fin_of q
theorem ok_is_listed {P : Program} {w : World} {K : PySem.W.Frag} {mg : Str → Option Value} {base : Heap} {A : Ad} (T : Txt K mg A) : FnJ P w K mg base 1 A.f_is_listed (sp_is_listed A) :=
  FnJ.mkAt T.d_is_listed sc_is_listed (fun cdv R outer s H E hr tk => bd_is_listed T cdv R outer s H E hr tk) (rd_is_listed A)
def allIn (x sg : Str) : Bool := x.cps.toList.all fun c => decide (c ∈ sg.cps.toList)
def madeOf (sg : Str) (m : Int) : D → Bool
  | .str x => decide ((1 : Int) ≤ x.length) && (decide ((x.length : Int) ≤ m) && allIn x sg)
  | _ => false
def short : D → Prop
  | .str x => x.length < 90000
  | .lst xs => xs.length < 3000
  | .tup xs => xs.length < 3000
  | _ => True
def sp_is_made_of (A : Ad) : SpD := fun ds M Q _ => ∃ d sg m, ds = [d, .str sg, .int m] ∧ pl d = true ∧ short d ∧ Q (.bl (madeOf sg m d)) M
def wb_is_made_of (A : Ad) : WS :=
  (wRet (wAndV (wCB rIsD (wCons (wVar 0) (wCons (wC (.ty "str")) wNil))) (wAndV (wChain (rInt0D fun i j => .bl (decide (i ≤ j))) (rInt0D fun i j => .bl (decide (i ≤ j))) (wC (.int 1)) (wCB rLenD (wCons (wVar 0) wNil)) (wVar 2)) (wCB (rAllD false) (wCons (wLc (wiStr (wVar 0)) (gN 3) wYes (wOp (rInD false) (wVar 3) (wVar 1)) [3]) wNil)))))
theorem bd_is_made_of {P : Program} {w : World} {K : PySem.W.Frag} {mg : Str → Option Value} {base : Heap} {A : Ad} (T : Txt K mg A) (cdv : Value) (R : Around) (outer : List Env) (s : Shared) (H : Hp) (E : XK) (hr : Room 0 (R.deeper (envOfC "is_made_of" (defScope s_is_made_of) s.heap.objs.size A.f_is_made_of cdv)))
    (tk : Takes (cxOf (L2.CX P w) P w K mg base N_is_made_of "is_made_of" (defScope s_is_made_of) A.f_is_made_of cdv R outer s H E) (WD E)) : JSs (cxOf (L2.CX P w) P w K mg base N_is_made_of "is_made_of" (defScope s_is_made_of) A.f_is_made_of cdv R outer s H E) (WD E) (defBody s_is_made_of) (wb_is_made_of A) :=
  (js_one (js_ret (j_and (j_callB cd_isi T.n_isinstance bo_isinstance (j_cons (jv 0) (j_cons (j_bltn T.n_str bo_str) j_nil))) (j_and (j_chain od_le od_le j_int (j_callB cd_len T.n_len bo_len (j_cons (jv 0) j_nil)) (jv 2)) (j_one (j_callB (cd_all rfl) T.n_all bo_all (j_cons (j_lc (own := [("sign", 3)]) rfl sc_is_made_of.nd (ji_str (jv 0)) (blkOk_by (own := [("sign", 3)]) (N := N_is_made_of) (sc := defScope s_is_made_of) (by decide +kernel)) (fun _ _ _ _ _ => (jg_name (i := 3) sc_is_made_of.nd)) (fun _ _ _ _ _ => jts_nil) (fun _ _ _ _ _ => (j_cmp od_in (jv 3) (jv 1)))) j_nil)))))))
theorem rd_is_made_of (A : Ad) : ∀ ds M Q Xc, sp_is_made_of A ds M Q Xc → ds.length = P_is_made_of.length ∧ wb_is_made_of A { nx := fun _ M => Fin Q .non M, rt := Fin Q, ex := fun x _ M => Xc x M } (startD N_is_made_of ds) M := by
  rintro _ M Q Xc ⟨d, sg, m, rfl, hp, hl, q⟩
  refine ⟨rfl, ?_⟩
  rw [st_is_made_of]
  cases d <;> try exact absurd hp Bool.false_ne_true
  case str x =>
    have hx : x.length < 90000 := hl
    have := sizeLine_big
    simp only [wb_is_made_of, wipeD, wNx, wSeq_p, seqE_nx, seqE_rt, seqE_bk, seqE_ct, seqE_ex, wIf, wRet, wRetN, wDrop, wAsg, wBrk, wCnt, wVar, wGet, wC, wOp, wUn, wCB, wNil, wCons, wTest, wAndT, wOrT, wNotT, wAndV, wOrV, wNotV, wIfE, wChain, wTup, wLst, wLstO, wCall, wMeth, wFld, wFst, wCv, wProp, wMake, wSl, wNo, wSome, intK, isBl, gN, gT, gCons', gNil', wSub, wAug, wPar, wBM, wIsT, wFor, wLc, wLcO, wYes, wiSeq, wiStr, wiRng1, wiRng2, wiZip, wFz, frz_lst, frz_tup, at1_0, at2_0, at2_1, at3_0, at3_1, at3_2, at4_0, at4_1, at4_2, at4_3, at5_0, at5_1, at5_2, at5_3, at5_4, seqOf_put, ED.xc, rIxD, rLenD, rIsD, rIntCD, rStrCD, rListD, rListO, rTupD, rAddD, rIntD, rInt0D, rEqD, rIsND, rNegD, rSlD, seqOf_lst, seqOf_tup, optK_some, insK_same, tyN_non, tyN_bl, tyN_int, tyN_str, tyN_tup, tyN_lst, tyN_dct, List.getElem?_cons_zero, List.getElem?_cons_succ, List.set_cons_zero, List.set_cons_succ, List.length_cons, List.length_nil, isB_NoneType_bool, isB_NoneType_int, isB_NoneType_str, isB_NoneType_tuple, isB_NoneType_list, isB_NoneType_dict, isB_bool_bool, isB_bool_int, isB_bool_str, isB_bool_tuple, isB_bool_list, isB_bool_dict, isB_int_bool, isB_int_int, isB_int_str, isB_int_tuple, isB_int_list, isB_int_dict, isB_str_bool, isB_str_int, isB_str_str, isB_str_tuple, isB_str_list, isB_str_dict, isB_tuple_bool, isB_tuple_int, isB_tuple_str, isB_tuple_tuple, isB_tuple_list, isB_tuple_dict, isB_list_bool, isB_list_int, isB_list_str, isB_list_tuple, isB_list_list, isB_list_dict, isB_dict_bool, isB_dict_int, isB_dict_str, isB_dict_tuple, isB_dict_list, isB_dict_dict, isC_bool, isC_int, isC_str, isC_tuple, isC_list, isC_dict, isA_list_tuple, isQ_NoneType, isQ_bool, isQ_int, isQ_str, isQ_tuple, isQ_list, isQ_dict, true_and, and_true, ↓reduceIte, Bool.not_true, Bool.not_false, Bool.false_eq_true, Bool.true_xor, Bool.false_xor]
    refine ⟨by omega, ?_⟩
    have e : madeOf sg m (.str x) = (decide ((1 : Int) ≤ x.length) && (decide ((x.length : Int) ≤ m) && allIn x sg)) := rfl
    rw [e] at q
    by_cases h1 : (1 : Int) ≤ x.length
    · by_cases h2 : (x.length : Int) ≤ m
      · simp only [h1, h2, decide_true, ↓reduceIte, Bool.true_and] at q ⊢
        have hz : x.cps.toList.length = x.length := Array.length_toList
        refine lcR_mapL (fun c => .str ⟨#[c]⟩) (fun c => .bl (decide (c ∈ sg.cps.toList))) (fun _ => True) (fun c acc R _ h => ?_) x.cps.toList [] (fun _ _ => trivial) (by rw [hz]; simp only [List.length_nil]; omega) ?_
        · simp only [wipeD, wNx, wSeq_p, seqE_nx, seqE_rt, seqE_bk, seqE_ct, seqE_ex, wIf, wRet, wRetN, wDrop, wAsg, wBrk, wCnt, wVar, wGet, wC, wOp, wUn, wCB, wNil, wCons, wTest, wAndT, wOrT, wNotT, wAndV, wOrV, wNotV, wIfE, wChain, wTup, wLst, wLstO, wCall, wMeth, wFld, wFst, wCv, wProp, wMake, wSl, wNo, wSome, intK, isBl, gN, gT, gCons', gNil', wSub, wAug, wPar, wBM, wIsT, wFor, wLc, wLcO, wYes, wiSeq, wiStr, wiRng1, wiRng2, wiZip, wFz, frz_lst, frz_tup, at1_0, at2_0, at2_1, at3_0, at3_1, at3_2, at4_0, at4_1, at4_2, at4_3, at5_0, at5_1, at5_2, at5_3, at5_4, seqOf_put, ED.xc, rIxD, rLenD, rIsD, rIntCD, rStrCD, rListD, rListO, rTupD, rAddD, rIntD, rInt0D, rEqD, rIsND, rNegD, rSlD, seqOf_lst, seqOf_tup, optK_some, insK_same, tyN_non, tyN_bl, tyN_int, tyN_str, tyN_tup, tyN_lst, tyN_dct, List.getElem?_cons_zero, List.getElem?_cons_succ, List.set_cons_zero, List.set_cons_succ, List.length_cons, List.length_nil, isB_NoneType_bool, isB_NoneType_int, isB_NoneType_str, isB_NoneType_tuple, isB_NoneType_list, isB_NoneType_dict, isB_bool_bool, isB_bool_int, isB_bool_str, isB_bool_tuple, isB_bool_list, isB_bool_dict, isB_int_bool, isB_int_int, isB_int_str, isB_int_tuple, isB_int_list, isB_int_dict, isB_str_bool, isB_str_int, isB_str_str, isB_str_tuple, isB_str_list, isB_str_dict, isB_tuple_bool, isB_tuple_int, isB_tuple_str, isB_tuple_tuple, isB_tuple_list, isB_tuple_dict, isB_list_bool, isB_list_int, isB_list_str, isB_list_tuple, isB_list_list, isB_list_dict, isB_dict_bool, isB_dict_int, isB_dict_str, isB_dict_tuple, isB_dict_list, isB_dict_dict, isC_bool, isC_int, isC_str, isC_tuple, isC_list, isC_dict, isA_list_tuple, isQ_NoneType, isQ_bool, isQ_int, isQ_str, isQ_tuple, isQ_list, isQ_dict, true_and, and_true, ↓reduceIte, Bool.not_true, Bool.not_false, Bool.false_eq_true, Bool.true_xor, Bool.false_xor, rInD, oneSign]
          exact h
        · rw [List.nil_append]
          simp only [rAllD, bools_map, optK, Bool.false_eq_true, ↓reduceIte]
          rw [List.all_map]
          exact fin_of q
      · simp only [h1, h2, decide_true, decide_false, ↓reduceIte, Bool.true_and, Bool.false_and, Bool.false_eq_true] at q ⊢
        exact fin_of q
    · simp only [h1, decide_false, ↓reduceIte, Bool.false_and, Bool.false_eq_true] at q ⊢
      exact fin_of q
  all_goals simp only [wb_is_made_of, wipeD, wNx, wSeq_p, seqE_nx, seqE_rt, seqE_bk, seqE_ct, seqE_ex, wIf, wRet, wRetN, wDrop, wAsg, wBrk, wCnt, wVar, wGet, wC, wOp, wUn, wCB, wNil, wCons, wTest, wAndT, wOrT, wNotT, wAndV, wOrV, wNotV, wIfE, wChain, wTup, wLst, wLstO, wCall, wMeth, wFld, wFst, wCv, wProp, wMake, wSl, wNo, wSome, intK, isBl, gN, gT, gCons', gNil', wSub, wAug, wPar, wBM, wIsT, wFor, wLc, wLcO, wYes, wiSeq, wiStr, wiRng1, wiRng2, wiZip, wFz, frz_lst, frz_tup, at1_0, at2_0, at2_1, at3_0, at3_1, at3_2, at4_0, at4_1, at4_2, at4_3, at5_0, at5_1, at5_2, at5_3, at5_4, seqOf_put, ED.xc, rIxD, rLenD, rIsD, rIntCD, rStrCD, rListD, rListO, rTupD, rAddD, rIntD, rInt0D, rEqD, rIsND, rNegD, rSlD, seqOf_lst, seqOf_tup, optK_some, insK_same, tyN_non, tyN_bl, tyN_int, tyN_str, tyN_tup, tyN_lst, tyN_dct, List.getElem?_cons_zero, List.getElem?_cons_succ, List.set_cons_zero, List.set_cons_succ, List.length_cons, List.length_nil, isB_NoneType_bool, isB_NoneType_int, isB_NoneType_str, isB_NoneType_tuple, isB_NoneType_list, isB_NoneType_dict, isB_bool_bool, isB_bool_int, isB_bool_str, isB_bool_tuple, isB_bool_list, isB_bool_dict, isB_int_bool, isB_int_int, isB_int_str, isB_int_tuple, isB_int_list, isB_int_dict, isB_str_bool, isB_str_int, isB_str_str, isB_str_tuple, isB_str_list, isB_str_dict, isB_tuple_bool, isB_tuple_int, isB_tuple_str, isB_tuple_tuple, isB_tuple_list, isB_tuple_dict, isB_list_bool, isB_list_int, isB_list_str, isB_list_tuple, isB_list_list, isB_list_dict, isB_dict_bool, isB_dict_int, isB_dict_str, isB_dict_tuple, isB_dict_list, isB_dict_dict, isC_bool, isC_int, isC_str, isC_tuple, isC_list, isC_dict, isA_list_tuple, isQ_NoneType, isQ_bool, isQ_int, isQ_str, isQ_tuple, isQ_list, isQ_dict, true_and, and_true, ↓reduceIte, Bool.not_true, Bool.not_false, Bool.false_eq_true, Bool.true_xor, Bool.false_xor]
  all_goals exact fin_of q
theorem ok_is_made_of {P : Program} {w : World} {K : PySem.W.Frag} {mg : Str → Option Value} {base : Heap} {A : Ad} (T : Txt K mg A) : FnJ P w K mg base 1 A.f_is_made_of (sp_is_made_of A) :=
  FnJ.mkAt T.d_is_made_of sc_is_made_of (fun cdv R outer s H E hr tk => bd_is_made_of T cdv R outer s H E hr tk) (rd_is_made_of A)
def LET : Str := "abcdefghijklmnopqrstuvwxyz"
def L36 : Str := ("abcdefghijklmnopqrstuvwxyz" : Str) ++ ("0123456789" : Str)
def sp_is_plain_name (A : Ad) : SpD := fun ds M Q _ => ∃ d, ds = [d] ∧ pl d = true ∧ short d ∧ Q (.bl (madeOf LET 8 d)) M
def wb_is_plain_name (A : Ad) : WS :=
  (wRet (wCall (sp_is_made_of A) (wCons (wVar 0) (wCons (wC k_LETTERS) (wCons (wC k_MAX_WORD) wNil)))))
theorem bd_is_plain_name {P : Program} {w : World} {K : PySem.W.Frag} {mg : Str → Option Value} {base : Heap} {A : Ad} (T : Txt K mg A) (cdv : Value) (R : Around) (outer : List Env) (s : Shared) (H : Hp) (E : XK) (hr : Room 1 (R.deeper (envOfC "is_plain_name" (defScope s_is_plain_name) s.heap.objs.size A.f_is_plain_name cdv)))
    (tk : Takes (cxOf (L2.CX P w) P w K mg base N_is_plain_name "is_plain_name" (defScope s_is_plain_name) A.f_is_plain_name cdv R outer s H E) (WD E)) : JSs (cxOf (L2.CX P w) P w K mg base N_is_plain_name "is_plain_name" (defScope s_is_plain_name) A.f_is_plain_name cdv R outer s H E) (WD E) (defBody s_is_plain_name) (wb_is_plain_name A) :=
  (js_one (js_ret (j_call (ok_is_made_of T) hr (by decide) T.g_is_made_of tk (j_cons (jv 0) (j_cons (j_k T.k_LETTERS) (j_cons (j_k T.k_MAX_WORD) j_nil))))))
theorem rd_is_plain_name (A : Ad) : ∀ ds M Q Xc, sp_is_plain_name A ds M Q Xc → ds.length = P_is_plain_name.length ∧ wb_is_plain_name A { nx := fun _ M => Fin Q .non M, rt := Fin Q, ex := fun x _ M => Xc x M } (startD N_is_plain_name ds) M := by
  rintro _ M Q Xc ⟨d, rfl, hp, hl, q⟩
  refine ⟨rfl, ?_⟩
  rw [st_is_plain_name]
  simp only [wb_is_plain_name, wipeD, wNx, wSeq_p, seqE_nx, seqE_rt, seqE_bk, seqE_ct, seqE_ex, wIf, wRet, wRetN, wDrop, wAsg, wBrk, wCnt, wVar, wGet, wC, wOp, wUn, wCB, wNil, wCons, wTest, wAndT, wOrT, wNotT, wAndV, wOrV, wNotV, wIfE, wChain, wTup, wLst, wLstO, wCall, wMeth, wFld, wFst, wCv, wProp, wMake, wSl, wNo, wSome, intK, isBl, gN, gT, gCons', gNil', wSub, wAug, wPar, wBM, wIsT, wFor, wLc, wLcO, wYes, wiSeq, wiStr, wiRng1, wiRng2, wiZip, wFz, frz_lst, frz_tup, at1_0, at2_0, at2_1, at3_0, at3_1, at3_2, at4_0, at4_1, at4_2, at4_3, at5_0, at5_1, at5_2, at5_3, at5_4, seqOf_put, ED.xc, rIxD, rLenD, rIsD, rIntCD, rStrCD, rListD, rListO, rTupD, rAddD, rIntD, rInt0D, rEqD, rIsND, rNegD, rSlD, seqOf_lst, seqOf_tup, optK_some, insK_same, tyN_non, tyN_bl, tyN_int, tyN_str, tyN_tup, tyN_lst, tyN_dct, List.getElem?_cons_zero, List.getElem?_cons_succ, List.set_cons_zero, List.set_cons_succ, List.length_cons, List.length_nil, isB_NoneType_bool, isB_NoneType_int, isB_NoneType_str, isB_NoneType_tuple, isB_NoneType_list, isB_NoneType_dict, isB_bool_bool, isB_bool_int, isB_bool_str, isB_bool_tuple, isB_bool_list, isB_bool_dict, isB_int_bool, isB_int_int, isB_int_str, isB_int_tuple, isB_int_list, isB_int_dict, isB_str_bool, isB_str_int, isB_str_str, isB_str_tuple, isB_str_list, isB_str_dict, isB_tuple_bool, isB_tuple_int, isB_tuple_str, isB_tuple_tuple, isB_tuple_list, isB_tuple_dict, isB_list_bool, isB_list_int, isB_list_str, isB_list_tuple, isB_list_list, isB_list_dict, isB_dict_bool, isB_dict_int, isB_dict_str, isB_dict_tuple, isB_dict_list, isB_dict_dict, isC_bool, isC_int, isC_str, isC_tuple, isC_list, isC_dict, isA_list_tuple, isQ_NoneType, isQ_bool, isQ_int, isQ_str, isQ_tuple, isQ_list, isQ_dict, true_and, and_true, ↓reduceIte, Bool.not_true, Bool.not_false, Bool.false_eq_true, Bool.true_xor, Bool.false_xor]
  exact ⟨d, LET, 8, rfl, hp, hl, fin_of q⟩
theorem ok_is_plain_name {P : Program} {w : World} {K : PySem.W.Frag} {mg : Str → Option Value} {base : Heap} {A : Ad} (T : Txt K mg A) : FnJ P w K mg base 2 A.f_is_plain_name (sp_is_plain_name A) :=
  FnJ.mkAt T.d_is_plain_name sc_is_plain_name (fun cdv R outer s H E hr tk => bd_is_plain_name T cdv R outer s H E hr tk) (rd_is_plain_name A)
def sp_is_plain_word (A : Ad) : SpD := fun ds M Q _ => ∃ d, ds = [d] ∧ pl d = true ∧ short d ∧ Q (.bl (madeOf L36 8 d)) M
def wb_is_plain_word (A : Ad) : WS :=
  (wRet (wCall (sp_is_made_of A) (wCons (wVar 0) (wCons (wOp rAddD (wC k_LETTERS) (wC k_DIGITS)) (wCons (wC k_MAX_WORD) wNil)))))
theorem bd_is_plain_word {P : Program} {w : World} {K : PySem.W.Frag} {mg : Str → Option Value} {base : Heap} {A : Ad} (T : Txt K mg A) (cdv : Value) (R : Around) (outer : List Env) (s : Shared) (H : Hp) (E : XK) (hr : Room 1 (R.deeper (envOfC "is_plain_word" (defScope s_is_plain_word) s.heap.objs.size A.f_is_plain_word cdv)))
    (tk : Takes (cxOf (L2.CX P w) P w K mg base N_is_plain_word "is_plain_word" (defScope s_is_plain_word) A.f_is_plain_word cdv R outer s H E) (WD E)) : JSs (cxOf (L2.CX P w) P w K mg base N_is_plain_word "is_plain_word" (defScope s_is_plain_word) A.f_is_plain_word cdv R outer s H E) (WD E) (defBody s_is_plain_word) (wb_is_plain_word A) :=
  (js_one (js_ret (j_call (ok_is_made_of T) hr (by decide) T.g_is_made_of tk (j_cons (jv 0) (j_cons (j_op od_add (j_k T.k_LETTERS) (j_k T.k_DIGITS)) (j_cons (j_k T.k_MAX_WORD) j_nil))))))
theorem rd_is_plain_word (A : Ad) : ∀ ds M Q Xc, sp_is_plain_word A ds M Q Xc → ds.length = P_is_plain_word.length ∧ wb_is_plain_word A { nx := fun _ M => Fin Q .non M, rt := Fin Q, ex := fun x _ M => Xc x M } (startD N_is_plain_word ds) M := by
  rintro _ M Q Xc ⟨d, rfl, hp, hl, q⟩
  refine ⟨rfl, ?_⟩
  rw [st_is_plain_word]
  simp only [wb_is_plain_word, wipeD, wNx, wSeq_p, seqE_nx, seqE_rt, seqE_bk, seqE_ct, seqE_ex, wIf, wRet, wRetN, wDrop, wAsg, wBrk, wCnt, wVar, wGet, wC, wOp, wUn, wCB, wNil, wCons, wTest, wAndT, wOrT, wNotT, wAndV, wOrV, wNotV, wIfE, wChain, wTup, wLst, wLstO, wCall, wMeth, wFld, wFst, wCv, wProp, wMake, wSl, wNo, wSome, intK, isBl, gN, gT, gCons', gNil', wSub, wAug, wPar, wBM, wIsT, wFor, wLc, wLcO, wYes, wiSeq, wiStr, wiRng1, wiRng2, wiZip, wFz, frz_lst, frz_tup, at1_0, at2_0, at2_1, at3_0, at3_1, at3_2, at4_0, at4_1, at4_2, at4_3, at5_0, at5_1, at5_2, at5_3, at5_4, seqOf_put, ED.xc, rIxD, rLenD, rIsD, rIntCD, rStrCD, rListD, rListO, rTupD, rAddD, rIntD, rInt0D, rEqD, rIsND, rNegD, rSlD, seqOf_lst, seqOf_tup, optK_some, insK_same, tyN_non, tyN_bl, tyN_int, tyN_str, tyN_tup, tyN_lst, tyN_dct, List.getElem?_cons_zero, List.getElem?_cons_succ, List.set_cons_zero, List.set_cons_succ, List.length_cons, List.length_nil, isB_NoneType_bool, isB_NoneType_int, isB_NoneType_str, isB_NoneType_tuple, isB_NoneType_list, isB_NoneType_dict, isB_bool_bool, isB_bool_int, isB_bool_str, isB_bool_tuple, isB_bool_list, isB_bool_dict, isB_int_bool, isB_int_int, isB_int_str, isB_int_tuple, isB_int_list, isB_int_dict, isB_str_bool, isB_str_int, isB_str_str, isB_str_tuple, isB_str_list, isB_str_dict, isB_tuple_bool, isB_tuple_int, isB_tuple_str, isB_tuple_tuple, isB_tuple_list, isB_tuple_dict, isB_list_bool, isB_list_int, isB_list_str, isB_list_tuple, isB_list_list, isB_list_dict, isB_dict_bool, isB_dict_int, isB_dict_str, isB_dict_tuple, isB_dict_list, isB_dict_dict, isC_bool, isC_int, isC_str, isC_tuple, isC_list, isC_dict, isA_list_tuple, isQ_NoneType, isQ_bool, isQ_int, isQ_str, isQ_tuple, isQ_list, isQ_dict, true_and, and_true, ↓reduceIte, Bool.not_true, Bool.not_false, Bool.false_eq_true, Bool.true_xor, Bool.false_xor, k_LETTERS, k_DIGITS]
  exact ⟨by decide +kernel, d, L36, 8, rfl, hp, hl, fin_of q⟩
theorem ok_is_plain_word {P : Program} {w : World} {K : PySem.W.Frag} {mg : Str → Option Value} {base : Heap} {A : Ad} (T : Txt K mg A) : FnJ P w K mg base 2 A.f_is_plain_word (sp_is_plain_word A) :=
  FnJ.mkAt T.d_is_plain_word sc_is_plain_word (fun cdv R outer s H E hr tk => bd_is_plain_word T cdv R outer s H E hr tk) (rd_is_plain_word A)
def dist (ks : List Key) : Bool := decide ((metK ks ks.length).length = ks.length)
theorem dist_iff {ks : List Key} : dist ks = true ↔ ks.Nodup := by
  unfold dist
  rw [decide_eq_true_iff]
  have h := metK_nodup ks ks.length (Nat.le_refl _)
  rw [List.take_length] at h
  exact h
theorem keysD_len : ∀ {ds : List D} {ks : List Key}, keysD ds = some ks → ks.length = ds.length
  | [], ks, h => by cases h; rfl
  | d :: ds, ks, h => by
    unfold keysD at h
    split at h
    · cases q : keysD ds with
      | none => rw [q] at h; cases h
      | some js => rw [q] at h; cases h; rw [List.length_cons, List.length_cons, keysD_len q]
    · cases h
def sp_unlike (A : Ad) : SpD := fun ds M Q _ => ∃ xs ks, ds = [.lst xs] ∧ keysD xs = some ks ∧ ks.length < 4000 ∧ Q (.bl (dist ks)) M
def wb_unlike (A : Ad) : WS :=
  (wRet (wOp (rEqD false) (wLenSet (wVar 0)) (wCB rLenD (wCons (wVar 0) wNil))))
theorem bd_unlike {P : Program} {w : World} {K : PySem.W.Frag} {mg : Str → Option Value} {base : Heap} {A : Ad} (T : Txt K mg A) (cdv : Value) (R : Around) (outer : List Env) (s : Shared) (H : Hp) (E : XK) (hr : Room 0 (R.deeper (envOfC "unlike" (defScope s_unlike) s.heap.objs.size A.f_unlike cdv)))
    (tk : Takes (cxOf (L2.CX P w) P w K mg base N_unlike "unlike" (defScope s_unlike) A.f_unlike cdv R outer s H E) (WD E)) : JSs (cxOf (L2.CX P w) P w K mg base N_unlike "unlike" (defScope s_unlike) A.f_unlike cdv R outer s H E) (WD E) (defBody s_unlike) (wb_unlike A) :=
  (js_one (js_ret (j_cmp (od_eq hr.units) (j_lenSet rfl T.n_len T.n_set (jv 0)) (j_callB cd_len T.n_len bo_len (j_cons (jv 0) j_nil)))))
theorem rd_unlike (A : Ad) : ∀ ds M Q Xc, sp_unlike A ds M Q Xc → ds.length = P_unlike.length ∧ wb_unlike A { nx := fun _ M => Fin Q .non M, rt := Fin Q, ex := fun x _ M => Xc x M } (startD N_unlike ds) M := by
  rintro _ M Q Xc ⟨xs, ks, rfl, hk, hl, q⟩
  refine ⟨rfl, ?_⟩
  rw [st_unlike]
  simp only [wb_unlike, wipeD, wNx, wSeq_p, seqE_nx, seqE_rt, seqE_bk, seqE_ct, seqE_ex, wIf, wRet, wRetN, wDrop, wAsg, wBrk, wCnt, wVar, wGet, wC, wOp, wUn, wCB, wNil, wCons, wTest, wAndT, wOrT, wNotT, wAndV, wOrV, wNotV, wIfE, wChain, wTup, wLst, wLstO, wCall, wMeth, wFld, wFst, wCv, wProp, wMake, wSl, wNo, wSome, intK, isBl, gN, gT, gCons', gNil', wSub, wAug, wPar, wBM, wIsT, wFor, wLc, wLcO, wYes, wiSeq, wiStr, wiRng1, wiRng2, wiZip, wFz, frz_lst, frz_tup, at1_0, at2_0, at2_1, at3_0, at3_1, at3_2, at4_0, at4_1, at4_2, at4_3, at5_0, at5_1, at5_2, at5_3, at5_4, seqOf_put, ED.xc, rIxD, rLenD, rIsD, rIntCD, rStrCD, rListD, rListO, rTupD, rAddD, rIntD, rInt0D, rEqD, rIsND, rNegD, rSlD, seqOf_lst, seqOf_tup, optK_some, insK_same, tyN_non, tyN_bl, tyN_int, tyN_str, tyN_tup, tyN_lst, tyN_dct, List.getElem?_cons_zero, List.getElem?_cons_succ, List.set_cons_zero, List.set_cons_succ, List.length_cons, List.length_nil, isB_NoneType_bool, isB_NoneType_int, isB_NoneType_str, isB_NoneType_tuple, isB_NoneType_list, isB_NoneType_dict, isB_bool_bool, isB_bool_int, isB_bool_str, isB_bool_tuple, isB_bool_list, isB_bool_dict, isB_int_bool, isB_int_int, isB_int_str, isB_int_tuple, isB_int_list, isB_int_dict, isB_str_bool, isB_str_int, isB_str_str, isB_str_tuple, isB_str_list, isB_str_dict, isB_tuple_bool, isB_tuple_int, isB_tuple_str, isB_tuple_tuple, isB_tuple_list, isB_tuple_dict, isB_list_bool, isB_list_int, isB_list_str, isB_list_tuple, isB_list_list, isB_list_dict, isB_dict_bool, isB_dict_int, isB_dict_str, isB_dict_tuple, isB_dict_list, isB_dict_dict, isC_bool, isC_int, isC_str, isC_tuple, isC_list, isC_dict, isA_list_tuple, isQ_NoneType, isQ_bool, isQ_int, isQ_str, isQ_tuple, isQ_list, isQ_dict, true_and, and_true, ↓reduceIte, Bool.not_true, Bool.not_false, Bool.false_eq_true, Bool.true_xor, Bool.false_xor, wLenSet, hk]
  refine ⟨hl, ?_⟩
  rw [← keysD_len hk]
  have e : decide (((metK ks ks.length).length : Int) = (ks.length : Int)) = dist ks := by
    unfold dist
    simp only [Int.ofNat_inj]
  rw [e]
  exact fin_of q
theorem ok_unlike {P : Program} {w : World} {K : PySem.W.Frag} {mg : Str → Option Value} {base : Heap} {A : Ad} (T : Txt K mg A) : FnJ P w K mg base 1 A.f_unlike (sp_unlike A) :=
  FnJ.mkAt T.d_unlike sc_unlike (fun cdv R outer s H E hr tk => bd_unlike T cdv R outer s H E hr tk) (rd_unlike A)
structure NamesOk (xs : List Str) : Prop where
  lo : 1 ≤ xs.length
  hi : xs.length ≤ 5
  nd : xs.Nodup
  ok : ∀ x ∈ xs, madeOf LET 8 (.str x) = true
theorem made_len {sg x : Str} {m : Int} (h : madeOf sg m (.str x) = true) : (1 : Int) ≤ x.length ∧ (x.length : Int) ≤ m ∧ allIn x sg = true := by
  have e : madeOf sg m (.str x) = (decide ((1 : Int) ≤ x.length) && (decide ((x.length : Int) ≤ m) && allIn x sg)) := rfl
  rw [e, Bool.and_eq_true, Bool.and_eq_true] at h
  exact ⟨of_decide_eq_true h.1, of_decide_eq_true h.2.1, h.2.2⟩
theorem keysD_strs : ∀ xs : List Str, keysD (xs.map D.str) = some (xs.map Sum.inr)
  | [] => rfl
  | x :: xs => by
    show (keysD (xs.map D.str)).map (Sum.inr x :: ·) = _
    rw [keysD_strs xs]
    rfl
theorem dist_strs {xs : List Str} (h : xs.Nodup) : dist (xs.map Sum.inr) = true := dist_iff.mpr (List.Pairwise.map _ (fun a b hn e => hn (Sum.inr.inj e)) h)
def sp_are_names (A : Ad) : SpD := fun ds M Q _ => ∃ xs, ds = [.lst (xs.map D.str), .int 5] ∧ NamesOk xs ∧ Q (.bl true) M
def wb_are_names (A : Ad) : WS :=
  (wSeq (wIf (wOrT (wNotT (wTest (wCall (sp_is_listed A) (wCons (wVar 0) wNil)))) (wNotT (wTest (wChain (rInt0D fun i j => .bl (decide (i ≤ j))) (rInt0D fun i j => .bl (decide (i ≤ j))) (wC (.int 1)) (wCB rLenD (wCons (wVar 0) wNil)) (wVar 1)))))
  (wRet (wC (.bl false)))
  wNx)
  (wRet (wAndV (wCB (rAllD false) (wCons (wLc (wiSeq (wVar 0)) (gN 2) wYes (wCall (sp_is_plain_name A) (wCons (wVar 2) wNil)) [2]) wNil)) (wCall (sp_unlike A) (wCons (wVar 0) wNil)))))
theorem bd_are_names {P : Program} {w : World} {K : PySem.W.Frag} {mg : Str → Option Value} {base : Heap} {A : Ad} (T : Txt K mg A) (cdv : Value) (R : Around) (outer : List Env) (s : Shared) (H : Hp) (E : XK) (hr : Room 2 (R.deeper (envOfC "are_names" (defScope s_are_names) s.heap.objs.size A.f_are_names cdv)))
    (tk : Takes (cxOf (L2.CX P w) P w K mg base N_are_names "are_names" (defScope s_are_names) A.f_are_names cdv R outer s H E) (WD E)) : JSs (cxOf (L2.CX P w) P w K mg base N_are_names "are_names" (defScope s_are_names) A.f_are_names cdv R outer s H E) (WD E) (defBody s_are_names) (wb_are_names A) :=
  (js_cons (js_if (jt_bool (jt_or (jt_not (jt_val (j_call (ok_is_listed T) hr (by decide) T.g_is_listed tk (j_cons (jv 0) j_nil)))) (jt_or1 (jt_not (jt_chain od_le od_le j_int (j_callB cd_len T.n_len bo_len (j_cons (jv 0) j_nil)) (jv 1))))))
  (js_one (js_ret j_bl))
  js_nil)
  (js_one (js_ret (j_and (j_callB (cd_all rfl) T.n_all bo_all (j_cons (j_lc (own := [("name", 2)]) rfl sc_are_names.nd (ji_seq (jv 0)) (blkOk_by (own := [("name", 2)]) (N := N_are_names) (sc := defScope s_are_names) (by decide +kernel)) (fun _ _ _ _ _ => (jg_name (i := 2) sc_are_names.nd)) (fun _ _ _ _ _ => jts_nil) (fun _ _ _ _ _ => (j_call (ok_is_plain_name T) hr (by decide) T.g_is_plain_name tkF (j_cons (jv 2) j_nil)))) j_nil)) (j_one (j_call (ok_unlike T) hr (by decide) T.g_unlike tk (j_cons (jv 0) j_nil)))))))
theorem rd_are_names (A : Ad) : ∀ ds M Q Xc, sp_are_names A ds M Q Xc → ds.length = P_are_names.length ∧ wb_are_names A { nx := fun _ M => Fin Q .non M, rt := Fin Q, ex := fun x _ M => Xc x M } (startD N_are_names ds) M := by
  rintro _ M Q Xc ⟨xs, rfl, hn, q⟩
  refine ⟨rfl, ?_⟩
  rw [st_are_names]
  have h1 : (1 : Int) ≤ xs.length := by have := hn.lo; omega
  have h2 : (xs.length : Int) ≤ 5 := by have := hn.hi; omega
  have := sizeLine_big
  simp only [wb_are_names, wipeD, wNx, wSeq_p, seqE_nx, seqE_rt, seqE_bk, seqE_ct, seqE_ex, wIf, wRet, wRetN, wDrop, wAsg, wBrk, wCnt, wVar, wGet, wC, wOp, wUn, wCB, wNil, wCons, wTest, wAndT, wOrT, wNotT, wAndV, wOrV, wNotV, wIfE, wChain, wTup, wLst, wLstO, wCall, wMeth, wFld, wFst, wCv, wProp, wMake, wSl, wNo, wSome, intK, isBl, gN, gT, gCons', gNil', wSub, wAug, wPar, wBM, wIsT, wFor, wLc, wLcO, wYes, wiSeq, wiStr, wiRng1, wiRng2, wiZip, wFz, frz_lst, frz_tup, at1_0, at2_0, at2_1, at3_0, at3_1, at3_2, at4_0, at4_1, at4_2, at4_3, at5_0, at5_1, at5_2, at5_3, at5_4, seqOf_put, ED.xc, rIxD, rLenD, rIsD, rIntCD, rStrCD, rListD, rListO, rTupD, rAddD, rIntD, rInt0D, rEqD, rIsND, rNegD, rSlD, seqOf_lst, seqOf_tup, optK_some, insK_same, tyN_non, tyN_bl, tyN_int, tyN_str, tyN_tup, tyN_lst, tyN_dct, List.getElem?_cons_zero, List.getElem?_cons_succ, List.set_cons_zero, List.set_cons_succ, List.length_cons, List.length_nil, isB_NoneType_bool, isB_NoneType_int, isB_NoneType_str, isB_NoneType_tuple, isB_NoneType_list, isB_NoneType_dict, isB_bool_bool, isB_bool_int, isB_bool_str, isB_bool_tuple, isB_bool_list, isB_bool_dict, isB_int_bool, isB_int_int, isB_int_str, isB_int_tuple, isB_int_list, isB_int_dict, isB_str_bool, isB_str_int, isB_str_str, isB_str_tuple, isB_str_list, isB_str_dict, isB_tuple_bool, isB_tuple_int, isB_tuple_str, isB_tuple_tuple, isB_tuple_list, isB_tuple_dict, isB_list_bool, isB_list_int, isB_list_str, isB_list_tuple, isB_list_list, isB_list_dict, isB_dict_bool, isB_dict_int, isB_dict_str, isB_dict_tuple, isB_dict_list, isB_dict_dict, isC_bool, isC_int, isC_str, isC_tuple, isC_list, isC_dict, isA_list_tuple, isQ_NoneType, isQ_bool, isQ_int, isQ_str, isQ_tuple, isQ_list, isQ_dict, true_and, and_true, ↓reduceIte, Bool.not_true, Bool.not_false, Bool.false_eq_true, Bool.true_xor, Bool.false_xor, sp_is_listed]
  refine ⟨_, rfl, rfl, ?_⟩
  simp only [isSeq, List.length_map, h1, h2, wipeD, wNx, wSeq_p, seqE_nx, seqE_rt, seqE_bk, seqE_ct, seqE_ex, wIf, wRet, wRetN, wDrop, wAsg, wBrk, wCnt, wVar, wGet, wC, wOp, wUn, wCB, wNil, wCons, wTest, wAndT, wOrT, wNotT, wAndV, wOrV, wNotV, wIfE, wChain, wTup, wLst, wLstO, wCall, wMeth, wFld, wFst, wCv, wProp, wMake, wSl, wNo, wSome, intK, isBl, gN, gT, gCons', gNil', wSub, wAug, wPar, wBM, wIsT, wFor, wLc, wLcO, wYes, wiSeq, wiStr, wiRng1, wiRng2, wiZip, wFz, frz_lst, frz_tup, at1_0, at2_0, at2_1, at3_0, at3_1, at3_2, at4_0, at4_1, at4_2, at4_3, at5_0, at5_1, at5_2, at5_3, at5_4, seqOf_put, ED.xc, rIxD, rLenD, rIsD, rIntCD, rStrCD, rListD, rListO, rTupD, rAddD, rIntD, rInt0D, rEqD, rIsND, rNegD, rSlD, seqOf_lst, seqOf_tup, optK_some, insK_same, tyN_non, tyN_bl, tyN_int, tyN_str, tyN_tup, tyN_lst, tyN_dct, List.getElem?_cons_zero, List.getElem?_cons_succ, List.set_cons_zero, List.set_cons_succ, List.length_cons, List.length_nil, isB_NoneType_bool, isB_NoneType_int, isB_NoneType_str, isB_NoneType_tuple, isB_NoneType_list, isB_NoneType_dict, isB_bool_bool, isB_bool_int, isB_bool_str, isB_bool_tuple, isB_bool_list, isB_bool_dict, isB_int_bool, isB_int_int, isB_int_str, isB_int_tuple, isB_int_list, isB_int_dict, isB_str_bool, isB_str_int, isB_str_str, isB_str_tuple, isB_str_list, isB_str_dict, isB_tuple_bool, isB_tuple_int, isB_tuple_str, isB_tuple_tuple, isB_tuple_list, isB_tuple_dict, isB_list_bool, isB_list_int, isB_list_str, isB_list_tuple, isB_list_list, isB_list_dict, isB_dict_bool, isB_dict_int, isB_dict_str, isB_dict_tuple, isB_dict_list, isB_dict_dict, isC_bool, isC_int, isC_str, isC_tuple, isC_list, isC_dict, isA_list_tuple, isQ_NoneType, isQ_bool, isQ_int, isQ_str, isQ_tuple, isQ_list, isQ_dict, true_and, and_true, ↓reduceIte, Bool.not_true, Bool.not_false, Bool.false_eq_true, Bool.true_xor, Bool.false_xor, decide_true]
  refine lcR_mapL D.str (fun x => .bl true) (fun x => madeOf LET 8 (.str x) = true) (fun x acc R hx h => ?_) xs [] hn.ok (by simp only [List.length_nil]; have := hn.hi; omega) ?_
  · simp only [wipeD, wNx, wSeq_p, seqE_nx, seqE_rt, seqE_bk, seqE_ct, seqE_ex, wIf, wRet, wRetN, wDrop, wAsg, wBrk, wCnt, wVar, wGet, wC, wOp, wUn, wCB, wNil, wCons, wTest, wAndT, wOrT, wNotT, wAndV, wOrV, wNotV, wIfE, wChain, wTup, wLst, wLstO, wCall, wMeth, wFld, wFst, wCv, wProp, wMake, wSl, wNo, wSome, intK, isBl, gN, gT, gCons', gNil', wSub, wAug, wPar, wBM, wIsT, wFor, wLc, wLcO, wYes, wiSeq, wiStr, wiRng1, wiRng2, wiZip, wFz, frz_lst, frz_tup, at1_0, at2_0, at2_1, at3_0, at3_1, at3_2, at4_0, at4_1, at4_2, at4_3, at5_0, at5_1, at5_2, at5_3, at5_4, seqOf_put, ED.xc, rIxD, rLenD, rIsD, rIntCD, rStrCD, rListD, rListO, rTupD, rAddD, rIntD, rInt0D, rEqD, rIsND, rNegD, rSlD, seqOf_lst, seqOf_tup, optK_some, insK_same, tyN_non, tyN_bl, tyN_int, tyN_str, tyN_tup, tyN_lst, tyN_dct, List.getElem?_cons_zero, List.getElem?_cons_succ, List.set_cons_zero, List.set_cons_succ, List.length_cons, List.length_nil, isB_NoneType_bool, isB_NoneType_int, isB_NoneType_str, isB_NoneType_tuple, isB_NoneType_list, isB_NoneType_dict, isB_bool_bool, isB_bool_int, isB_bool_str, isB_bool_tuple, isB_bool_list, isB_bool_dict, isB_int_bool, isB_int_int, isB_int_str, isB_int_tuple, isB_int_list, isB_int_dict, isB_str_bool, isB_str_int, isB_str_str, isB_str_tuple, isB_str_list, isB_str_dict, isB_tuple_bool, isB_tuple_int, isB_tuple_str, isB_tuple_tuple, isB_tuple_list, isB_tuple_dict, isB_list_bool, isB_list_int, isB_list_str, isB_list_tuple, isB_list_list, isB_list_dict, isB_dict_bool, isB_dict_int, isB_dict_str, isB_dict_tuple, isB_dict_list, isB_dict_dict, isC_bool, isC_int, isC_str, isC_tuple, isC_list, isC_dict, isA_list_tuple, isQ_NoneType, isQ_bool, isQ_int, isQ_str, isQ_tuple, isQ_list, isQ_dict, true_and, and_true, ↓reduceIte, Bool.not_true, Bool.not_false, Bool.false_eq_true, Bool.true_xor, Bool.false_xor, sp_is_plain_name]
    have hm := made_len hx
    refine ⟨_, rfl, rfl, (by show x.length < 90000; omega), ?_⟩
    rw [hx]
    exact h
  · rw [List.nil_append]
    have e : (xs.map fun _ => true).all id = true := by simp
    simp only [rAllD, bools_map, wipeD, wNx, wSeq_p, seqE_nx, seqE_rt, seqE_bk, seqE_ct, seqE_ex, wIf, wRet, wRetN, wDrop, wAsg, wBrk, wCnt, wVar, wGet, wC, wOp, wUn, wCB, wNil, wCons, wTest, wAndT, wOrT, wNotT, wAndV, wOrV, wNotV, wIfE, wChain, wTup, wLst, wLstO, wCall, wMeth, wFld, wFst, wCv, wProp, wMake, wSl, wNo, wSome, intK, isBl, gN, gT, gCons', gNil', wSub, wAug, wPar, wBM, wIsT, wFor, wLc, wLcO, wYes, wiSeq, wiStr, wiRng1, wiRng2, wiZip, wFz, frz_lst, frz_tup, at1_0, at2_0, at2_1, at3_0, at3_1, at3_2, at4_0, at4_1, at4_2, at4_3, at5_0, at5_1, at5_2, at5_3, at5_4, seqOf_put, ED.xc, rIxD, rLenD, rIsD, rIntCD, rStrCD, rListD, rListO, rTupD, rAddD, rIntD, rInt0D, rEqD, rIsND, rNegD, rSlD, seqOf_lst, seqOf_tup, optK_some, insK_same, tyN_non, tyN_bl, tyN_int, tyN_str, tyN_tup, tyN_lst, tyN_dct, List.getElem?_cons_zero, List.getElem?_cons_succ, List.set_cons_zero, List.set_cons_succ, List.length_cons, List.length_nil, isB_NoneType_bool, isB_NoneType_int, isB_NoneType_str, isB_NoneType_tuple, isB_NoneType_list, isB_NoneType_dict, isB_bool_bool, isB_bool_int, isB_bool_str, isB_bool_tuple, isB_bool_list, isB_bool_dict, isB_int_bool, isB_int_int, isB_int_str, isB_int_tuple, isB_int_list, isB_int_dict, isB_str_bool, isB_str_int, isB_str_str, isB_str_tuple, isB_str_list, isB_str_dict, isB_tuple_bool, isB_tuple_int, isB_tuple_str, isB_tuple_tuple, isB_tuple_list, isB_tuple_dict, isB_list_bool, isB_list_int, isB_list_str, isB_list_tuple, isB_list_list, isB_list_dict, isB_dict_bool, isB_dict_int, isB_dict_str, isB_dict_tuple, isB_dict_list, isB_dict_dict, isC_bool, isC_int, isC_str, isC_tuple, isC_list, isC_dict, isA_list_tuple, isQ_NoneType, isQ_bool, isQ_int, isQ_str, isQ_tuple, isQ_list, isQ_dict, true_and, and_true, ↓reduceIte, Bool.not_true, Bool.not_false, Bool.false_eq_true, Bool.true_xor, Bool.false_xor, e, sp_unlike]
    refine ⟨_, _, rfl, keysD_strs xs, ?_, ?_⟩
    · rw [List.length_map]; have := hn.hi; omega
    · rw [dist_strs hn.nd]
      exact fin_of q
theorem ok_are_names {P : Program} {w : World} {K : PySem.W.Frag} {mg : Str → Option Value} {base : Heap} {A : Ad} (T : Txt K mg A) : FnJ P w K mg base 3 A.f_are_names (sp_are_names A) :=
  FnJ.mkAt T.d_are_names sc_are_names (fun cdv R outer s H E hr tk => bd_are_names T cdv R outer s H E hr tk) (rd_are_names A)
/-! ### data that comes: its size -/
mutual
/-- plain data at most n deep, nowhere long -/
def Nc : D → Nat → Prop
  | .non, _ => True
  | .bl _, _ => True
  | .int _, _ => True
  | .str x, _ => x.length < 90000 ∧ PyData.strOk x = true
  | .tup xs, n => (0 < n ∧ xs.length < 3000) ∧ Ncs xs (n - 1)
  | .lst xs, n => (0 < n ∧ xs.length < 3000) ∧ Ncs xs (n - 1)
  | _, _ => False
def Ncs : List D → Nat → Prop
  | [], _ => True
  | d :: ds, n => Nc d n ∧ Ncs ds n
end
mutual
theorem Nc.dat : ∀ (d : D) (n : Nat), Nc d n → Dat d n
  | .non, n, _ => trivial
  | .bl _, n, _ => trivial
  | .int _, n, _ => trivial
  | .str x, n, h => h.2
  | .tup xs, n, h => ⟨h.1.1, Ncs.dat xs (n - 1) h.2⟩
  | .lst xs, n, h => ⟨h.1.1, Ncs.dat xs (n - 1) h.2⟩
  | .ty _, n, h => h.elim
  | .ref _, n, h => h.elim
  | .dct _ _, n, h => h.elim
  | .ins _ _ _, n, h => h.elim
  | .scr _, n, h => h.elim
theorem Ncs.dat : ∀ (ds : List D) (n : Nat), Ncs ds n → Dats ds n
  | [], n, _ => trivial
  | d :: ds, n, h => ⟨Nc.dat d n h.1, Ncs.dat ds n h.2⟩
end
mutual
theorem Nc.mono : ∀ (d : D) (n m : Nat), n ≤ m → Nc d n → Nc d m
  | .non, n, m, _, _ => trivial
  | .bl _, n, m, _, _ => trivial
  | .int _, n, m, _, _ => trivial
  | .str x, n, m, _, h => h
  | .tup xs, n, m, k, h => ⟨⟨by have := h.1.1; omega, h.1.2⟩, Ncs.mono xs (n - 1) (m - 1) (by omega) h.2⟩
  | .lst xs, n, m, k, h => ⟨⟨by have := h.1.1; omega, h.1.2⟩, Ncs.mono xs (n - 1) (m - 1) (by omega) h.2⟩
  | .ty _, n, m, _, h => h.elim
  | .ref _, n, m, _, h => h.elim
  | .dct _ _, n, m, _, h => h.elim
  | .ins _ _ _, n, m, _, h => h.elim
  | .scr _, n, m, _, h => h.elim
theorem Ncs.mono : ∀ (ds : List D) (n m : Nat), n ≤ m → Ncs ds n → Ncs ds m
  | [], n, m, _, _ => trivial
  | d :: ds, n, m, k, h => ⟨Nc.mono d n m k h.1, Ncs.mono ds n m k h.2⟩
end
theorem Ncs_iff {n : Nat} : ∀ {ds : List D}, Ncs ds n ↔ ∀ d ∈ ds, Nc d n
  | [] => by simp [Ncs]
  | d :: ds => by
    show (Nc d n ∧ Ncs ds n) ↔ _
    rw [Ncs_iff, List.forall_mem_cons]
theorem Nc.pl {d : D} {n : Nat} (h : Nc d n) : pl d = true := by cases d <;> first | rfl | exact h.elim
theorem Nc.short {d : D} {n : Nat} (h : Nc d n) : short d := by
  cases d <;> first | exact h.1 | exact h.1.2 | trivial
/-! ### leaves -/
def leavesD : D → List D
  | .tup [a, b] => leavesD a ++ leavesD b
  | d => [d]
def nsz : D → Nat
  | .tup [a, b] => nsz a + nsz b + 1
  | _ => 1
def nszs (ds : List D) : Nat := (ds.map nsz).sum
def isPair : D → Bool
  | .tup [_, _] => true
  | _ => false
theorem leaves_one {d : D} (h : isPair d = false) : leavesD d = [d] := by
  unfold leavesD
  split
  · cases h
  · rfl
theorem leaves_pos : ∀ d : D, 1 ≤ (leavesD d).length
  | .tup [a, b] => by
    have := leaves_pos a
    simp only [leavesD, List.length_append]
    omega
  | .tup [] => by simp [leavesD]
  | .tup [a] => by simp [leavesD]
  | .tup (a :: b :: c :: ds) => by simp [leavesD]
  | .non => by simp [leavesD]
  | .bl _ => by simp [leavesD]
  | .int _ => by simp [leavesD]
  | .str _ => by simp [leavesD]
  | .ty _ => by simp [leavesD]
  | .ref _ => by simp [leavesD]
  | .lst _ => by simp [leavesD]
  | .dct _ _ => by simp [leavesD]
  | .ins _ _ _ => by simp [leavesD]
  | .scr _ => by simp [leavesD]
theorem nsz_pos : ∀ d : D, 1 ≤ nsz d := fun d => by
  unfold nsz
  split <;> omega
def flv (ws : List D) : List D := ws.reverse.flatMap leavesD
theorem flv_snoc (ws : List D) (d : D) : flv (ws ++ [d]) = leavesD d ++ flv ws := by
  unfold flv
  rw [List.reverse_append, List.reverse_singleton, List.singleton_append, List.flatMap_cons]
theorem flv_len : ∀ ws : List D, ws.length ≤ (flv ws).length
  | [] => Nat.zero_le _
  | d :: ws => by
    have h := flv_len ws
    have := leaves_pos d
    have e : flv (d :: ws) = flv ws ++ leavesD d := by
      unfold flv
      rw [List.reverse_cons, List.flatMap_append, List.flatMap_singleton]
    rw [e, List.length_append, List.length_cons]
    omega

end DL.K09
namespace DL.K09
open PySem PySem.Spec PyProof.Rows L2 RZ
abbrev RD (wb : WS) (Q : KN) (Xc : KX) (ds : SD) (M : Mem) : Prop := wb { nx := fun _ M => Fin Q .non M, rt := Fin Q, ex := fun x _ M => Xc x M } ds M
theorem deq_str {x y : Str} : deq (.str x) (.str y) = decide (x = y) := by
  show (x == y) = _
  by_cases h : x = y
  · subst h; simp
  · simp [h]
theorem inD_strs {x : Str} : ∀ ss : List Str, inD (.str x) (ss.map D.str) = ss.any fun y => decide (y = x)
  | [] => rfl
  | y :: ss => by
    show (deq (.str y) (.str x) || inD (.str x) (ss.map D.str)) = _
    rw [inD_strs ss, deq_str, List.any_cons]
theorem flat_map (ss : List Str) : (ss.map D.str).all flatD = true := by
  rw [List.all_map]
  exact List.all_eq_true.mpr fun _ _ => rfl
structure OwnOk (fs : List Str) : Prop where
  m : ("moment" : Str) ∉ fs
  s : ("source" : Str) ∉ fs
def shp (A : Ad) (fs ss : List Str) : D := .ins A.c_Shape ns_Shape [.tup (fs.map .str), .tup (ss.map .str)]
def sp_Shape___init__ (A : Ad) : SpD := fun ds M Q _ => ∃ a fs ss, ds = [.ref a, .lst (fs.map D.str), .lst (ss.map D.str)] ∧ M a = some (.ins A.c_Shape [] []) ∧ NamesOk fs ∧ NamesOk ss ∧ OwnOk fs ∧
  Q .non (mput M a (.ins A.c_Shape ns_Shape [.tup (fs.map .str), .tup (ss.map .str)]))
def wb_Shape___init__ (A : Ad) : WS :=
  (wSeq (wIf (wOrT (wNotT (wTest (wCall (sp_are_names A) (wCons (wVar 1) (wCons (wCv A.c_Shape (.int 5) (wC (.ref A.c_Shape))) wNil))))) (wTest (wCB (rAllD true) (wCons (wLc (wiSeq (wVar 1)) (gN 3) wYes (wOp (rInD false) (wVar 3) (wC k_OWN_COLUMNS)) [3]) wNil))))
  wNever
  wNx)
  (wSeq (wIf (wNotT (wTest (wCall (sp_are_names A) (wCons (wVar 2) (wCons (wCv A.c_Shape (.int 5) (wC (.ref A.c_Shape))) wNil)))))
  wNever
  wNx)
  (wSeq (wFst A.c_Shape [] "own_fields" none (wCB rTupD (wCons (wVar 1) wNil)) (wVar 0))
  (wFst A.c_Shape ["own_fields"] "own_sources" none (wCB rTupD (wCons (wVar 2) wNil)) (wVar 0)))))
theorem bd_Shape___init__ {P : Program} {w : World} {K : PySem.W.Frag} {mg : Str → Option Value} {base : Heap} {A : Ad} (T : Txt K mg A) (cdv : Value) (R : Around) (outer : List Env) (s : Shared) (H : Hp) (E : XK) (hr : Room 3 (R.deeper (envOfC "Shape.__init__" (defScope s_Shape___init__) s.heap.objs.size A.f_Shape___init__ cdv)))
    (tk : Takes (cxOf (L2.CX P w) P w K mg base N_Shape___init__ "Shape.__init__" (defScope s_Shape___init__) A.f_Shape___init__ cdv R outer s H E) (WD E)) : JSs (cxOf (L2.CX P w) P w K mg base N_Shape___init__ "Shape.__init__" (defScope s_Shape___init__) A.f_Shape___init__ cdv R outer s H E) (WD E) (defBody s_Shape___init__) (wb_Shape___init__ A) :=
  (js_cons (js_if (jt_bool (jt_or (jt_not (jt_val (j_call (ok_are_names T) hr (by decide) T.g_are_names tk (j_cons (jv 1) (j_cons (j_cv T.cv_Shape_FIELDS (j_glob (v := .ref A.c_Shape) T.g_Shape rfl (fun _ _ => rfl))) j_nil))))) (jt_or1 (jt_val (j_callB (cd_any rfl) T.n_any bo_any (j_cons (j_lc (own := [("name", 3)]) rfl sc_Shape___init__.nd (ji_seq (jv 1)) (blkOk_by (own := [("name", 3)]) (N := N_Shape___init__) (sc := defScope s_Shape___init__) (by decide +kernel)) (fun _ _ _ _ _ => (jg_name (i := 3) sc_Shape___init__.nd)) (fun _ _ _ _ _ => jts_nil) (fun _ _ _ _ _ => (j_cmp od_in (jv 3) (j_k T.k_OWN_COLUMNS)))) j_nil))))))
  jss_never
  js_nil)
  (js_cons (js_if (jt_not (jt_val (j_call (ok_are_names T) hr (by decide) T.g_are_names tk (j_cons (jv 2) (j_cons (j_cv T.cv_Shape_SOURCES (j_glob (v := .ref A.c_Shape) T.g_Shape rfl (fun _ _ => rfl))) j_nil)))))
  jss_never
  js_nil)
  (js_cons (js_fld (C := A.c_Shape) (ns := []) (o' := none) T.cl_Shape T.na_Shape_own_fields (by decide +kernel) (by decide +kernel) (jv 0) (j_callTy cd_tup T.n_tuple bo_tuple (j_cons (jv 1) j_nil)))
  (js_one (js_fld (C := A.c_Shape) (ns := ["own_fields"]) (o' := none) T.cl_Shape T.na_Shape_own_sources (by decide +kernel) (by decide +kernel) (jv 0) (j_callTy cd_tup T.n_tuple bo_tuple (j_cons (jv 2) j_nil)))))))
theorem rd_Shape___init__ (A : Ad) : ∀ ds M Q Xc, sp_Shape___init__ A ds M Q Xc → ds.length = P_Shape___init__.length ∧ RD (wb_Shape___init__ A) Q Xc (startD N_Shape___init__ ds) M := by
  rintro _ M Q Xc ⟨a, fs, ss, rfl, ha, hf, hs, ho, q⟩
  refine ⟨rfl, ?_⟩
  rw [st_Shape___init__]
  have := sizeLine_big
  simp only [RD, wb_Shape___init__, wipeD, wNx, wSeq_p, seqE_nx, seqE_rt, seqE_bk, seqE_ct, seqE_ex, wIf, wRet, wRetN, wDrop, wAsg, wBrk, wCnt, wVar, wGet, wC, wOp, wUn, wCB, wNil, wCons, wTest, wAndT, wOrT, wNotT, wAndV, wOrV, wNotV, wIfE, wChain, wTup, wLst, wLstO, wCall, wMeth, wFld, wFst, wCv, wProp, wMake, wSl, wNo, wSome, intK, isBl, gN, gT, gCons', gNil', wSub, wAug, wPar, wBM, wIsT, wFor, wLc, wLcO, wYes, wiSeq, wiStr, wiRng1, wiRng2, wiZip, wFz, frz_lst, frz_tup, at1_0, at2_0, at2_1, at3_0, at3_1, at3_2, at4_0, at4_1, at4_2, at4_3, at5_0, at5_1, at5_2, at5_3, at5_4, seqOf_put, ED.xc, rIxD, rLenD, rIsD, rIntCD, rStrCD, rListD, rListO, rTupD, rAddD, rIntD, rInt0D, rEqD, rIsND, rNegD, rSlD, seqOf_lst, seqOf_tup, optK_some, insK_same, tyN_non, tyN_bl, tyN_int, tyN_str, tyN_tup, tyN_lst, tyN_dct, List.getElem?_cons_zero, List.getElem?_cons_succ, List.set_cons_zero, List.set_cons_succ, List.length_cons, List.length_nil, isB_NoneType_bool, isB_NoneType_int, isB_NoneType_str, isB_NoneType_tuple, isB_NoneType_list, isB_NoneType_dict, isB_bool_bool, isB_bool_int, isB_bool_str, isB_bool_tuple, isB_bool_list, isB_bool_dict, isB_int_bool, isB_int_int, isB_int_str, isB_int_tuple, isB_int_list, isB_int_dict, isB_str_bool, isB_str_int, isB_str_str, isB_str_tuple, isB_str_list, isB_str_dict, isB_tuple_bool, isB_tuple_int, isB_tuple_str, isB_tuple_tuple, isB_tuple_list, isB_tuple_dict, isB_list_bool, isB_list_int, isB_list_str, isB_list_tuple, isB_list_list, isB_list_dict, isB_dict_bool, isB_dict_int, isB_dict_str, isB_dict_tuple, isB_dict_list, isB_dict_dict, isC_bool, isC_int, isC_str, isC_tuple, isC_list, isC_dict, isA_list_tuple, isQ_NoneType, isQ_bool, isQ_int, isQ_str, isQ_tuple, isQ_list, isQ_dict, true_and, and_true, ↓reduceIte, Bool.not_true, Bool.not_false, Bool.false_eq_true, Bool.true_xor, Bool.false_xor, sp_are_names]
  refine ⟨fs, rfl, hf, ?_⟩
  refine lcR_mapL D.str (fun x => .bl false) (fun x => x ≠ ("moment" : Str) ∧ x ≠ ("source" : Str)) (fun x acc R hx h => ?_) fs [] (fun x hx => ⟨fun e => ho.m (e ▸ hx), fun e => ho.s (e ▸ hx)⟩) (by simp only [List.length_nil]; have := hf.hi; omega) ?_
  · have e : inD (.str x) [.str "moment", .str "source"] = false := by
      have e2 := inD_strs (x := x) [("moment" : Str), ("source" : Str)]
      rw [show inD (.str x) [.str "moment", .str "source"] = inD (.str x) ([("moment" : Str), ("source" : Str)].map D.str) from rfl, e2]
      simp [Ne.symm hx.1, Ne.symm hx.2]
    simp only [wipeD, wNx, wSeq_p, seqE_nx, seqE_rt, seqE_bk, seqE_ct, seqE_ex, wIf, wRet, wRetN, wDrop, wAsg, wBrk, wCnt, wVar, wGet, wC, wOp, wUn, wCB, wNil, wCons, wTest, wAndT, wOrT, wNotT, wAndV, wOrV, wNotV, wIfE, wChain, wTup, wLst, wLstO, wCall, wMeth, wFld, wFst, wCv, wProp, wMake, wSl, wNo, wSome, intK, isBl, gN, gT, gCons', gNil', wSub, wAug, wPar, wBM, wIsT, wFor, wLc, wLcO, wYes, wiSeq, wiStr, wiRng1, wiRng2, wiZip, wFz, frz_lst, frz_tup, at1_0, at2_0, at2_1, at3_0, at3_1, at3_2, at4_0, at4_1, at4_2, at4_3, at5_0, at5_1, at5_2, at5_3, at5_4, seqOf_put, ED.xc, rIxD, rLenD, rIsD, rIntCD, rStrCD, rListD, rListO, rTupD, rAddD, rIntD, rInt0D, rEqD, rIsND, rNegD, rSlD, seqOf_lst, seqOf_tup, optK_some, insK_same, tyN_non, tyN_bl, tyN_int, tyN_str, tyN_tup, tyN_lst, tyN_dct, List.getElem?_cons_zero, List.getElem?_cons_succ, List.set_cons_zero, List.set_cons_succ, List.length_cons, List.length_nil, isB_NoneType_bool, isB_NoneType_int, isB_NoneType_str, isB_NoneType_tuple, isB_NoneType_list, isB_NoneType_dict, isB_bool_bool, isB_bool_int, isB_bool_str, isB_bool_tuple, isB_bool_list, isB_bool_dict, isB_int_bool, isB_int_int, isB_int_str, isB_int_tuple, isB_int_list, isB_int_dict, isB_str_bool, isB_str_int, isB_str_str, isB_str_tuple, isB_str_list, isB_str_dict, isB_tuple_bool, isB_tuple_int, isB_tuple_str, isB_tuple_tuple, isB_tuple_list, isB_tuple_dict, isB_list_bool, isB_list_int, isB_list_str, isB_list_tuple, isB_list_list, isB_list_dict, isB_dict_bool, isB_dict_int, isB_dict_str, isB_dict_tuple, isB_dict_list, isB_dict_dict, isC_bool, isC_int, isC_str, isC_tuple, isC_list, isC_dict, isA_list_tuple, isQ_NoneType, isQ_bool, isQ_int, isQ_str, isQ_tuple, isQ_list, isQ_dict, true_and, and_true, ↓reduceIte, Bool.not_true, Bool.not_false, Bool.false_eq_true, Bool.true_xor, Bool.false_xor, rInD, k_OWN_COLUMNS, e]
    exact ⟨rfl, rfl, h⟩
  · rw [List.nil_append]
    have e : (fs.map fun _ => false).any id = false := by simp
    simp only [rAllD, bools_map, wipeD, wNx, wSeq_p, seqE_nx, seqE_rt, seqE_bk, seqE_ct, seqE_ex, wIf, wRet, wRetN, wDrop, wAsg, wBrk, wCnt, wVar, wGet, wC, wOp, wUn, wCB, wNil, wCons, wTest, wAndT, wOrT, wNotT, wAndV, wOrV, wNotV, wIfE, wChain, wTup, wLst, wLstO, wCall, wMeth, wFld, wFst, wCv, wProp, wMake, wSl, wNo, wSome, intK, isBl, gN, gT, gCons', gNil', wSub, wAug, wPar, wBM, wIsT, wFor, wLc, wLcO, wYes, wiSeq, wiStr, wiRng1, wiRng2, wiZip, wFz, frz_lst, frz_tup, at1_0, at2_0, at2_1, at3_0, at3_1, at3_2, at4_0, at4_1, at4_2, at4_3, at5_0, at5_1, at5_2, at5_3, at5_4, seqOf_put, ED.xc, rIxD, rLenD, rIsD, rIntCD, rStrCD, rListD, rListO, rTupD, rAddD, rIntD, rInt0D, rEqD, rIsND, rNegD, rSlD, seqOf_lst, seqOf_tup, optK_some, insK_same, tyN_non, tyN_bl, tyN_int, tyN_str, tyN_tup, tyN_lst, tyN_dct, List.getElem?_cons_zero, List.getElem?_cons_succ, List.set_cons_zero, List.set_cons_succ, List.length_cons, List.length_nil, isB_NoneType_bool, isB_NoneType_int, isB_NoneType_str, isB_NoneType_tuple, isB_NoneType_list, isB_NoneType_dict, isB_bool_bool, isB_bool_int, isB_bool_str, isB_bool_tuple, isB_bool_list, isB_bool_dict, isB_int_bool, isB_int_int, isB_int_str, isB_int_tuple, isB_int_list, isB_int_dict, isB_str_bool, isB_str_int, isB_str_str, isB_str_tuple, isB_str_list, isB_str_dict, isB_tuple_bool, isB_tuple_int, isB_tuple_str, isB_tuple_tuple, isB_tuple_list, isB_tuple_dict, isB_list_bool, isB_list_int, isB_list_str, isB_list_tuple, isB_list_list, isB_list_dict, isB_dict_bool, isB_dict_int, isB_dict_str, isB_dict_tuple, isB_dict_list, isB_dict_dict, isC_bool, isC_int, isC_str, isC_tuple, isC_list, isC_dict, isA_list_tuple, isQ_NoneType, isQ_bool, isQ_int, isQ_str, isQ_tuple, isQ_list, isQ_dict, true_and, and_true, ↓reduceIte, Bool.not_true, Bool.not_false, Bool.false_eq_true, Bool.true_xor, Bool.false_xor, e]
    refine ⟨ss, rfl, hs, ?_⟩
    simp only [wipeD, wNx, wSeq_p, seqE_nx, seqE_rt, seqE_bk, seqE_ct, seqE_ex, wIf, wRet, wRetN, wDrop, wAsg, wBrk, wCnt, wVar, wGet, wC, wOp, wUn, wCB, wNil, wCons, wTest, wAndT, wOrT, wNotT, wAndV, wOrV, wNotV, wIfE, wChain, wTup, wLst, wLstO, wCall, wMeth, wFld, wFst, wCv, wProp, wMake, wSl, wNo, wSome, intK, isBl, gN, gT, gCons', gNil', wSub, wAug, wPar, wBM, wIsT, wFor, wLc, wLcO, wYes, wiSeq, wiStr, wiRng1, wiRng2, wiZip, wFz, frz_lst, frz_tup, at1_0, at2_0, at2_1, at3_0, at3_1, at3_2, at4_0, at4_1, at4_2, at4_3, at5_0, at5_1, at5_2, at5_3, at5_4, seqOf_put, ED.xc, rIxD, rLenD, rIsD, rIntCD, rStrCD, rListD, rListO, rTupD, rAddD, rIntD, rInt0D, rEqD, rIsND, rNegD, rSlD, seqOf_lst, seqOf_tup, optK_some, insK_same, tyN_non, tyN_bl, tyN_int, tyN_str, tyN_tup, tyN_lst, tyN_dct, List.getElem?_cons_zero, List.getElem?_cons_succ, List.set_cons_zero, List.set_cons_succ, List.length_cons, List.length_nil, isB_NoneType_bool, isB_NoneType_int, isB_NoneType_str, isB_NoneType_tuple, isB_NoneType_list, isB_NoneType_dict, isB_bool_bool, isB_bool_int, isB_bool_str, isB_bool_tuple, isB_bool_list, isB_bool_dict, isB_int_bool, isB_int_int, isB_int_str, isB_int_tuple, isB_int_list, isB_int_dict, isB_str_bool, isB_str_int, isB_str_str, isB_str_tuple, isB_str_list, isB_str_dict, isB_tuple_bool, isB_tuple_int, isB_tuple_str, isB_tuple_tuple, isB_tuple_list, isB_tuple_dict, isB_list_bool, isB_list_int, isB_list_str, isB_list_tuple, isB_list_list, isB_list_dict, isB_dict_bool, isB_dict_int, isB_dict_str, isB_dict_tuple, isB_dict_list, isB_dict_dict, isC_bool, isC_int, isC_str, isC_tuple, isC_list, isC_dict, isA_list_tuple, isQ_NoneType, isQ_bool, isQ_int, isQ_str, isQ_tuple, isQ_list, isQ_dict, true_and, and_true, ↓reduceIte, Bool.not_true, Bool.not_false, Bool.false_eq_true, Bool.true_xor, Bool.false_xor, ha]
    refine (show _ ∧ _ ∧ _ from ⟨rfl, rfl, ?_⟩)
    rw [mput_same]
    refine (show _ ∧ _ ∧ _ from ⟨rfl, rfl, ?_⟩)
    rw [mput_mput]
    exact fin_of q
theorem ok_Shape___init__ {P : Program} {w : World} {K : PySem.W.Frag} {mg : Str → Option Value} {base : Heap} {A : Ad} (T : Txt K mg A) : FnJ P w K mg base 4 A.f_Shape___init__ (sp_Shape___init__ A) :=
  FnJ.mkAt T.d_Shape___init__ sc_Shape___init__ (fun cdv R outer s H E hr tk => bd_Shape___init__ T cdv R outer s H E hr tk) (rd_Shape___init__ A)
/-! ### is_row -/
def wordOk : D → Bool
  | .non => true
  | d => madeOf L36 8 d
def strIn (ss : List Str) : D → Bool
  | .str x => ss.any fun y => decide (y = x)
  | _ => false
def valsOk (n : Nat) : D → Bool
  | .tup ws => decide (ws.length = n) && ws.all wordOk
  | _ => false
def isRow (n : Nat) (ss : List Str) : D → Bool
  | .tup [m, s, v] => isNum m && (strIn ss s && valsOk n v)
  | _ => false
theorem insK_ins {C : Addr} {ns : List Str} {M : Mem} {xs : List D} {k : List D → Prop} (q : k xs) : insK C ns M (.ins C ns xs) k := ⟨rfl, rfl, q⟩
def sp_Shape_is_row (A : Ad) : SpD := fun ds M Q _ => ∃ fs ss d, ds = [shp A fs ss, d] ∧ fs.length < 3000 ∧ Nc d 50 ∧ Q (.bl (isRow fs.length ss d)) M
def wb_Shape_is_row (A : Ad) : WS :=
  (wSeq (wIf (wOrT (wNotT (wTest (wCB rIsD (wCons (wVar 1) (wCons (wC (.ty "tuple")) wNil))))) (wOrT (wTest (wOp (rEqD true) (wCB rLenD (wCons (wVar 1) wNil)) (wC (.int 3)))) (wNotT (wTest (wCall (sp_is_number A) (wCons (wOp rIxD (wVar 1) (wC (.int 0))) wNil))))))
  (wRet (wC (.bl false)))
  wNx)
  (wSeq (wIf (wOrT (wNotT (wTest (wCB rIsD (wCons (wOp rIxD (wVar 1) (wC (.int 1))) (wCons (wC (.ty "str")) wNil))))) (wTest (wOp (rInD true) (wOp rIxD (wVar 1) (wC (.int 1))) (wFld A.c_Shape ns_Shape 1 (wVar 0)))))
  (wRet (wC (.bl false)))
  wNx)
  (wSeq (wIf (wOrT (wNotT (wTest (wCB rIsD (wCons (wOp rIxD (wVar 1) (wC (.int 2))) (wCons (wC (.ty "tuple")) wNil))))) (wTest (wOp (rEqD true) (wCB rLenD (wCons (wOp rIxD (wVar 1) (wC (.int 2))) wNil)) (wCB rLenD (wCons (wFld A.c_Shape ns_Shape 0 (wVar 0)) wNil)))))
  (wRet (wC (.bl false)))
  wNx)
  (wRet (wCB (rAllD false) (wCons (wLc (wiSeq (wOp rIxD (wVar 1) (wC (.int 2)))) (gN 2) wYes (wOrV (wOp (rIsND false) (wVar 2) (wC .non)) (wCall (sp_is_plain_word A) (wCons (wVar 2) wNil))) [2]) wNil))))))
theorem bd_Shape_is_row {P : Program} {w : World} {K : PySem.W.Frag} {mg : Str → Option Value} {base : Heap} {A : Ad} (T : Txt K mg A) (cdv : Value) (R : Around) (outer : List Env) (s : Shared) (H : Hp) (E : XK) (hr : Room 2 (R.deeper (envOfC "Shape.is_row" (defScope s_Shape_is_row) s.heap.objs.size A.f_Shape_is_row cdv)))
    (tk : Takes (cxOf (L2.CX P w) P w K mg base N_Shape_is_row "Shape.is_row" (defScope s_Shape_is_row) A.f_Shape_is_row cdv R outer s H E) (WD E)) : JSs (cxOf (L2.CX P w) P w K mg base N_Shape_is_row "Shape.is_row" (defScope s_Shape_is_row) A.f_Shape_is_row cdv R outer s H E) (WD E) (defBody s_Shape_is_row) (wb_Shape_is_row A) :=
  (js_cons (js_if (jt_bool (jt_or (jt_not (jt_val (j_callB cd_isi T.n_isinstance bo_isinstance (j_cons (jv 1) (j_cons (j_bltn T.n_tuple bo_tuple) j_nil))))) (jt_or (jt_cmp (od_ne hr.units) (j_callB cd_len T.n_len bo_len (j_cons (jv 1) j_nil)) j_int) (jt_or1 (jt_not (jt_val (j_call (ok_is_number T) hr (by decide) T.g_is_number tk (j_cons (j_ix id_ix (jv 1) j_int) j_nil))))))))
  (js_one (js_ret j_bl))
  js_nil)
  (js_cons (js_if (jt_bool (jt_or (jt_not (jt_val (j_callB cd_isi T.n_isinstance bo_isinstance (j_cons (j_ix id_ix (jv 1) j_int) (j_cons (j_bltn T.n_str bo_str) j_nil))))) (jt_or1 (jt_cmp od_notIn (j_ix id_ix (jv 1) j_int) (j_fld (C := A.c_Shape) (ns := ns_Shape) (i := 1) T.cl_Shape T.na_Shape_own_sources (by decide +kernel) (jv 0))))))
  (js_one (js_ret j_bl))
  js_nil)
  (js_cons (js_if (jt_bool (jt_or (jt_not (jt_val (j_callB cd_isi T.n_isinstance bo_isinstance (j_cons (j_ix id_ix (jv 1) j_int) (j_cons (j_bltn T.n_tuple bo_tuple) j_nil))))) (jt_or1 (jt_cmp (od_ne hr.units) (j_callB cd_len T.n_len bo_len (j_cons (j_ix id_ix (jv 1) j_int) j_nil)) (j_callB cd_len T.n_len bo_len (j_cons (j_fld (C := A.c_Shape) (ns := ns_Shape) (i := 0) T.cl_Shape T.na_Shape_own_fields (by decide +kernel) (jv 0)) j_nil))))))
  (js_one (js_ret j_bl))
  js_nil)
  (js_one (js_ret (j_callB (cd_all rfl) T.n_all bo_all (j_cons (j_lc (own := [("word", 2)]) rfl sc_Shape_is_row.nd (ji_seq (j_ix id_ix (jv 1) j_int)) (blkOk_by (own := [("word", 2)]) (N := N_Shape_is_row) (sc := defScope s_Shape_is_row) (by decide +kernel)) (fun _ _ _ _ _ => (jg_name (i := 2) sc_Shape_is_row.nd)) (fun _ _ _ _ _ => jts_nil) (fun _ _ _ _ _ => (j_or (j_cmp od_isN (jv 2) j_non) (j_one (j_call (ok_is_plain_word T) hr (by decide) T.g_is_plain_word tkF (j_cons (jv 2) j_nil)))))) j_nil)))))))
theorem rd_Shape_is_row (A : Ad) : ∀ ds M Q Xc, sp_Shape_is_row A ds M Q Xc → ds.length = P_Shape_is_row.length ∧ RD (wb_Shape_is_row A) Q Xc (startD N_Shape_is_row ds) M := by
  rintro _ M Q Xc ⟨fs, ss, d, rfl, hl, hn, q⟩
  refine ⟨rfl, ?_⟩
  rw [st_Shape_is_row]
  have := sizeLine_big
  have hp := hn.pl
  cases d <;> try exact absurd hp Bool.false_ne_true
  case tup zs =>
    by_cases h3 : (zs.length : Int) = 3
    · rcases zs with _ | ⟨m, _ | ⟨s, _ | ⟨v, _ | ⟨z, r⟩⟩⟩⟩
      · cases h3
      · cases h3
      · cases h3
      · have e0 : atI [m, s, v] (0 : Int) = some m := rfl
        have e1 : atI [m, s, v] (1 : Int) = some s := rfl
        have e2 : atI [m, s, v] (2 : Int) = some v := rfl
        obtain ⟨nz, n1, n2, n3, nx⟩ := hn
        have el : (!decide ((([m, s, v] : List D).length : Int) = 3)) = false := rfl
        have q1 : Q (.bl (isNum m && (strIn ss s && valsOk fs.length v))) M := q
        simp only [RD, wb_Shape_is_row, wipeD, wNx, wSeq_p, seqE_nx, seqE_rt, seqE_bk, seqE_ct, seqE_ex, wIf, wRet, wRetN, wDrop, wAsg, wBrk, wCnt, wVar, wGet, wC, wOp, wUn, wCB, wNil, wCons, wTest, wAndT, wOrT, wNotT, wAndV, wOrV, wNotV, wIfE, wChain, wTup, wLst, wLstO, wCall, wMeth, wFld, wFst, wCv, wProp, wMake, wSl, wNo, wSome, intK, isBl, gN, gT, gCons', gNil', wSub, wAug, wPar, wBM, wIsT, wFor, wLc, wLcO, wYes, wiSeq, wiStr, wiRng1, wiRng2, wiZip, wFz, frz_lst, frz_tup, at1_0, at2_0, at2_1, at3_0, at3_1, at3_2, at4_0, at4_1, at4_2, at4_3, at5_0, at5_1, at5_2, at5_3, at5_4, seqOf_put, ED.xc, rIxD, rLenD, rIsD, rIntCD, rStrCD, rListD, rListO, rTupD, rAddD, rIntD, rInt0D, rEqD, rIsND, rNegD, rSlD, seqOf_lst, seqOf_tup, optK_some, insK_same, tyN_non, tyN_bl, tyN_int, tyN_str, tyN_tup, tyN_lst, tyN_dct, List.getElem?_cons_zero, List.getElem?_cons_succ, List.set_cons_zero, List.set_cons_succ, List.length_cons, List.length_nil, isB_NoneType_bool, isB_NoneType_int, isB_NoneType_str, isB_NoneType_tuple, isB_NoneType_list, isB_NoneType_dict, isB_bool_bool, isB_bool_int, isB_bool_str, isB_bool_tuple, isB_bool_list, isB_bool_dict, isB_int_bool, isB_int_int, isB_int_str, isB_int_tuple, isB_int_list, isB_int_dict, isB_str_bool, isB_str_int, isB_str_str, isB_str_tuple, isB_str_list, isB_str_dict, isB_tuple_bool, isB_tuple_int, isB_tuple_str, isB_tuple_tuple, isB_tuple_list, isB_tuple_dict, isB_list_bool, isB_list_int, isB_list_str, isB_list_tuple, isB_list_list, isB_list_dict, isB_dict_bool, isB_dict_int, isB_dict_str, isB_dict_tuple, isB_dict_list, isB_dict_dict, isC_bool, isC_int, isC_str, isC_tuple, isC_list, isC_dict, isA_list_tuple, isQ_NoneType, isQ_bool, isQ_int, isQ_str, isQ_tuple, isQ_list, isQ_dict, true_and, and_true, ↓reduceIte, Bool.not_true, Bool.not_false, Bool.false_eq_true, Bool.true_xor, Bool.false_xor, el, e0, e1, e2, sp_is_number, shp]
        refine ⟨m, rfl, n1.pl, ?_⟩
        cases hm : isNum m with
        | false =>
          rw [hm] at q1
          simp only [wipeD, wNx, wSeq_p, seqE_nx, seqE_rt, seqE_bk, seqE_ct, seqE_ex, wIf, wRet, wRetN, wDrop, wAsg, wBrk, wCnt, wVar, wGet, wC, wOp, wUn, wCB, wNil, wCons, wTest, wAndT, wOrT, wNotT, wAndV, wOrV, wNotV, wIfE, wChain, wTup, wLst, wLstO, wCall, wMeth, wFld, wFst, wCv, wProp, wMake, wSl, wNo, wSome, intK, isBl, gN, gT, gCons', gNil', wSub, wAug, wPar, wBM, wIsT, wFor, wLc, wLcO, wYes, wiSeq, wiStr, wiRng1, wiRng2, wiZip, wFz, frz_lst, frz_tup, at1_0, at2_0, at2_1, at3_0, at3_1, at3_2, at4_0, at4_1, at4_2, at4_3, at5_0, at5_1, at5_2, at5_3, at5_4, seqOf_put, ED.xc, rIxD, rLenD, rIsD, rIntCD, rStrCD, rListD, rListO, rTupD, rAddD, rIntD, rInt0D, rEqD, rIsND, rNegD, rSlD, seqOf_lst, seqOf_tup, optK_some, insK_same, tyN_non, tyN_bl, tyN_int, tyN_str, tyN_tup, tyN_lst, tyN_dct, List.getElem?_cons_zero, List.getElem?_cons_succ, List.set_cons_zero, List.set_cons_succ, List.length_cons, List.length_nil, isB_NoneType_bool, isB_NoneType_int, isB_NoneType_str, isB_NoneType_tuple, isB_NoneType_list, isB_NoneType_dict, isB_bool_bool, isB_bool_int, isB_bool_str, isB_bool_tuple, isB_bool_list, isB_bool_dict, isB_int_bool, isB_int_int, isB_int_str, isB_int_tuple, isB_int_list, isB_int_dict, isB_str_bool, isB_str_int, isB_str_str, isB_str_tuple, isB_str_list, isB_str_dict, isB_tuple_bool, isB_tuple_int, isB_tuple_str, isB_tuple_tuple, isB_tuple_list, isB_tuple_dict, isB_list_bool, isB_list_int, isB_list_str, isB_list_tuple, isB_list_list, isB_list_dict, isB_dict_bool, isB_dict_int, isB_dict_str, isB_dict_tuple, isB_dict_list, isB_dict_dict, isC_bool, isC_int, isC_str, isC_tuple, isC_list, isC_dict, isA_list_tuple, isQ_NoneType, isQ_bool, isQ_int, isQ_str, isQ_tuple, isQ_list, isQ_dict, true_and, and_true, ↓reduceIte, Bool.not_true, Bool.not_false, Bool.false_eq_true, Bool.true_xor, Bool.false_xor]
          exact fin_of q1
        | true =>
          rw [hm] at q1
          simp only [wipeD, wNx, wSeq_p, seqE_nx, seqE_rt, seqE_bk, seqE_ct, seqE_ex, wIf, wRet, wRetN, wDrop, wAsg, wBrk, wCnt, wVar, wGet, wC, wOp, wUn, wCB, wNil, wCons, wTest, wAndT, wOrT, wNotT, wAndV, wOrV, wNotV, wIfE, wChain, wTup, wLst, wLstO, wCall, wMeth, wFld, wFst, wCv, wProp, wMake, wSl, wNo, wSome, intK, isBl, gN, gT, gCons', gNil', wSub, wAug, wPar, wBM, wIsT, wFor, wLc, wLcO, wYes, wiSeq, wiStr, wiRng1, wiRng2, wiZip, wFz, frz_lst, frz_tup, at1_0, at2_0, at2_1, at3_0, at3_1, at3_2, at4_0, at4_1, at4_2, at4_3, at5_0, at5_1, at5_2, at5_3, at5_4, seqOf_put, ED.xc, rIxD, rLenD, rIsD, rIntCD, rStrCD, rListD, rListO, rTupD, rAddD, rIntD, rInt0D, rEqD, rIsND, rNegD, rSlD, seqOf_lst, seqOf_tup, optK_some, insK_same, tyN_non, tyN_bl, tyN_int, tyN_str, tyN_tup, tyN_lst, tyN_dct, List.getElem?_cons_zero, List.getElem?_cons_succ, List.set_cons_zero, List.set_cons_succ, List.length_cons, List.length_nil, isB_NoneType_bool, isB_NoneType_int, isB_NoneType_str, isB_NoneType_tuple, isB_NoneType_list, isB_NoneType_dict, isB_bool_bool, isB_bool_int, isB_bool_str, isB_bool_tuple, isB_bool_list, isB_bool_dict, isB_int_bool, isB_int_int, isB_int_str, isB_int_tuple, isB_int_list, isB_int_dict, isB_str_bool, isB_str_int, isB_str_str, isB_str_tuple, isB_str_list, isB_str_dict, isB_tuple_bool, isB_tuple_int, isB_tuple_str, isB_tuple_tuple, isB_tuple_list, isB_tuple_dict, isB_list_bool, isB_list_int, isB_list_str, isB_list_tuple, isB_list_list, isB_list_dict, isB_dict_bool, isB_dict_int, isB_dict_str, isB_dict_tuple, isB_dict_list, isB_dict_dict, isC_bool, isC_int, isC_str, isC_tuple, isC_list, isC_dict, isA_list_tuple, isQ_NoneType, isQ_bool, isQ_int, isQ_str, isQ_tuple, isQ_list, isQ_dict, true_and, and_true, ↓reduceIte, Bool.not_true, Bool.not_false, Bool.false_eq_true, Bool.true_xor, Bool.false_xor]
          have p2 := n2.pl
          cases s <;> try exact absurd p2 Bool.false_ne_true
          case str =>
            rename_i x
            have hin : inD (.str x) (ss.map D.str) = strIn ss (.str x) := inD_strs ss
            simp only [wipeD, wNx, wSeq_p, seqE_nx, seqE_rt, seqE_bk, seqE_ct, seqE_ex, wIf, wRet, wRetN, wDrop, wAsg, wBrk, wCnt, wVar, wGet, wC, wOp, wUn, wCB, wNil, wCons, wTest, wAndT, wOrT, wNotT, wAndV, wOrV, wNotV, wIfE, wChain, wTup, wLst, wLstO, wCall, wMeth, wFld, wFst, wCv, wProp, wMake, wSl, wNo, wSome, intK, isBl, gN, gT, gCons', gNil', wSub, wAug, wPar, wBM, wIsT, wFor, wLc, wLcO, wYes, wiSeq, wiStr, wiRng1, wiRng2, wiZip, wFz, frz_lst, frz_tup, at1_0, at2_0, at2_1, at3_0, at3_1, at3_2, at4_0, at4_1, at4_2, at4_3, at5_0, at5_1, at5_2, at5_3, at5_4, seqOf_put, ED.xc, rIxD, rLenD, rIsD, rIntCD, rStrCD, rListD, rListO, rTupD, rAddD, rIntD, rInt0D, rEqD, rIsND, rNegD, rSlD, seqOf_lst, seqOf_tup, optK_some, insK_same, tyN_non, tyN_bl, tyN_int, tyN_str, tyN_tup, tyN_lst, tyN_dct, List.getElem?_cons_zero, List.getElem?_cons_succ, List.set_cons_zero, List.set_cons_succ, List.length_cons, List.length_nil, isB_NoneType_bool, isB_NoneType_int, isB_NoneType_str, isB_NoneType_tuple, isB_NoneType_list, isB_NoneType_dict, isB_bool_bool, isB_bool_int, isB_bool_str, isB_bool_tuple, isB_bool_list, isB_bool_dict, isB_int_bool, isB_int_int, isB_int_str, isB_int_tuple, isB_int_list, isB_int_dict, isB_str_bool, isB_str_int, isB_str_str, isB_str_tuple, isB_str_list, isB_str_dict, isB_tuple_bool, isB_tuple_int, isB_tuple_str, isB_tuple_tuple, isB_tuple_list, isB_tuple_dict, isB_list_bool, isB_list_int, isB_list_str, isB_list_tuple, isB_list_list, isB_list_dict, isB_dict_bool, isB_dict_int, isB_dict_str, isB_dict_tuple, isB_dict_list, isB_dict_dict, isC_bool, isC_int, isC_str, isC_tuple, isC_list, isC_dict, isA_list_tuple, isQ_NoneType, isQ_bool, isQ_int, isQ_str, isQ_tuple, isQ_list, isQ_dict, true_and, and_true, ↓reduceIte, Bool.not_true, Bool.not_false, Bool.false_eq_true, Bool.true_xor, Bool.false_xor, rInD, hin]
            refine ⟨rfl, flat_map ss, ?_⟩
            cases hs : strIn ss (.str x) with
            | false =>
              rw [hs] at q1
              simp only [wipeD, wNx, wSeq_p, seqE_nx, seqE_rt, seqE_bk, seqE_ct, seqE_ex, wIf, wRet, wRetN, wDrop, wAsg, wBrk, wCnt, wVar, wGet, wC, wOp, wUn, wCB, wNil, wCons, wTest, wAndT, wOrT, wNotT, wAndV, wOrV, wNotV, wIfE, wChain, wTup, wLst, wLstO, wCall, wMeth, wFld, wFst, wCv, wProp, wMake, wSl, wNo, wSome, intK, isBl, gN, gT, gCons', gNil', wSub, wAug, wPar, wBM, wIsT, wFor, wLc, wLcO, wYes, wiSeq, wiStr, wiRng1, wiRng2, wiZip, wFz, frz_lst, frz_tup, at1_0, at2_0, at2_1, at3_0, at3_1, at3_2, at4_0, at4_1, at4_2, at4_3, at5_0, at5_1, at5_2, at5_3, at5_4, seqOf_put, ED.xc, rIxD, rLenD, rIsD, rIntCD, rStrCD, rListD, rListO, rTupD, rAddD, rIntD, rInt0D, rEqD, rIsND, rNegD, rSlD, seqOf_lst, seqOf_tup, optK_some, insK_same, tyN_non, tyN_bl, tyN_int, tyN_str, tyN_tup, tyN_lst, tyN_dct, List.getElem?_cons_zero, List.getElem?_cons_succ, List.set_cons_zero, List.set_cons_succ, List.length_cons, List.length_nil, isB_NoneType_bool, isB_NoneType_int, isB_NoneType_str, isB_NoneType_tuple, isB_NoneType_list, isB_NoneType_dict, isB_bool_bool, isB_bool_int, isB_bool_str, isB_bool_tuple, isB_bool_list, isB_bool_dict, isB_int_bool, isB_int_int, isB_int_str, isB_int_tuple, isB_int_list, isB_int_dict, isB_str_bool, isB_str_int, isB_str_str, isB_str_tuple, isB_str_list, isB_str_dict, isB_tuple_bool, isB_tuple_int, isB_tuple_str, isB_tuple_tuple, isB_tuple_list, isB_tuple_dict, isB_list_bool, isB_list_int, isB_list_str, isB_list_tuple, isB_list_list, isB_list_dict, isB_dict_bool, isB_dict_int, isB_dict_str, isB_dict_tuple, isB_dict_list, isB_dict_dict, isC_bool, isC_int, isC_str, isC_tuple, isC_list, isC_dict, isA_list_tuple, isQ_NoneType, isQ_bool, isQ_int, isQ_str, isQ_tuple, isQ_list, isQ_dict, true_and, and_true, ↓reduceIte, Bool.not_true, Bool.not_false, Bool.false_eq_true, Bool.true_xor, Bool.false_xor]
              exact fin_of q1
            | true =>
              rw [hs] at q1
              simp only [wipeD, wNx, wSeq_p, seqE_nx, seqE_rt, seqE_bk, seqE_ct, seqE_ex, wIf, wRet, wRetN, wDrop, wAsg, wBrk, wCnt, wVar, wGet, wC, wOp, wUn, wCB, wNil, wCons, wTest, wAndT, wOrT, wNotT, wAndV, wOrV, wNotV, wIfE, wChain, wTup, wLst, wLstO, wCall, wMeth, wFld, wFst, wCv, wProp, wMake, wSl, wNo, wSome, intK, isBl, gN, gT, gCons', gNil', wSub, wAug, wPar, wBM, wIsT, wFor, wLc, wLcO, wYes, wiSeq, wiStr, wiRng1, wiRng2, wiZip, wFz, frz_lst, frz_tup, at1_0, at2_0, at2_1, at3_0, at3_1, at3_2, at4_0, at4_1, at4_2, at4_3, at5_0, at5_1, at5_2, at5_3, at5_4, seqOf_put, ED.xc, rIxD, rLenD, rIsD, rIntCD, rStrCD, rListD, rListO, rTupD, rAddD, rIntD, rInt0D, rEqD, rIsND, rNegD, rSlD, seqOf_lst, seqOf_tup, optK_some, insK_same, tyN_non, tyN_bl, tyN_int, tyN_str, tyN_tup, tyN_lst, tyN_dct, List.getElem?_cons_zero, List.getElem?_cons_succ, List.set_cons_zero, List.set_cons_succ, List.length_cons, List.length_nil, isB_NoneType_bool, isB_NoneType_int, isB_NoneType_str, isB_NoneType_tuple, isB_NoneType_list, isB_NoneType_dict, isB_bool_bool, isB_bool_int, isB_bool_str, isB_bool_tuple, isB_bool_list, isB_bool_dict, isB_int_bool, isB_int_int, isB_int_str, isB_int_tuple, isB_int_list, isB_int_dict, isB_str_bool, isB_str_int, isB_str_str, isB_str_tuple, isB_str_list, isB_str_dict, isB_tuple_bool, isB_tuple_int, isB_tuple_str, isB_tuple_tuple, isB_tuple_list, isB_tuple_dict, isB_list_bool, isB_list_int, isB_list_str, isB_list_tuple, isB_list_list, isB_list_dict, isB_dict_bool, isB_dict_int, isB_dict_str, isB_dict_tuple, isB_dict_list, isB_dict_dict, isC_bool, isC_int, isC_str, isC_tuple, isC_list, isC_dict, isA_list_tuple, isQ_NoneType, isQ_bool, isQ_int, isQ_str, isQ_tuple, isQ_list, isQ_dict, true_and, and_true, ↓reduceIte, Bool.not_true, Bool.not_false, Bool.false_eq_true, Bool.true_xor, Bool.false_xor]
              have p3 := n3.pl
              cases v <;> try exact absurd p3 Bool.false_ne_true
              case tup =>
                rename_i ws
                have e : valsOk fs.length (.tup ws) = (decide (ws.length = fs.length) && ws.all wordOk) := rfl
                have e3 : decide ((ws.length : Int) = ((fs.map D.str).length : Int)) = decide (ws.length = fs.length) := by rw [List.length_map]; simp only [Int.ofNat_inj]
                rw [e] at q1
                simp only [wipeD, wNx, wSeq_p, seqE_nx, seqE_rt, seqE_bk, seqE_ct, seqE_ex, wIf, wRet, wRetN, wDrop, wAsg, wBrk, wCnt, wVar, wGet, wC, wOp, wUn, wCB, wNil, wCons, wTest, wAndT, wOrT, wNotT, wAndV, wOrV, wNotV, wIfE, wChain, wTup, wLst, wLstO, wCall, wMeth, wFld, wFst, wCv, wProp, wMake, wSl, wNo, wSome, intK, isBl, gN, gT, gCons', gNil', wSub, wAug, wPar, wBM, wIsT, wFor, wLc, wLcO, wYes, wiSeq, wiStr, wiRng1, wiRng2, wiZip, wFz, frz_lst, frz_tup, at1_0, at2_0, at2_1, at3_0, at3_1, at3_2, at4_0, at4_1, at4_2, at4_3, at5_0, at5_1, at5_2, at5_3, at5_4, seqOf_put, ED.xc, rIxD, rLenD, rIsD, rIntCD, rStrCD, rListD, rListO, rTupD, rAddD, rIntD, rInt0D, rEqD, rIsND, rNegD, rSlD, seqOf_lst, seqOf_tup, optK_some, insK_same, tyN_non, tyN_bl, tyN_int, tyN_str, tyN_tup, tyN_lst, tyN_dct, List.getElem?_cons_zero, List.getElem?_cons_succ, List.set_cons_zero, List.set_cons_succ, List.length_cons, List.length_nil, isB_NoneType_bool, isB_NoneType_int, isB_NoneType_str, isB_NoneType_tuple, isB_NoneType_list, isB_NoneType_dict, isB_bool_bool, isB_bool_int, isB_bool_str, isB_bool_tuple, isB_bool_list, isB_bool_dict, isB_int_bool, isB_int_int, isB_int_str, isB_int_tuple, isB_int_list, isB_int_dict, isB_str_bool, isB_str_int, isB_str_str, isB_str_tuple, isB_str_list, isB_str_dict, isB_tuple_bool, isB_tuple_int, isB_tuple_str, isB_tuple_tuple, isB_tuple_list, isB_tuple_dict, isB_list_bool, isB_list_int, isB_list_str, isB_list_tuple, isB_list_list, isB_list_dict, isB_dict_bool, isB_dict_int, isB_dict_str, isB_dict_tuple, isB_dict_list, isB_dict_dict, isC_bool, isC_int, isC_str, isC_tuple, isC_list, isC_dict, isA_list_tuple, isQ_NoneType, isQ_bool, isQ_int, isQ_str, isQ_tuple, isQ_list, isQ_dict, true_and, and_true, ↓reduceIte, Bool.not_true, Bool.not_false, Bool.false_eq_true, Bool.true_xor, Bool.false_xor, e3]
                cases hw : decide (ws.length = fs.length) with
                | false =>
                  rw [hw] at q1
                  simp only [wipeD, wNx, wSeq_p, seqE_nx, seqE_rt, seqE_bk, seqE_ct, seqE_ex, wIf, wRet, wRetN, wDrop, wAsg, wBrk, wCnt, wVar, wGet, wC, wOp, wUn, wCB, wNil, wCons, wTest, wAndT, wOrT, wNotT, wAndV, wOrV, wNotV, wIfE, wChain, wTup, wLst, wLstO, wCall, wMeth, wFld, wFst, wCv, wProp, wMake, wSl, wNo, wSome, intK, isBl, gN, gT, gCons', gNil', wSub, wAug, wPar, wBM, wIsT, wFor, wLc, wLcO, wYes, wiSeq, wiStr, wiRng1, wiRng2, wiZip, wFz, frz_lst, frz_tup, at1_0, at2_0, at2_1, at3_0, at3_1, at3_2, at4_0, at4_1, at4_2, at4_3, at5_0, at5_1, at5_2, at5_3, at5_4, seqOf_put, ED.xc, rIxD, rLenD, rIsD, rIntCD, rStrCD, rListD, rListO, rTupD, rAddD, rIntD, rInt0D, rEqD, rIsND, rNegD, rSlD, seqOf_lst, seqOf_tup, optK_some, insK_same, tyN_non, tyN_bl, tyN_int, tyN_str, tyN_tup, tyN_lst, tyN_dct, List.getElem?_cons_zero, List.getElem?_cons_succ, List.set_cons_zero, List.set_cons_succ, List.length_cons, List.length_nil, isB_NoneType_bool, isB_NoneType_int, isB_NoneType_str, isB_NoneType_tuple, isB_NoneType_list, isB_NoneType_dict, isB_bool_bool, isB_bool_int, isB_bool_str, isB_bool_tuple, isB_bool_list, isB_bool_dict, isB_int_bool, isB_int_int, isB_int_str, isB_int_tuple, isB_int_list, isB_int_dict, isB_str_bool, isB_str_int, isB_str_str, isB_str_tuple, isB_str_list, isB_str_dict, isB_tuple_bool, isB_tuple_int, isB_tuple_str, isB_tuple_tuple, isB_tuple_list, isB_tuple_dict, isB_list_bool, isB_list_int, isB_list_str, isB_list_tuple, isB_list_list, isB_list_dict, isB_dict_bool, isB_dict_int, isB_dict_str, isB_dict_tuple, isB_dict_list, isB_dict_dict, isC_bool, isC_int, isC_str, isC_tuple, isC_list, isC_dict, isA_list_tuple, isQ_NoneType, isQ_bool, isQ_int, isQ_str, isQ_tuple, isQ_list, isQ_dict, true_and, and_true, ↓reduceIte, Bool.not_true, Bool.not_false, Bool.false_eq_true, Bool.true_xor, Bool.false_xor]
                  exact fin_of q1
                | true =>
                  rw [hw] at q1
                  simp only [wipeD, wNx, wSeq_p, seqE_nx, seqE_rt, seqE_bk, seqE_ct, seqE_ex, wIf, wRet, wRetN, wDrop, wAsg, wBrk, wCnt, wVar, wGet, wC, wOp, wUn, wCB, wNil, wCons, wTest, wAndT, wOrT, wNotT, wAndV, wOrV, wNotV, wIfE, wChain, wTup, wLst, wLstO, wCall, wMeth, wFld, wFst, wCv, wProp, wMake, wSl, wNo, wSome, intK, isBl, gN, gT, gCons', gNil', wSub, wAug, wPar, wBM, wIsT, wFor, wLc, wLcO, wYes, wiSeq, wiStr, wiRng1, wiRng2, wiZip, wFz, frz_lst, frz_tup, at1_0, at2_0, at2_1, at3_0, at3_1, at3_2, at4_0, at4_1, at4_2, at4_3, at5_0, at5_1, at5_2, at5_3, at5_4, seqOf_put, ED.xc, rIxD, rLenD, rIsD, rIntCD, rStrCD, rListD, rListO, rTupD, rAddD, rIntD, rInt0D, rEqD, rIsND, rNegD, rSlD, seqOf_lst, seqOf_tup, optK_some, insK_same, tyN_non, tyN_bl, tyN_int, tyN_str, tyN_tup, tyN_lst, tyN_dct, List.getElem?_cons_zero, List.getElem?_cons_succ, List.set_cons_zero, List.set_cons_succ, List.length_cons, List.length_nil, isB_NoneType_bool, isB_NoneType_int, isB_NoneType_str, isB_NoneType_tuple, isB_NoneType_list, isB_NoneType_dict, isB_bool_bool, isB_bool_int, isB_bool_str, isB_bool_tuple, isB_bool_list, isB_bool_dict, isB_int_bool, isB_int_int, isB_int_str, isB_int_tuple, isB_int_list, isB_int_dict, isB_str_bool, isB_str_int, isB_str_str, isB_str_tuple, isB_str_list, isB_str_dict, isB_tuple_bool, isB_tuple_int, isB_tuple_str, isB_tuple_tuple, isB_tuple_list, isB_tuple_dict, isB_list_bool, isB_list_int, isB_list_str, isB_list_tuple, isB_list_list, isB_list_dict, isB_dict_bool, isB_dict_int, isB_dict_str, isB_dict_tuple, isB_dict_list, isB_dict_dict, isC_bool, isC_int, isC_str, isC_tuple, isC_list, isC_dict, isA_list_tuple, isQ_NoneType, isQ_bool, isQ_int, isQ_str, isQ_tuple, isQ_list, isQ_dict, true_and, and_true, ↓reduceIte, Bool.not_true, Bool.not_false, Bool.false_eq_true, Bool.true_xor, Bool.false_xor]
                  have hwl := n3.1.2
                  refine (?_ : lcR _ _ _ _ ws _ _ _)
                  rw [← List.map_id ws]
                  refine lcR_mapL id (fun x => .bl (wordOk x)) (fun x => Nc x 49) (fun x acc R hx h => ?_) ws [] (fun x hx => Nc.mono _ _ _ (by decide) (Ncs_iff.mp n3.2 x hx)) (by simp only [List.length_nil]; omega) ?_
                  · have px := hx.pl
                    cases x <;> try exact absurd px Bool.false_ne_true
                    all_goals simp only [wipeD, wNx, wSeq_p, seqE_nx, seqE_rt, seqE_bk, seqE_ct, seqE_ex, wIf, wRet, wRetN, wDrop, wAsg, wBrk, wCnt, wVar, wGet, wC, wOp, wUn, wCB, wNil, wCons, wTest, wAndT, wOrT, wNotT, wAndV, wOrV, wNotV, wIfE, wChain, wTup, wLst, wLstO, wCall, wMeth, wFld, wFst, wCv, wProp, wMake, wSl, wNo, wSome, intK, isBl, gN, gT, gCons', gNil', wSub, wAug, wPar, wBM, wIsT, wFor, wLc, wLcO, wYes, wiSeq, wiStr, wiRng1, wiRng2, wiZip, wFz, frz_lst, frz_tup, at1_0, at2_0, at2_1, at3_0, at3_1, at3_2, at4_0, at4_1, at4_2, at4_3, at5_0, at5_1, at5_2, at5_3, at5_4, seqOf_put, ED.xc, rIxD, rLenD, rIsD, rIntCD, rStrCD, rListD, rListO, rTupD, rAddD, rIntD, rInt0D, rEqD, rIsND, rNegD, rSlD, seqOf_lst, seqOf_tup, optK_some, insK_same, tyN_non, tyN_bl, tyN_int, tyN_str, tyN_tup, tyN_lst, tyN_dct, List.getElem?_cons_zero, List.getElem?_cons_succ, List.set_cons_zero, List.set_cons_succ, List.length_cons, List.length_nil, isB_NoneType_bool, isB_NoneType_int, isB_NoneType_str, isB_NoneType_tuple, isB_NoneType_list, isB_NoneType_dict, isB_bool_bool, isB_bool_int, isB_bool_str, isB_bool_tuple, isB_bool_list, isB_bool_dict, isB_int_bool, isB_int_int, isB_int_str, isB_int_tuple, isB_int_list, isB_int_dict, isB_str_bool, isB_str_int, isB_str_str, isB_str_tuple, isB_str_list, isB_str_dict, isB_tuple_bool, isB_tuple_int, isB_tuple_str, isB_tuple_tuple, isB_tuple_list, isB_tuple_dict, isB_list_bool, isB_list_int, isB_list_str, isB_list_tuple, isB_list_list, isB_list_dict, isB_dict_bool, isB_dict_int, isB_dict_str, isB_dict_tuple, isB_dict_list, isB_dict_dict, isC_bool, isC_int, isC_str, isC_tuple, isC_list, isC_dict, isA_list_tuple, isQ_NoneType, isQ_bool, isQ_int, isQ_str, isQ_tuple, isQ_list, isQ_dict, true_and, and_true, ↓reduceIte, Bool.not_true, Bool.not_false, Bool.false_eq_true, Bool.true_xor, Bool.false_xor, id, sp_is_plain_word]
                    case non => exact h
                    all_goals exact ⟨_, rfl, rfl, hx.short, h⟩
                  · rw [List.nil_append]
                    simp only [rAllD, bools_map, wipeD, wNx, wSeq_p, seqE_nx, seqE_rt, seqE_bk, seqE_ct, seqE_ex, wIf, wRet, wRetN, wDrop, wAsg, wBrk, wCnt, wVar, wGet, wC, wOp, wUn, wCB, wNil, wCons, wTest, wAndT, wOrT, wNotT, wAndV, wOrV, wNotV, wIfE, wChain, wTup, wLst, wLstO, wCall, wMeth, wFld, wFst, wCv, wProp, wMake, wSl, wNo, wSome, intK, isBl, gN, gT, gCons', gNil', wSub, wAug, wPar, wBM, wIsT, wFor, wLc, wLcO, wYes, wiSeq, wiStr, wiRng1, wiRng2, wiZip, wFz, frz_lst, frz_tup, at1_0, at2_0, at2_1, at3_0, at3_1, at3_2, at4_0, at4_1, at4_2, at4_3, at5_0, at5_1, at5_2, at5_3, at5_4, seqOf_put, ED.xc, rIxD, rLenD, rIsD, rIntCD, rStrCD, rListD, rListO, rTupD, rAddD, rIntD, rInt0D, rEqD, rIsND, rNegD, rSlD, seqOf_lst, seqOf_tup, optK_some, insK_same, tyN_non, tyN_bl, tyN_int, tyN_str, tyN_tup, tyN_lst, tyN_dct, List.getElem?_cons_zero, List.getElem?_cons_succ, List.set_cons_zero, List.set_cons_succ, List.length_cons, List.length_nil, isB_NoneType_bool, isB_NoneType_int, isB_NoneType_str, isB_NoneType_tuple, isB_NoneType_list, isB_NoneType_dict, isB_bool_bool, isB_bool_int, isB_bool_str, isB_bool_tuple, isB_bool_list, isB_bool_dict, isB_int_bool, isB_int_int, isB_int_str, isB_int_tuple, isB_int_list, isB_int_dict, isB_str_bool, isB_str_int, isB_str_str, isB_str_tuple, isB_str_list, isB_str_dict, isB_tuple_bool, isB_tuple_int, isB_tuple_str, isB_tuple_tuple, isB_tuple_list, isB_tuple_dict, isB_list_bool, isB_list_int, isB_list_str, isB_list_tuple, isB_list_list, isB_list_dict, isB_dict_bool, isB_dict_int, isB_dict_str, isB_dict_tuple, isB_dict_list, isB_dict_dict, isC_bool, isC_int, isC_str, isC_tuple, isC_list, isC_dict, isA_list_tuple, isQ_NoneType, isQ_bool, isQ_int, isQ_str, isQ_tuple, isQ_list, isQ_dict, true_and, and_true, ↓reduceIte, Bool.not_true, Bool.not_false, Bool.false_eq_true, Bool.true_xor, Bool.false_xor]
                    rw [List.all_map]
                    exact fin_of q1
              all_goals simp only [wipeD, wNx, wSeq_p, seqE_nx, seqE_rt, seqE_bk, seqE_ct, seqE_ex, wIf, wRet, wRetN, wDrop, wAsg, wBrk, wCnt, wVar, wGet, wC, wOp, wUn, wCB, wNil, wCons, wTest, wAndT, wOrT, wNotT, wAndV, wOrV, wNotV, wIfE, wChain, wTup, wLst, wLstO, wCall, wMeth, wFld, wFst, wCv, wProp, wMake, wSl, wNo, wSome, intK, isBl, gN, gT, gCons', gNil', wSub, wAug, wPar, wBM, wIsT, wFor, wLc, wLcO, wYes, wiSeq, wiStr, wiRng1, wiRng2, wiZip, wFz, frz_lst, frz_tup, at1_0, at2_0, at2_1, at3_0, at3_1, at3_2, at4_0, at4_1, at4_2, at4_3, at5_0, at5_1, at5_2, at5_3, at5_4, seqOf_put, ED.xc, rIxD, rLenD, rIsD, rIntCD, rStrCD, rListD, rListO, rTupD, rAddD, rIntD, rInt0D, rEqD, rIsND, rNegD, rSlD, seqOf_lst, seqOf_tup, optK_some, insK_same, tyN_non, tyN_bl, tyN_int, tyN_str, tyN_tup, tyN_lst, tyN_dct, List.getElem?_cons_zero, List.getElem?_cons_succ, List.set_cons_zero, List.set_cons_succ, List.length_cons, List.length_nil, isB_NoneType_bool, isB_NoneType_int, isB_NoneType_str, isB_NoneType_tuple, isB_NoneType_list, isB_NoneType_dict, isB_bool_bool, isB_bool_int, isB_bool_str, isB_bool_tuple, isB_bool_list, isB_bool_dict, isB_int_bool, isB_int_int, isB_int_str, isB_int_tuple, isB_int_list, isB_int_dict, isB_str_bool, isB_str_int, isB_str_str, isB_str_tuple, isB_str_list, isB_str_dict, isB_tuple_bool, isB_tuple_int, isB_tuple_str, isB_tuple_tuple, isB_tuple_list, isB_tuple_dict, isB_list_bool, isB_list_int, isB_list_str, isB_list_tuple, isB_list_list, isB_list_dict, isB_dict_bool, isB_dict_int, isB_dict_str, isB_dict_tuple, isB_dict_list, isB_dict_dict, isC_bool, isC_int, isC_str, isC_tuple, isC_list, isC_dict, isA_list_tuple, isQ_NoneType, isQ_bool, isQ_int, isQ_str, isQ_tuple, isQ_list, isQ_dict, true_and, and_true, ↓reduceIte, Bool.not_true, Bool.not_false, Bool.false_eq_true, Bool.true_xor, Bool.false_xor]
              all_goals exact fin_of q1
          all_goals simp only [wipeD, wNx, wSeq_p, seqE_nx, seqE_rt, seqE_bk, seqE_ct, seqE_ex, wIf, wRet, wRetN, wDrop, wAsg, wBrk, wCnt, wVar, wGet, wC, wOp, wUn, wCB, wNil, wCons, wTest, wAndT, wOrT, wNotT, wAndV, wOrV, wNotV, wIfE, wChain, wTup, wLst, wLstO, wCall, wMeth, wFld, wFst, wCv, wProp, wMake, wSl, wNo, wSome, intK, isBl, gN, gT, gCons', gNil', wSub, wAug, wPar, wBM, wIsT, wFor, wLc, wLcO, wYes, wiSeq, wiStr, wiRng1, wiRng2, wiZip, wFz, frz_lst, frz_tup, at1_0, at2_0, at2_1, at3_0, at3_1, at3_2, at4_0, at4_1, at4_2, at4_3, at5_0, at5_1, at5_2, at5_3, at5_4, seqOf_put, ED.xc, rIxD, rLenD, rIsD, rIntCD, rStrCD, rListD, rListO, rTupD, rAddD, rIntD, rInt0D, rEqD, rIsND, rNegD, rSlD, seqOf_lst, seqOf_tup, optK_some, insK_same, tyN_non, tyN_bl, tyN_int, tyN_str, tyN_tup, tyN_lst, tyN_dct, List.getElem?_cons_zero, List.getElem?_cons_succ, List.set_cons_zero, List.set_cons_succ, List.length_cons, List.length_nil, isB_NoneType_bool, isB_NoneType_int, isB_NoneType_str, isB_NoneType_tuple, isB_NoneType_list, isB_NoneType_dict, isB_bool_bool, isB_bool_int, isB_bool_str, isB_bool_tuple, isB_bool_list, isB_bool_dict, isB_int_bool, isB_int_int, isB_int_str, isB_int_tuple, isB_int_list, isB_int_dict, isB_str_bool, isB_str_int, isB_str_str, isB_str_tuple, isB_str_list, isB_str_dict, isB_tuple_bool, isB_tuple_int, isB_tuple_str, isB_tuple_tuple, isB_tuple_list, isB_tuple_dict, isB_list_bool, isB_list_int, isB_list_str, isB_list_tuple, isB_list_list, isB_list_dict, isB_dict_bool, isB_dict_int, isB_dict_str, isB_dict_tuple, isB_dict_list, isB_dict_dict, isC_bool, isC_int, isC_str, isC_tuple, isC_list, isC_dict, isA_list_tuple, isQ_NoneType, isQ_bool, isQ_int, isQ_str, isQ_tuple, isQ_list, isQ_dict, true_and, and_true, ↓reduceIte, Bool.not_true, Bool.not_false, Bool.false_eq_true, Bool.true_xor, Bool.false_xor]
          all_goals exact fin_of q1
      · simp only [List.length_cons] at h3; omega
    · have e : isRow fs.length ss (.tup zs) = false := by
        unfold isRow
        split
        · rename_i e; cases e; exact absurd rfl h3
        · rfl
      rw [e] at q
      simp only [RD, wb_Shape_is_row, wipeD, wNx, wSeq_p, seqE_nx, seqE_rt, seqE_bk, seqE_ct, seqE_ex, wIf, wRet, wRetN, wDrop, wAsg, wBrk, wCnt, wVar, wGet, wC, wOp, wUn, wCB, wNil, wCons, wTest, wAndT, wOrT, wNotT, wAndV, wOrV, wNotV, wIfE, wChain, wTup, wLst, wLstO, wCall, wMeth, wFld, wFst, wCv, wProp, wMake, wSl, wNo, wSome, intK, isBl, gN, gT, gCons', gNil', wSub, wAug, wPar, wBM, wIsT, wFor, wLc, wLcO, wYes, wiSeq, wiStr, wiRng1, wiRng2, wiZip, wFz, frz_lst, frz_tup, at1_0, at2_0, at2_1, at3_0, at3_1, at3_2, at4_0, at4_1, at4_2, at4_3, at5_0, at5_1, at5_2, at5_3, at5_4, seqOf_put, ED.xc, rIxD, rLenD, rIsD, rIntCD, rStrCD, rListD, rListO, rTupD, rAddD, rIntD, rInt0D, rEqD, rIsND, rNegD, rSlD, seqOf_lst, seqOf_tup, optK_some, insK_same, tyN_non, tyN_bl, tyN_int, tyN_str, tyN_tup, tyN_lst, tyN_dct, List.getElem?_cons_zero, List.getElem?_cons_succ, List.set_cons_zero, List.set_cons_succ, List.length_cons, List.length_nil, isB_NoneType_bool, isB_NoneType_int, isB_NoneType_str, isB_NoneType_tuple, isB_NoneType_list, isB_NoneType_dict, isB_bool_bool, isB_bool_int, isB_bool_str, isB_bool_tuple, isB_bool_list, isB_bool_dict, isB_int_bool, isB_int_int, isB_int_str, isB_int_tuple, isB_int_list, isB_int_dict, isB_str_bool, isB_str_int, isB_str_str, isB_str_tuple, isB_str_list, isB_str_dict, isB_tuple_bool, isB_tuple_int, isB_tuple_str, isB_tuple_tuple, isB_tuple_list, isB_tuple_dict, isB_list_bool, isB_list_int, isB_list_str, isB_list_tuple, isB_list_list, isB_list_dict, isB_dict_bool, isB_dict_int, isB_dict_str, isB_dict_tuple, isB_dict_list, isB_dict_dict, isC_bool, isC_int, isC_str, isC_tuple, isC_list, isC_dict, isA_list_tuple, isQ_NoneType, isQ_bool, isQ_int, isQ_str, isQ_tuple, isQ_list, isQ_dict, true_and, and_true, ↓reduceIte, Bool.not_true, Bool.not_false, Bool.false_eq_true, Bool.true_xor, Bool.false_xor, h3, decide_false]
      exact fin_of q
  all_goals simp only [RD, wb_Shape_is_row, wipeD, wNx, wSeq_p, seqE_nx, seqE_rt, seqE_bk, seqE_ct, seqE_ex, wIf, wRet, wRetN, wDrop, wAsg, wBrk, wCnt, wVar, wGet, wC, wOp, wUn, wCB, wNil, wCons, wTest, wAndT, wOrT, wNotT, wAndV, wOrV, wNotV, wIfE, wChain, wTup, wLst, wLstO, wCall, wMeth, wFld, wFst, wCv, wProp, wMake, wSl, wNo, wSome, intK, isBl, gN, gT, gCons', gNil', wSub, wAug, wPar, wBM, wIsT, wFor, wLc, wLcO, wYes, wiSeq, wiStr, wiRng1, wiRng2, wiZip, wFz, frz_lst, frz_tup, at1_0, at2_0, at2_1, at3_0, at3_1, at3_2, at4_0, at4_1, at4_2, at4_3, at5_0, at5_1, at5_2, at5_3, at5_4, seqOf_put, ED.xc, rIxD, rLenD, rIsD, rIntCD, rStrCD, rListD, rListO, rTupD, rAddD, rIntD, rInt0D, rEqD, rIsND, rNegD, rSlD, seqOf_lst, seqOf_tup, optK_some, insK_same, tyN_non, tyN_bl, tyN_int, tyN_str, tyN_tup, tyN_lst, tyN_dct, List.getElem?_cons_zero, List.getElem?_cons_succ, List.set_cons_zero, List.set_cons_succ, List.length_cons, List.length_nil, isB_NoneType_bool, isB_NoneType_int, isB_NoneType_str, isB_NoneType_tuple, isB_NoneType_list, isB_NoneType_dict, isB_bool_bool, isB_bool_int, isB_bool_str, isB_bool_tuple, isB_bool_list, isB_bool_dict, isB_int_bool, isB_int_int, isB_int_str, isB_int_tuple, isB_int_list, isB_int_dict, isB_str_bool, isB_str_int, isB_str_str, isB_str_tuple, isB_str_list, isB_str_dict, isB_tuple_bool, isB_tuple_int, isB_tuple_str, isB_tuple_tuple, isB_tuple_list, isB_tuple_dict, isB_list_bool, isB_list_int, isB_list_str, isB_list_tuple, isB_list_list, isB_list_dict, isB_dict_bool, isB_dict_int, isB_dict_str, isB_dict_tuple, isB_dict_list, isB_dict_dict, isC_bool, isC_int, isC_str, isC_tuple, isC_list, isC_dict, isA_list_tuple, isQ_NoneType, isQ_bool, isQ_int, isQ_str, isQ_tuple, isQ_list, isQ_dict, true_and, and_true, ↓reduceIte, Bool.not_true, Bool.not_false, Bool.false_eq_true, Bool.true_xor, Bool.false_xor]
  all_goals exact fin_of q
theorem ok_Shape_is_row {P : Program} {w : World} {K : PySem.W.Frag} {mg : Str → Option Value} {base : Heap} {A : Ad} (T : Txt K mg A) : FnJ P w K mg base 3 A.f_Shape_is_row (sp_Shape_is_row A) :=
  FnJ.mkAt T.d_Shape_is_row sc_Shape_is_row (fun cdv R outer s H E hr tk => bd_Shape_is_row T cdv R outer s H E hr tk) (rd_Shape_is_row A)
/-! ### is_pile, is_tree -/
def momI : D → Int
  | .tup (.int i :: _) => i
  | _ => 0
def momK (r : D) : Key := .inl (momI r)
def pileOf (n : Nat) (ss : List Str) (rows : List D) : Bool := !decide (rows.length = 0) && (rows.all (isRow n ss) && dist (rows.map momK))
def isPile (n : Nat) (ss : List Str) : D → Bool
  | .lst rows => pileOf n ss rows
  | .tup rows => pileOf n ss rows
  | _ => false
theorem row_mom {n : Nat} {ss : List Str} {d : D} (h : isRow n ss d = true) : ∃ s v, d = .tup [.int (momI d), s, v] := by
  unfold isRow at h
  split at h
  · rename_i m s v
    rw [Bool.and_eq_true] at h
    cases m <;> try exact absurd h.1 Bool.false_ne_true
    exact ⟨s, v, rfl⟩
  · cases h
theorem keysD_ints : ∀ rows : List D, keysD (rows.map fun r => D.int (momI r)) = some (rows.map momK)
  | [] => rfl
  | r :: rows => by
    show (keysD (rows.map fun r => D.int (momI r))).map (momK r :: ·) = _
    rw [keysD_ints rows]
    rfl
theorem leaves_nc : ∀ (d : D) (n : Nat), Nc d n → Ncs (leavesD d) n
  | .tup [a, b], n, h => by
    obtain ⟨h0, h1, h2, _⟩ := h
    simp only [leavesD]
    rw [Ncs_iff]
    intro z hz
    rcases List.mem_append.mp hz with hz | hz
    · exact Nc.mono _ _ _ (Nat.sub_le _ _) (Ncs_iff.mp (leaves_nc a (n - 1) h1) z hz)
    · exact Nc.mono _ _ _ (Nat.sub_le _ _) (Ncs_iff.mp (leaves_nc b (n - 1) h2) z hz)
  | .tup [], n, h => by simp only [leavesD]; exact ⟨h, trivial⟩
  | .tup [a], n, h => by simp only [leavesD]; exact ⟨h, trivial⟩
  | .tup (a :: b :: c :: ds), n, h => by simp only [leavesD]; exact ⟨h, trivial⟩
  | .non, n, h => by simp only [leavesD]; exact ⟨h, trivial⟩
  | .bl _, n, h => by simp only [leavesD]; exact ⟨h, trivial⟩
  | .int _, n, h => by simp only [leavesD]; exact ⟨h, trivial⟩
  | .str _, n, h => by simp only [leavesD]; exact ⟨h, trivial⟩
  | .ty _, n, h => h.elim
  | .ref _, n, h => h.elim
  | .lst _, n, h => by simp only [leavesD]; exact ⟨h, trivial⟩
  | .dct _ _, n, h => h.elim
  | .ins _ _ _, n, h => h.elim
  | .scr _, n, h => h.elim
def isTree (n : Nat) (ss : List Str) (d : D) : Bool := pileOf n ss (leavesD d)

def sp_Shape_fields (A : Ad) : SpD := fun ds M Q _ => ∃ fs ss, ds = [shp A fs ss] ∧ Q (.tup (fs.map D.str)) M
def wb_Shape_fields (A : Ad) : WS :=
  (wRet (wFld A.c_Shape ns_Shape 0 (wVar 0)))
theorem bd_Shape_fields {P : Program} {w : World} {K : PySem.W.Frag} {mg : Str → Option Value} {base : Heap} {A : Ad} (T : Txt K mg A) (cdv : Value) (R : Around) (outer : List Env) (s : Shared) (H : Hp) (E : XK) (hr : Room 0 (R.deeper (envOfC "Shape.fields" (defScope s_Shape_fields) s.heap.objs.size A.f_Shape_fields cdv)))
    (tk : Takes (cxOf (L2.CX P w) P w K mg base N_Shape_fields "Shape.fields" (defScope s_Shape_fields) A.f_Shape_fields cdv R outer s H E) (WD E)) : JSs (cxOf (L2.CX P w) P w K mg base N_Shape_fields "Shape.fields" (defScope s_Shape_fields) A.f_Shape_fields cdv R outer s H E) (WD E) (defBody s_Shape_fields) (wb_Shape_fields A) :=
  (js_one (js_ret (j_fld (C := A.c_Shape) (ns := ns_Shape) (i := 0) T.cl_Shape T.na_Shape_own_fields (by decide +kernel) (jv 0))))
theorem rd_Shape_fields (A : Ad) : ∀ ds M Q Xc, sp_Shape_fields A ds M Q Xc → ds.length = P_Shape_fields.length ∧ RD (wb_Shape_fields A) Q Xc (startD N_Shape_fields ds) M := by
  rintro _ M Q Xc ⟨fs, ss, rfl, q⟩
  refine ⟨rfl, ?_⟩
  rw [st_Shape_fields]
  simp only [RD, wb_Shape_fields, ↓pVar, ↓pGet, ↓pC, ↓pOp, ↓pUn, ↓pCB, ↓pNil, ↓pCons, ↓pTest, ↓pBl, ↓pAndT, ↓pOrT, ↓pNotT, ↓pAndV, ↓pOrV, ↓pNotV, ↓pIfE, ↓pTup, ↓pLst, ↓pLstO, ↓pCall, ↓pMeth, ↓pFld, ↓pProp, ↓pMake, ↓pCv, ↓pSl, ↓pNo, ↓pSome, ↓pIntK, ↓pN, ↓pT, ↓pGC, ↓pGN, ↓pIf, ↓pRet, ↓pRetN, ↓pDrop, ↓pAsg, ↓pNx, ↓pBrk, ↓pCnt, ↓pNever, ↓pSub, ↓pAug, ↓pPar, ↓pParK, ↓pBM, ↓pFor, ↓pLc, ↓pLcO, ↓pYes, ↓piSeq, ↓piStr, ↓pStrK, ↓piRng1, ↓pRng1K, ↓piRng2, ↓pRng2K, ↓piEnum, ↓pEnumK, ↓piZip, ↓pZipL, ↓pZipT, ↓pFz, ↓pLenSet, ↓pIsT, ↓rIx_lst, ↓rIx_tup, ↓rIx_ref, ↓rIx_str, ↓rLen_str, ↓rLen_lst, ↓rLen_tup, ↓rLen_ref, ↓rIs_p, ↓rInt_int, ↓rInt_bl, ↓rStr_int, ↓rList_p, ↓rListO_p, ↓rTup_p, ↓rAdd_int, ↓rAdd_str, ↓rAdd_tup, ↓rAdd_lst, ↓rIntD_p, ↓rInt0_p, ↓rEq_int, ↓rEq_str, ↓rEq_bl, ↓rEq_lst, ↓rEq_tup, ↓rIsN_non, ↓rIsN_bl, ↓rIsN_int, ↓rIsN_str, ↓rIsN_tup, ↓rIsN_lst, ↓rNeg_p, ↓rSl_str, ↓rSl_tup, ↓rSl_lst, ↓rSl_scr, ↓rRep_p, ↓pOptK, ↓pChain, ↓pIfT, ↓pCallK, ↓pDzip, ↓pDzipK, ↓pDzipO, ↓pDzipKO, ↓rIsB_bl, ↓rDix_str, ↓rDix_int, ↓rIn_tup, ↓rIn_lst, ↓rEq_ns, ↓rEq_sn, ↓rRepT_p, ↓rAll_f, ↓rAll_t, ↓wSeq_p, ↓seqE_nx, ↓reduceIte, at_0, at_1, at_2, at_3, cut_1, cut_2, dl_0_0, dl_0_1, dl_0_2, dl_0_3, dl_0_4, dl_0_5, dl_1_0, dl_1_1, dl_1_2, dl_1_3, dl_1_4, dl_1_5, dl_2_0, dl_2_1, dl_2_2, dl_2_3, dl_2_4, dl_2_5, dl_3_0, dl_3_1, dl_3_2, dl_3_3, dl_3_4, dl_3_5, dl_4_0, dl_4_1, dl_4_2, dl_4_3, dl_4_4, dl_4_5, dn_1_0, dn_2_0, dn_2_1, dn_3_0, dn_3_1, dn_3_2, dn_4_0, dn_4_1, dn_4_2, dn_4_3, seqE_rt, seqE_bk, seqE_ct, seqE_ex, wipeD, frz_lst, frz_tup, at1_0, at2_0, at2_1, at3_0, at3_1, at3_2, at4_0, at4_1, at4_2, at4_3, at5_0, at5_1, at5_2, at5_3, at5_4, seqOf_put, seqOf_lst, seqOf_tup, insK_same, tyN_non, tyN_bl, tyN_int, tyN_str, tyN_tup, tyN_lst, tyN_dct, List.getElem?_cons_zero, List.getElem?_cons_succ, List.set_cons_zero, List.set_cons_succ, List.length_cons, List.length_nil, isB_NoneType_bool, isB_NoneType_int, isB_NoneType_str, isB_NoneType_tuple, isB_NoneType_list, isB_NoneType_dict, isB_bool_bool, isB_bool_int, isB_bool_str, isB_bool_tuple, isB_bool_list, isB_bool_dict, isB_int_bool, isB_int_int, isB_int_str, isB_int_tuple, isB_int_list, isB_int_dict, isB_str_bool, isB_str_int, isB_str_str, isB_str_tuple, isB_str_list, isB_str_dict, isB_tuple_bool, isB_tuple_int, isB_tuple_str, isB_tuple_tuple, isB_tuple_list, isB_tuple_dict, isB_list_bool, isB_list_int, isB_list_str, isB_list_tuple, isB_list_list, isB_list_dict, isB_dict_bool, isB_dict_int, isB_dict_str, isB_dict_tuple, isB_dict_list, isB_dict_dict, isC_bool, isC_int, isC_str, isC_tuple, isC_list, isC_dict, isA_list_tuple, isQ_NoneType, isQ_bool, isQ_int, isQ_str, isQ_tuple, isQ_list, isQ_dict, true_and, and_true, Bool.not_true, Bool.not_false, Bool.false_eq_true, Bool.true_xor, Bool.false_xor, shp]
  exact fin_of q
theorem ok_Shape_fields {P : Program} {w : World} {K : PySem.W.Frag} {mg : Str → Option Value} {base : Heap} {A : Ad} (T : Txt K mg A) : FnJ P w K mg base 1 A.f_Shape_fields (sp_Shape_fields A) :=
  FnJ.mkAt T.d_Shape_fields sc_Shape_fields (fun cdv R outer s H E hr tk => bd_Shape_fields T cdv R outer s H E hr tk) (rd_Shape_fields A)
def sp_Shape_sources (A : Ad) : SpD := fun ds M Q _ => ∃ fs ss, ds = [shp A fs ss] ∧ Q (.tup (ss.map D.str)) M
def wb_Shape_sources (A : Ad) : WS :=
  (wRet (wFld A.c_Shape ns_Shape 1 (wVar 0)))
theorem bd_Shape_sources {P : Program} {w : World} {K : PySem.W.Frag} {mg : Str → Option Value} {base : Heap} {A : Ad} (T : Txt K mg A) (cdv : Value) (R : Around) (outer : List Env) (s : Shared) (H : Hp) (E : XK) (hr : Room 0 (R.deeper (envOfC "Shape.sources" (defScope s_Shape_sources) s.heap.objs.size A.f_Shape_sources cdv)))
    (tk : Takes (cxOf (L2.CX P w) P w K mg base N_Shape_sources "Shape.sources" (defScope s_Shape_sources) A.f_Shape_sources cdv R outer s H E) (WD E)) : JSs (cxOf (L2.CX P w) P w K mg base N_Shape_sources "Shape.sources" (defScope s_Shape_sources) A.f_Shape_sources cdv R outer s H E) (WD E) (defBody s_Shape_sources) (wb_Shape_sources A) :=
  (js_one (js_ret (j_fld (C := A.c_Shape) (ns := ns_Shape) (i := 1) T.cl_Shape T.na_Shape_own_sources (by decide +kernel) (jv 0))))
theorem rd_Shape_sources (A : Ad) : ∀ ds M Q Xc, sp_Shape_sources A ds M Q Xc → ds.length = P_Shape_sources.length ∧ RD (wb_Shape_sources A) Q Xc (startD N_Shape_sources ds) M := by
  rintro _ M Q Xc ⟨fs, ss, rfl, q⟩
  refine ⟨rfl, ?_⟩
  rw [st_Shape_sources]
  simp only [RD, wb_Shape_sources, ↓pVar, ↓pGet, ↓pC, ↓pOp, ↓pUn, ↓pCB, ↓pNil, ↓pCons, ↓pTest, ↓pBl, ↓pAndT, ↓pOrT, ↓pNotT, ↓pAndV, ↓pOrV, ↓pNotV, ↓pIfE, ↓pTup, ↓pLst, ↓pLstO, ↓pCall, ↓pMeth, ↓pFld, ↓pProp, ↓pMake, ↓pCv, ↓pSl, ↓pNo, ↓pSome, ↓pIntK, ↓pN, ↓pT, ↓pGC, ↓pGN, ↓pIf, ↓pRet, ↓pRetN, ↓pDrop, ↓pAsg, ↓pNx, ↓pBrk, ↓pCnt, ↓pNever, ↓pSub, ↓pAug, ↓pPar, ↓pParK, ↓pBM, ↓pFor, ↓pLc, ↓pLcO, ↓pYes, ↓piSeq, ↓piStr, ↓pStrK, ↓piRng1, ↓pRng1K, ↓piRng2, ↓pRng2K, ↓piEnum, ↓pEnumK, ↓piZip, ↓pZipL, ↓pZipT, ↓pFz, ↓pLenSet, ↓pIsT, ↓rIx_lst, ↓rIx_tup, ↓rIx_ref, ↓rIx_str, ↓rLen_str, ↓rLen_lst, ↓rLen_tup, ↓rLen_ref, ↓rIs_p, ↓rInt_int, ↓rInt_bl, ↓rStr_int, ↓rList_p, ↓rListO_p, ↓rTup_p, ↓rAdd_int, ↓rAdd_str, ↓rAdd_tup, ↓rAdd_lst, ↓rIntD_p, ↓rInt0_p, ↓rEq_int, ↓rEq_str, ↓rEq_bl, ↓rEq_lst, ↓rEq_tup, ↓rIsN_non, ↓rIsN_bl, ↓rIsN_int, ↓rIsN_str, ↓rIsN_tup, ↓rIsN_lst, ↓rNeg_p, ↓rSl_str, ↓rSl_tup, ↓rSl_lst, ↓rSl_scr, ↓rRep_p, ↓pOptK, ↓pChain, ↓pIfT, ↓pCallK, ↓pDzip, ↓pDzipK, ↓pDzipO, ↓pDzipKO, ↓rIsB_bl, ↓rDix_str, ↓rDix_int, ↓rIn_tup, ↓rIn_lst, ↓rEq_ns, ↓rEq_sn, ↓rRepT_p, ↓rAll_f, ↓rAll_t, ↓wSeq_p, ↓seqE_nx, ↓reduceIte, at_0, at_1, at_2, at_3, cut_1, cut_2, dl_0_0, dl_0_1, dl_0_2, dl_0_3, dl_0_4, dl_0_5, dl_1_0, dl_1_1, dl_1_2, dl_1_3, dl_1_4, dl_1_5, dl_2_0, dl_2_1, dl_2_2, dl_2_3, dl_2_4, dl_2_5, dl_3_0, dl_3_1, dl_3_2, dl_3_3, dl_3_4, dl_3_5, dl_4_0, dl_4_1, dl_4_2, dl_4_3, dl_4_4, dl_4_5, dn_1_0, dn_2_0, dn_2_1, dn_3_0, dn_3_1, dn_3_2, dn_4_0, dn_4_1, dn_4_2, dn_4_3, seqE_rt, seqE_bk, seqE_ct, seqE_ex, wipeD, frz_lst, frz_tup, at1_0, at2_0, at2_1, at3_0, at3_1, at3_2, at4_0, at4_1, at4_2, at4_3, at5_0, at5_1, at5_2, at5_3, at5_4, seqOf_put, seqOf_lst, seqOf_tup, insK_same, tyN_non, tyN_bl, tyN_int, tyN_str, tyN_tup, tyN_lst, tyN_dct, List.getElem?_cons_zero, List.getElem?_cons_succ, List.set_cons_zero, List.set_cons_succ, List.length_cons, List.length_nil, isB_NoneType_bool, isB_NoneType_int, isB_NoneType_str, isB_NoneType_tuple, isB_NoneType_list, isB_NoneType_dict, isB_bool_bool, isB_bool_int, isB_bool_str, isB_bool_tuple, isB_bool_list, isB_bool_dict, isB_int_bool, isB_int_int, isB_int_str, isB_int_tuple, isB_int_list, isB_int_dict, isB_str_bool, isB_str_int, isB_str_str, isB_str_tuple, isB_str_list, isB_str_dict, isB_tuple_bool, isB_tuple_int, isB_tuple_str, isB_tuple_tuple, isB_tuple_list, isB_tuple_dict, isB_list_bool, isB_list_int, isB_list_str, isB_list_tuple, isB_list_list, isB_list_dict, isB_dict_bool, isB_dict_int, isB_dict_str, isB_dict_tuple, isB_dict_list, isB_dict_dict, isC_bool, isC_int, isC_str, isC_tuple, isC_list, isC_dict, isA_list_tuple, isQ_NoneType, isQ_bool, isQ_int, isQ_str, isQ_tuple, isQ_list, isQ_dict, true_and, and_true, Bool.not_true, Bool.not_false, Bool.false_eq_true, Bool.true_xor, Bool.false_xor, shp]
  exact fin_of q
theorem ok_Shape_sources {P : Program} {w : World} {K : PySem.W.Frag} {mg : Str → Option Value} {base : Heap} {A : Ad} (T : Txt K mg A) : FnJ P w K mg base 1 A.f_Shape_sources (sp_Shape_sources A) :=
  FnJ.mkAt T.d_Shape_sources sc_Shape_sources (fun cdv R outer s H E hr tk => bd_Shape_sources T cdv R outer s H E hr tk) (rd_Shape_sources A)
/-- the columns of a shape -/
def cols (fs : List Str) : List Str := "moment" :: "source" :: fs
def sp_Shape_columns (A : Ad) : SpD := fun ds M Q _ => ∃ fs ss, ds = [shp A fs ss] ∧ fs.length < 3000 ∧ Q (.tup ((cols fs).map D.str)) M
def wb_Shape_columns (A : Ad) : WS :=
  (wRet (wOp rAddD (wC k_OWN_COLUMNS) (wFld A.c_Shape ns_Shape 0 (wVar 0))))
theorem bd_Shape_columns {P : Program} {w : World} {K : PySem.W.Frag} {mg : Str → Option Value} {base : Heap} {A : Ad} (T : Txt K mg A) (cdv : Value) (R : Around) (outer : List Env) (s : Shared) (H : Hp) (E : XK) (hr : Room 0 (R.deeper (envOfC "Shape.columns" (defScope s_Shape_columns) s.heap.objs.size A.f_Shape_columns cdv)))
    (tk : Takes (cxOf (L2.CX P w) P w K mg base N_Shape_columns "Shape.columns" (defScope s_Shape_columns) A.f_Shape_columns cdv R outer s H E) (WD E)) : JSs (cxOf (L2.CX P w) P w K mg base N_Shape_columns "Shape.columns" (defScope s_Shape_columns) A.f_Shape_columns cdv R outer s H E) (WD E) (defBody s_Shape_columns) (wb_Shape_columns A) :=
  (js_one (js_ret (j_op od_add (j_k T.k_OWN_COLUMNS) (j_fld (C := A.c_Shape) (ns := ns_Shape) (i := 0) T.cl_Shape T.na_Shape_own_fields (by decide +kernel) (jv 0)))))
theorem rd_Shape_columns (A : Ad) : ∀ ds M Q Xc, sp_Shape_columns A ds M Q Xc → ds.length = P_Shape_columns.length ∧ RD (wb_Shape_columns A) Q Xc (startD N_Shape_columns ds) M := by
  rintro _ M Q Xc ⟨fs, ss, rfl, hl, q⟩
  refine ⟨rfl, ?_⟩
  rw [st_Shape_columns]
  have := sizeLine_big
  simp only [RD, wb_Shape_columns, ↓pVar, ↓pGet, ↓pC, ↓pOp, ↓pUn, ↓pCB, ↓pNil, ↓pCons, ↓pTest, ↓pBl, ↓pAndT, ↓pOrT, ↓pNotT, ↓pAndV, ↓pOrV, ↓pNotV, ↓pIfE, ↓pTup, ↓pLst, ↓pLstO, ↓pCall, ↓pMeth, ↓pFld, ↓pProp, ↓pMake, ↓pCv, ↓pSl, ↓pNo, ↓pSome, ↓pIntK, ↓pN, ↓pT, ↓pGC, ↓pGN, ↓pIf, ↓pRet, ↓pRetN, ↓pDrop, ↓pAsg, ↓pNx, ↓pBrk, ↓pCnt, ↓pNever, ↓pSub, ↓pAug, ↓pPar, ↓pParK, ↓pBM, ↓pFor, ↓pLc, ↓pLcO, ↓pYes, ↓piSeq, ↓piStr, ↓pStrK, ↓piRng1, ↓pRng1K, ↓piRng2, ↓pRng2K, ↓piEnum, ↓pEnumK, ↓piZip, ↓pZipL, ↓pZipT, ↓pFz, ↓pLenSet, ↓pIsT, ↓rIx_lst, ↓rIx_tup, ↓rIx_ref, ↓rIx_str, ↓rLen_str, ↓rLen_lst, ↓rLen_tup, ↓rLen_ref, ↓rIs_p, ↓rInt_int, ↓rInt_bl, ↓rStr_int, ↓rList_p, ↓rListO_p, ↓rTup_p, ↓rAdd_int, ↓rAdd_str, ↓rAdd_tup, ↓rAdd_lst, ↓rIntD_p, ↓rInt0_p, ↓rEq_int, ↓rEq_str, ↓rEq_bl, ↓rEq_lst, ↓rEq_tup, ↓rIsN_non, ↓rIsN_bl, ↓rIsN_int, ↓rIsN_str, ↓rIsN_tup, ↓rIsN_lst, ↓rNeg_p, ↓rSl_str, ↓rSl_tup, ↓rSl_lst, ↓rSl_scr, ↓rRep_p, ↓pOptK, ↓pChain, ↓pIfT, ↓pCallK, ↓pDzip, ↓pDzipK, ↓pDzipO, ↓pDzipKO, ↓rIsB_bl, ↓rDix_str, ↓rDix_int, ↓rIn_tup, ↓rIn_lst, ↓rEq_ns, ↓rEq_sn, ↓rRepT_p, ↓rAll_f, ↓rAll_t, ↓wSeq_p, ↓seqE_nx, ↓reduceIte, at_0, at_1, at_2, at_3, cut_1, cut_2, dl_0_0, dl_0_1, dl_0_2, dl_0_3, dl_0_4, dl_0_5, dl_1_0, dl_1_1, dl_1_2, dl_1_3, dl_1_4, dl_1_5, dl_2_0, dl_2_1, dl_2_2, dl_2_3, dl_2_4, dl_2_5, dl_3_0, dl_3_1, dl_3_2, dl_3_3, dl_3_4, dl_3_5, dl_4_0, dl_4_1, dl_4_2, dl_4_3, dl_4_4, dl_4_5, dn_1_0, dn_2_0, dn_2_1, dn_3_0, dn_3_1, dn_3_2, dn_4_0, dn_4_1, dn_4_2, dn_4_3, seqE_rt, seqE_bk, seqE_ct, seqE_ex, wipeD, frz_lst, frz_tup, at1_0, at2_0, at2_1, at3_0, at3_1, at3_2, at4_0, at4_1, at4_2, at4_3, at5_0, at5_1, at5_2, at5_3, at5_4, seqOf_put, seqOf_lst, seqOf_tup, insK_same, tyN_non, tyN_bl, tyN_int, tyN_str, tyN_tup, tyN_lst, tyN_dct, List.getElem?_cons_zero, List.getElem?_cons_succ, List.set_cons_zero, List.set_cons_succ, List.length_cons, List.length_nil, isB_NoneType_bool, isB_NoneType_int, isB_NoneType_str, isB_NoneType_tuple, isB_NoneType_list, isB_NoneType_dict, isB_bool_bool, isB_bool_int, isB_bool_str, isB_bool_tuple, isB_bool_list, isB_bool_dict, isB_int_bool, isB_int_int, isB_int_str, isB_int_tuple, isB_int_list, isB_int_dict, isB_str_bool, isB_str_int, isB_str_str, isB_str_tuple, isB_str_list, isB_str_dict, isB_tuple_bool, isB_tuple_int, isB_tuple_str, isB_tuple_tuple, isB_tuple_list, isB_tuple_dict, isB_list_bool, isB_list_int, isB_list_str, isB_list_tuple, isB_list_list, isB_list_dict, isB_dict_bool, isB_dict_int, isB_dict_str, isB_dict_tuple, isB_dict_list, isB_dict_dict, isC_bool, isC_int, isC_str, isC_tuple, isC_list, isC_dict, isA_list_tuple, isQ_NoneType, isQ_bool, isQ_int, isQ_str, isQ_tuple, isQ_list, isQ_dict, true_and, and_true, Bool.not_true, Bool.not_false, Bool.false_eq_true, Bool.true_xor, Bool.false_xor, shp, k_OWN_COLUMNS, List.length_map]
  exact ⟨by omega, fin_of q⟩
theorem ok_Shape_columns {P : Program} {w : World} {K : PySem.W.Frag} {mg : Str → Option Value} {base : Heap} {A : Ad} (T : Txt K mg A) : FnJ P w K mg base 1 A.f_Shape_columns (sp_Shape_columns A) :=
  FnJ.mkAt T.d_Shape_columns sc_Shape_columns (fun cdv R outer s H E hr tk => bd_Shape_columns T cdv R outer s H E hr tk) (rd_Shape_columns A)
/-- the sheet of a row: its columns' values -/
def shtD (fs : List Str) (m : Int) (s : Str) (vs : List D) : D := .dct ((cols fs).map Sum.inr) (.int m :: .str s :: vs)
def rowD (m : Int) (s : Str) (vs : List D) : D := .tup [.int m, .str s, .tup vs]
def sp_Shape_need_row (A : Ad) : SpD := fun ds M Q _ => ∃ fs ss d, ds = [shp A fs ss, d] ∧ fs.length < 3000 ∧ Nc d 50 ∧ isRow fs.length ss d = true ∧ Q .non M
def wb_Shape_need_row (A : Ad) : WS :=
  (wIf (wNotT (wTest (wMeth A.c_Shape ns_Shape (sp_Shape_is_row A) (wVar 0) (wCons (wVar 1) wNil))))
  wNever
  wNx)
theorem bd_Shape_need_row {P : Program} {w : World} {K : PySem.W.Frag} {mg : Str → Option Value} {base : Heap} {A : Ad} (T : Txt K mg A) (cdv : Value) (R : Around) (outer : List Env) (s : Shared) (H : Hp) (E : XK) (hr : Room 3 (R.deeper (envOfC "Shape.need_row" (defScope s_Shape_need_row) s.heap.objs.size A.f_Shape_need_row cdv)))
    (tk : Takes (cxOf (L2.CX P w) P w K mg base N_Shape_need_row "Shape.need_row" (defScope s_Shape_need_row) A.f_Shape_need_row cdv R outer s H E) (WD E)) : JSs (cxOf (L2.CX P w) P w K mg base N_Shape_need_row "Shape.need_row" (defScope s_Shape_need_row) A.f_Shape_need_row cdv R outer s H E) (WD E) (defBody s_Shape_need_row) (wb_Shape_need_row A) :=
  (js_one (js_if (jt_not (jt_val (j_meth (C := A.c_Shape) (ns := ns_Shape) (jv 0) T.cl_Shape T.m_Shape_is_row (by decide +kernel) (ok_Shape_is_row T) hr (by decide) tk (j_cons (jv 1) j_nil))))
  jss_never
  js_nil))
theorem rd_Shape_need_row (A : Ad) : ∀ ds M Q Xc, sp_Shape_need_row A ds M Q Xc → ds.length = P_Shape_need_row.length ∧ RD (wb_Shape_need_row A) Q Xc (startD N_Shape_need_row ds) M := by
  rintro _ M Q Xc ⟨fs, ss, d, rfl, hl, hn, hr, q⟩
  refine ⟨rfl, ?_⟩
  rw [st_Shape_need_row]
  simp only [RD, wb_Shape_need_row, ↓pVar, ↓pGet, ↓pC, ↓pOp, ↓pUn, ↓pCB, ↓pNil, ↓pCons, ↓pTest, ↓pBl, ↓pAndT, ↓pOrT, ↓pNotT, ↓pAndV, ↓pOrV, ↓pNotV, ↓pIfE, ↓pTup, ↓pLst, ↓pLstO, ↓pCall, ↓pMeth, ↓pFld, ↓pProp, ↓pMake, ↓pCv, ↓pSl, ↓pNo, ↓pSome, ↓pIntK, ↓pN, ↓pT, ↓pGC, ↓pGN, ↓pIf, ↓pRet, ↓pRetN, ↓pDrop, ↓pAsg, ↓pNx, ↓pBrk, ↓pCnt, ↓pNever, ↓pSub, ↓pAug, ↓pPar, ↓pParK, ↓pBM, ↓pFor, ↓pLc, ↓pLcO, ↓pYes, ↓piSeq, ↓piStr, ↓pStrK, ↓piRng1, ↓pRng1K, ↓piRng2, ↓pRng2K, ↓piEnum, ↓pEnumK, ↓piZip, ↓pZipL, ↓pZipT, ↓pFz, ↓pLenSet, ↓pIsT, ↓rIx_lst, ↓rIx_tup, ↓rIx_ref, ↓rIx_str, ↓rLen_str, ↓rLen_lst, ↓rLen_tup, ↓rLen_ref, ↓rIs_p, ↓rInt_int, ↓rInt_bl, ↓rStr_int, ↓rList_p, ↓rListO_p, ↓rTup_p, ↓rAdd_int, ↓rAdd_str, ↓rAdd_tup, ↓rAdd_lst, ↓rIntD_p, ↓rInt0_p, ↓rEq_int, ↓rEq_str, ↓rEq_bl, ↓rEq_lst, ↓rEq_tup, ↓rIsN_non, ↓rIsN_bl, ↓rIsN_int, ↓rIsN_str, ↓rIsN_tup, ↓rIsN_lst, ↓rNeg_p, ↓rSl_str, ↓rSl_tup, ↓rSl_lst, ↓rSl_scr, ↓rRep_p, ↓pOptK, ↓pChain, ↓pIfT, ↓pCallK, ↓pDzip, ↓pDzipK, ↓pDzipO, ↓pDzipKO, ↓rIsB_bl, ↓rDix_str, ↓rDix_int, ↓rIn_tup, ↓rIn_lst, ↓rEq_ns, ↓rEq_sn, ↓rRepT_p, ↓rAll_f, ↓rAll_t, ↓wSeq_p, ↓seqE_nx, ↓reduceIte, at_0, at_1, at_2, at_3, cut_1, cut_2, dl_0_0, dl_0_1, dl_0_2, dl_0_3, dl_0_4, dl_0_5, dl_1_0, dl_1_1, dl_1_2, dl_1_3, dl_1_4, dl_1_5, dl_2_0, dl_2_1, dl_2_2, dl_2_3, dl_2_4, dl_2_5, dl_3_0, dl_3_1, dl_3_2, dl_3_3, dl_3_4, dl_3_5, dl_4_0, dl_4_1, dl_4_2, dl_4_3, dl_4_4, dl_4_5, dn_1_0, dn_2_0, dn_2_1, dn_3_0, dn_3_1, dn_3_2, dn_4_0, dn_4_1, dn_4_2, dn_4_3, seqE_rt, seqE_bk, seqE_ct, seqE_ex, wipeD, frz_lst, frz_tup, at1_0, at2_0, at2_1, at3_0, at3_1, at3_2, at4_0, at4_1, at4_2, at4_3, at5_0, at5_1, at5_2, at5_3, at5_4, seqOf_put, seqOf_lst, seqOf_tup, insK_same, tyN_non, tyN_bl, tyN_int, tyN_str, tyN_tup, tyN_lst, tyN_dct, List.getElem?_cons_zero, List.getElem?_cons_succ, List.set_cons_zero, List.set_cons_succ, List.length_cons, List.length_nil, isB_NoneType_bool, isB_NoneType_int, isB_NoneType_str, isB_NoneType_tuple, isB_NoneType_list, isB_NoneType_dict, isB_bool_bool, isB_bool_int, isB_bool_str, isB_bool_tuple, isB_bool_list, isB_bool_dict, isB_int_bool, isB_int_int, isB_int_str, isB_int_tuple, isB_int_list, isB_int_dict, isB_str_bool, isB_str_int, isB_str_str, isB_str_tuple, isB_str_list, isB_str_dict, isB_tuple_bool, isB_tuple_int, isB_tuple_str, isB_tuple_tuple, isB_tuple_list, isB_tuple_dict, isB_list_bool, isB_list_int, isB_list_str, isB_list_tuple, isB_list_list, isB_list_dict, isB_dict_bool, isB_dict_int, isB_dict_str, isB_dict_tuple, isB_dict_list, isB_dict_dict, isC_bool, isC_int, isC_str, isC_tuple, isC_list, isC_dict, isA_list_tuple, isQ_NoneType, isQ_bool, isQ_int, isQ_str, isQ_tuple, isQ_list, isQ_dict, true_and, and_true, Bool.not_true, Bool.not_false, Bool.false_eq_true, Bool.true_xor, Bool.false_xor, shp]
  refine ⟨fs, ss, d, rfl, hl, hn, ?_⟩
  rw [hr]
  simp only [↓pVar, ↓pGet, ↓pC, ↓pOp, ↓pUn, ↓pCB, ↓pNil, ↓pCons, ↓pTest, ↓pBl, ↓pAndT, ↓pOrT, ↓pNotT, ↓pAndV, ↓pOrV, ↓pNotV, ↓pIfE, ↓pTup, ↓pLst, ↓pLstO, ↓pCall, ↓pMeth, ↓pFld, ↓pProp, ↓pMake, ↓pCv, ↓pSl, ↓pNo, ↓pSome, ↓pIntK, ↓pN, ↓pT, ↓pGC, ↓pGN, ↓pIf, ↓pRet, ↓pRetN, ↓pDrop, ↓pAsg, ↓pNx, ↓pBrk, ↓pCnt, ↓pNever, ↓pSub, ↓pAug, ↓pPar, ↓pParK, ↓pBM, ↓pFor, ↓pLc, ↓pLcO, ↓pYes, ↓piSeq, ↓piStr, ↓pStrK, ↓piRng1, ↓pRng1K, ↓piRng2, ↓pRng2K, ↓piEnum, ↓pEnumK, ↓piZip, ↓pZipL, ↓pZipT, ↓pFz, ↓pLenSet, ↓pIsT, ↓rIx_lst, ↓rIx_tup, ↓rIx_ref, ↓rIx_str, ↓rLen_str, ↓rLen_lst, ↓rLen_tup, ↓rLen_ref, ↓rIs_p, ↓rInt_int, ↓rInt_bl, ↓rStr_int, ↓rList_p, ↓rListO_p, ↓rTup_p, ↓rAdd_int, ↓rAdd_str, ↓rAdd_tup, ↓rAdd_lst, ↓rIntD_p, ↓rInt0_p, ↓rEq_int, ↓rEq_str, ↓rEq_bl, ↓rEq_lst, ↓rEq_tup, ↓rIsN_non, ↓rIsN_bl, ↓rIsN_int, ↓rIsN_str, ↓rIsN_tup, ↓rIsN_lst, ↓rNeg_p, ↓rSl_str, ↓rSl_tup, ↓rSl_lst, ↓rSl_scr, ↓rRep_p, ↓pOptK, ↓pChain, ↓pIfT, ↓pCallK, ↓pDzip, ↓pDzipK, ↓pDzipO, ↓pDzipKO, ↓rIsB_bl, ↓rDix_str, ↓rDix_int, ↓rIn_tup, ↓rIn_lst, ↓rEq_ns, ↓rEq_sn, ↓rRepT_p, ↓rAll_f, ↓rAll_t, ↓wSeq_p, ↓seqE_nx, ↓reduceIte, at_0, at_1, at_2, at_3, cut_1, cut_2, dl_0_0, dl_0_1, dl_0_2, dl_0_3, dl_0_4, dl_0_5, dl_1_0, dl_1_1, dl_1_2, dl_1_3, dl_1_4, dl_1_5, dl_2_0, dl_2_1, dl_2_2, dl_2_3, dl_2_4, dl_2_5, dl_3_0, dl_3_1, dl_3_2, dl_3_3, dl_3_4, dl_3_5, dl_4_0, dl_4_1, dl_4_2, dl_4_3, dl_4_4, dl_4_5, dn_1_0, dn_2_0, dn_2_1, dn_3_0, dn_3_1, dn_3_2, dn_4_0, dn_4_1, dn_4_2, dn_4_3, seqE_rt, seqE_bk, seqE_ct, seqE_ex, wipeD, frz_lst, frz_tup, at1_0, at2_0, at2_1, at3_0, at3_1, at3_2, at4_0, at4_1, at4_2, at4_3, at5_0, at5_1, at5_2, at5_3, at5_4, seqOf_put, seqOf_lst, seqOf_tup, insK_same, tyN_non, tyN_bl, tyN_int, tyN_str, tyN_tup, tyN_lst, tyN_dct, List.getElem?_cons_zero, List.getElem?_cons_succ, List.set_cons_zero, List.set_cons_succ, List.length_cons, List.length_nil, isB_NoneType_bool, isB_NoneType_int, isB_NoneType_str, isB_NoneType_tuple, isB_NoneType_list, isB_NoneType_dict, isB_bool_bool, isB_bool_int, isB_bool_str, isB_bool_tuple, isB_bool_list, isB_bool_dict, isB_int_bool, isB_int_int, isB_int_str, isB_int_tuple, isB_int_list, isB_int_dict, isB_str_bool, isB_str_int, isB_str_str, isB_str_tuple, isB_str_list, isB_str_dict, isB_tuple_bool, isB_tuple_int, isB_tuple_str, isB_tuple_tuple, isB_tuple_list, isB_tuple_dict, isB_list_bool, isB_list_int, isB_list_str, isB_list_tuple, isB_list_list, isB_list_dict, isB_dict_bool, isB_dict_int, isB_dict_str, isB_dict_tuple, isB_dict_list, isB_dict_dict, isC_bool, isC_int, isC_str, isC_tuple, isC_list, isC_dict, isA_list_tuple, isQ_NoneType, isQ_bool, isQ_int, isQ_str, isQ_tuple, isQ_list, isQ_dict, true_and, and_true, Bool.not_true, Bool.not_false, Bool.false_eq_true, Bool.true_xor, Bool.false_xor]
  exact fin_of q
theorem ok_Shape_need_row {P : Program} {w : World} {K : PySem.W.Frag} {mg : Str → Option Value} {base : Heap} {A : Ad} (T : Txt K mg A) : FnJ P w K mg base 4 A.f_Shape_need_row (sp_Shape_need_row A) :=
  FnJ.mkAt T.d_Shape_need_row sc_Shape_need_row (fun cdv R outer s H E hr tk => bd_Shape_need_row T cdv R outer s H E hr tk) (rd_Shape_need_row A)
def sp_Shape_sheet (A : Ad) : SpD := fun ds M Q _ => ∃ fs ss m s vs, ds = [shp A fs ss, rowD m s vs] ∧ NamesOk fs ∧ OwnOk fs ∧ Nc (rowD m s vs) 50 ∧ isRow fs.length ss (rowD m s vs) = true ∧ vs.length = fs.length ∧ Q (shtD fs m s vs) M
def wb_Shape_sheet (A : Ad) : WS :=
  (wSeq (wDrop (wMeth A.c_Shape ns_Shape (sp_Shape_need_row A) (wVar 0) (wCons (wVar 1) wNil)))
  (wRet (wDzip (wCons (wProp A.c_Shape ns_Shape (sp_Shape_columns A) (wVar 0)) (wCons (wOp rAddD (wTup (wCons (wOp rIxD (wVar 1) (wC (.int 0))) (wCons (wOp rIxD (wVar 1) (wC (.int 1))) wNil))) (wOp rIxD (wVar 1) (wC (.int 2)))) wNil)))))
theorem bd_Shape_sheet {P : Program} {w : World} {K : PySem.W.Frag} {mg : Str → Option Value} {base : Heap} {A : Ad} (T : Txt K mg A) (cdv : Value) (R : Around) (outer : List Env) (s : Shared) (H : Hp) (E : XK) (hr : Room 4 (R.deeper (envOfC "Shape.sheet" (defScope s_Shape_sheet) s.heap.objs.size A.f_Shape_sheet cdv)))
    (tk : Takes (cxOf (L2.CX P w) P w K mg base N_Shape_sheet "Shape.sheet" (defScope s_Shape_sheet) A.f_Shape_sheet cdv R outer s H E) (WD E)) : JSs (cxOf (L2.CX P w) P w K mg base N_Shape_sheet "Shape.sheet" (defScope s_Shape_sheet) A.f_Shape_sheet cdv R outer s H E) (WD E) (defBody s_Shape_sheet) (wb_Shape_sheet A) :=
  (js_cons (js_expr (j_meth (C := A.c_Shape) (ns := ns_Shape) (jv 0) T.cl_Shape T.m_Shape_need_row (by decide +kernel) (ok_Shape_need_row T) hr (by decide) tk (j_cons (jv 1) j_nil)))
  (js_one (js_ret (j_dzip rfl T.n_dict T.n_zip (j_cons (j_prop (C := A.c_Shape) (ns := ns_Shape) (jv 0) T.cl_Shape T.p_Shape_columns (ok_Shape_columns T) hr (by decide)) (j_cons (j_op od_add (j_tup (j_cons (j_ix id_ix (jv 1) j_int) (j_cons (j_ix id_ix (jv 1) j_int) j_nil))) (j_ix id_ix (jv 1) j_int)) j_nil))))))
theorem cols_nd {fs : List Str} (hf : NamesOk fs) (ho : OwnOk fs) : (cols fs).Nodup := by
  refine List.nodup_cons.mpr ⟨fun h => ?_, List.nodup_cons.mpr ⟨ho.s, hf.nd⟩⟩
  rcases List.mem_cons.mp h with h | h
  · exact absurd h (by decide +kernel)
  · exact ho.m h
theorem keys_nd {xs : List Str} (h : xs.Nodup) : (xs.map (Sum.inr : Str → Key)).Nodup := List.Pairwise.map _ (fun a b hn e => hn (Sum.inr.inj e)) h
theorem rd_Shape_sheet (A : Ad) : ∀ ds M Q Xc, sp_Shape_sheet A ds M Q Xc → ds.length = P_Shape_sheet.length ∧ RD (wb_Shape_sheet A) Q Xc (startD N_Shape_sheet ds) M := by
  rintro _ M Q Xc ⟨fs, ss, m, s, vs, rfl, hf, ho, hn, hr, hl, q⟩
  refine ⟨rfl, ?_⟩
  rw [st_Shape_sheet]
  have big := sizeLine_big
  have f5 := hf.hi
  simp only [RD, wb_Shape_sheet, ↓pVar, ↓pGet, ↓pC, ↓pOp, ↓pUn, ↓pCB, ↓pNil, ↓pCons, ↓pTest, ↓pBl, ↓pAndT, ↓pOrT, ↓pNotT, ↓pAndV, ↓pOrV, ↓pNotV, ↓pIfE, ↓pTup, ↓pLst, ↓pLstO, ↓pCall, ↓pMeth, ↓pFld, ↓pProp, ↓pMake, ↓pCv, ↓pSl, ↓pNo, ↓pSome, ↓pIntK, ↓pN, ↓pT, ↓pGC, ↓pGN, ↓pIf, ↓pRet, ↓pRetN, ↓pDrop, ↓pAsg, ↓pNx, ↓pBrk, ↓pCnt, ↓pNever, ↓pSub, ↓pAug, ↓pPar, ↓pParK, ↓pBM, ↓pFor, ↓pLc, ↓pLcO, ↓pYes, ↓piSeq, ↓piStr, ↓pStrK, ↓piRng1, ↓pRng1K, ↓piRng2, ↓pRng2K, ↓piEnum, ↓pEnumK, ↓piZip, ↓pZipL, ↓pZipT, ↓pFz, ↓pLenSet, ↓pIsT, ↓rIx_lst, ↓rIx_tup, ↓rIx_ref, ↓rIx_str, ↓rLen_str, ↓rLen_lst, ↓rLen_tup, ↓rLen_ref, ↓rIs_p, ↓rInt_int, ↓rInt_bl, ↓rStr_int, ↓rList_p, ↓rListO_p, ↓rTup_p, ↓rAdd_int, ↓rAdd_str, ↓rAdd_tup, ↓rAdd_lst, ↓rIntD_p, ↓rInt0_p, ↓rEq_int, ↓rEq_str, ↓rEq_bl, ↓rEq_lst, ↓rEq_tup, ↓rIsN_non, ↓rIsN_bl, ↓rIsN_int, ↓rIsN_str, ↓rIsN_tup, ↓rIsN_lst, ↓rNeg_p, ↓rSl_str, ↓rSl_tup, ↓rSl_lst, ↓rSl_scr, ↓rRep_p, ↓pOptK, ↓pChain, ↓pIfT, ↓pCallK, ↓pDzip, ↓pDzipK, ↓pDzipO, ↓pDzipKO, ↓rIsB_bl, ↓rDix_str, ↓rDix_int, ↓rIn_tup, ↓rIn_lst, ↓rEq_ns, ↓rEq_sn, ↓rRepT_p, ↓rAll_f, ↓rAll_t, ↓wSeq_p, ↓seqE_nx, ↓reduceIte, at_0, at_1, at_2, at_3, cut_1, cut_2, dl_0_0, dl_0_1, dl_0_2, dl_0_3, dl_0_4, dl_0_5, dl_1_0, dl_1_1, dl_1_2, dl_1_3, dl_1_4, dl_1_5, dl_2_0, dl_2_1, dl_2_2, dl_2_3, dl_2_4, dl_2_5, dl_3_0, dl_3_1, dl_3_2, dl_3_3, dl_3_4, dl_3_5, dl_4_0, dl_4_1, dl_4_2, dl_4_3, dl_4_4, dl_4_5, dn_1_0, dn_2_0, dn_2_1, dn_3_0, dn_3_1, dn_3_2, dn_4_0, dn_4_1, dn_4_2, dn_4_3, seqE_rt, seqE_bk, seqE_ct, seqE_ex, wipeD, frz_lst, frz_tup, at1_0, at2_0, at2_1, at3_0, at3_1, at3_2, at4_0, at4_1, at4_2, at4_3, at5_0, at5_1, at5_2, at5_3, at5_4, seqOf_put, seqOf_lst, seqOf_tup, insK_same, tyN_non, tyN_bl, tyN_int, tyN_str, tyN_tup, tyN_lst, tyN_dct, List.getElem?_cons_zero, List.getElem?_cons_succ, List.set_cons_zero, List.set_cons_succ, List.length_cons, List.length_nil, isB_NoneType_bool, isB_NoneType_int, isB_NoneType_str, isB_NoneType_tuple, isB_NoneType_list, isB_NoneType_dict, isB_bool_bool, isB_bool_int, isB_bool_str, isB_bool_tuple, isB_bool_list, isB_bool_dict, isB_int_bool, isB_int_int, isB_int_str, isB_int_tuple, isB_int_list, isB_int_dict, isB_str_bool, isB_str_int, isB_str_str, isB_str_tuple, isB_str_list, isB_str_dict, isB_tuple_bool, isB_tuple_int, isB_tuple_str, isB_tuple_tuple, isB_tuple_list, isB_tuple_dict, isB_list_bool, isB_list_int, isB_list_str, isB_list_tuple, isB_list_list, isB_list_dict, isB_dict_bool, isB_dict_int, isB_dict_str, isB_dict_tuple, isB_dict_list, isB_dict_dict, isC_bool, isC_int, isC_str, isC_tuple, isC_list, isC_dict, isA_list_tuple, isQ_NoneType, isQ_bool, isQ_int, isQ_str, isQ_tuple, isQ_list, isQ_dict, true_and, and_true, Bool.not_true, Bool.not_false, Bool.false_eq_true, Bool.true_xor, Bool.false_xor, shp]
  refine ⟨fs, ss, _, rfl, by omega, hn, hr, ?_⟩
  simp only [↓pVar, ↓pGet, ↓pC, ↓pOp, ↓pUn, ↓pCB, ↓pNil, ↓pCons, ↓pTest, ↓pBl, ↓pAndT, ↓pOrT, ↓pNotT, ↓pAndV, ↓pOrV, ↓pNotV, ↓pIfE, ↓pTup, ↓pLst, ↓pLstO, ↓pCall, ↓pMeth, ↓pFld, ↓pProp, ↓pMake, ↓pCv, ↓pSl, ↓pNo, ↓pSome, ↓pIntK, ↓pN, ↓pT, ↓pGC, ↓pGN, ↓pIf, ↓pRet, ↓pRetN, ↓pDrop, ↓pAsg, ↓pNx, ↓pBrk, ↓pCnt, ↓pNever, ↓pSub, ↓pAug, ↓pPar, ↓pParK, ↓pBM, ↓pFor, ↓pLc, ↓pLcO, ↓pYes, ↓piSeq, ↓piStr, ↓pStrK, ↓piRng1, ↓pRng1K, ↓piRng2, ↓pRng2K, ↓piEnum, ↓pEnumK, ↓piZip, ↓pZipL, ↓pZipT, ↓pFz, ↓pLenSet, ↓pIsT, ↓rIx_lst, ↓rIx_tup, ↓rIx_ref, ↓rIx_str, ↓rLen_str, ↓rLen_lst, ↓rLen_tup, ↓rLen_ref, ↓rIs_p, ↓rInt_int, ↓rInt_bl, ↓rStr_int, ↓rList_p, ↓rListO_p, ↓rTup_p, ↓rAdd_int, ↓rAdd_str, ↓rAdd_tup, ↓rAdd_lst, ↓rIntD_p, ↓rInt0_p, ↓rEq_int, ↓rEq_str, ↓rEq_bl, ↓rEq_lst, ↓rEq_tup, ↓rIsN_non, ↓rIsN_bl, ↓rIsN_int, ↓rIsN_str, ↓rIsN_tup, ↓rIsN_lst, ↓rNeg_p, ↓rSl_str, ↓rSl_tup, ↓rSl_lst, ↓rSl_scr, ↓rRep_p, ↓pOptK, ↓pChain, ↓pIfT, ↓pCallK, ↓pDzip, ↓pDzipK, ↓pDzipO, ↓pDzipKO, ↓rIsB_bl, ↓rDix_str, ↓rDix_int, ↓rIn_tup, ↓rIn_lst, ↓rEq_ns, ↓rEq_sn, ↓rRepT_p, ↓rAll_f, ↓rAll_t, ↓wSeq_p, ↓seqE_nx, ↓reduceIte, at_0, at_1, at_2, at_3, cut_1, cut_2, dl_0_0, dl_0_1, dl_0_2, dl_0_3, dl_0_4, dl_0_5, dl_1_0, dl_1_1, dl_1_2, dl_1_3, dl_1_4, dl_1_5, dl_2_0, dl_2_1, dl_2_2, dl_2_3, dl_2_4, dl_2_5, dl_3_0, dl_3_1, dl_3_2, dl_3_3, dl_3_4, dl_3_5, dl_4_0, dl_4_1, dl_4_2, dl_4_3, dl_4_4, dl_4_5, dn_1_0, dn_2_0, dn_2_1, dn_3_0, dn_3_1, dn_3_2, dn_4_0, dn_4_1, dn_4_2, dn_4_3, seqE_rt, seqE_bk, seqE_ct, seqE_ex, wipeD, frz_lst, frz_tup, at1_0, at2_0, at2_1, at3_0, at3_1, at3_2, at4_0, at4_1, at4_2, at4_3, at5_0, at5_1, at5_2, at5_3, at5_4, seqOf_put, seqOf_lst, seqOf_tup, insK_same, tyN_non, tyN_bl, tyN_int, tyN_str, tyN_tup, tyN_lst, tyN_dct, List.getElem?_cons_zero, List.getElem?_cons_succ, List.set_cons_zero, List.set_cons_succ, List.length_cons, List.length_nil, isB_NoneType_bool, isB_NoneType_int, isB_NoneType_str, isB_NoneType_tuple, isB_NoneType_list, isB_NoneType_dict, isB_bool_bool, isB_bool_int, isB_bool_str, isB_bool_tuple, isB_bool_list, isB_bool_dict, isB_int_bool, isB_int_int, isB_int_str, isB_int_tuple, isB_int_list, isB_int_dict, isB_str_bool, isB_str_int, isB_str_str, isB_str_tuple, isB_str_list, isB_str_dict, isB_tuple_bool, isB_tuple_int, isB_tuple_str, isB_tuple_tuple, isB_tuple_list, isB_tuple_dict, isB_list_bool, isB_list_int, isB_list_str, isB_list_tuple, isB_list_list, isB_list_dict, isB_dict_bool, isB_dict_int, isB_dict_str, isB_dict_tuple, isB_dict_list, isB_dict_dict, isC_bool, isC_int, isC_str, isC_tuple, isC_list, isC_dict, isA_list_tuple, isQ_NoneType, isQ_bool, isQ_int, isQ_str, isQ_tuple, isQ_list, isQ_dict, true_and, and_true, Bool.not_true, Bool.not_false, Bool.false_eq_true, Bool.true_xor, Bool.false_xor, rowD]
  refine ⟨fs, ss, rfl, by omega, by omega, by omega, ?_⟩
  simp only [↓pVar, ↓pGet, ↓pC, ↓pOp, ↓pUn, ↓pCB, ↓pNil, ↓pCons, ↓pTest, ↓pBl, ↓pAndT, ↓pOrT, ↓pNotT, ↓pAndV, ↓pOrV, ↓pNotV, ↓pIfE, ↓pTup, ↓pLst, ↓pLstO, ↓pCall, ↓pMeth, ↓pFld, ↓pProp, ↓pMake, ↓pCv, ↓pSl, ↓pNo, ↓pSome, ↓pIntK, ↓pN, ↓pT, ↓pGC, ↓pGN, ↓pIf, ↓pRet, ↓pRetN, ↓pDrop, ↓pAsg, ↓pNx, ↓pBrk, ↓pCnt, ↓pNever, ↓pSub, ↓pAug, ↓pPar, ↓pParK, ↓pBM, ↓pFor, ↓pLc, ↓pLcO, ↓pYes, ↓piSeq, ↓piStr, ↓pStrK, ↓piRng1, ↓pRng1K, ↓piRng2, ↓pRng2K, ↓piEnum, ↓pEnumK, ↓piZip, ↓pZipL, ↓pZipT, ↓pFz, ↓pLenSet, ↓pIsT, ↓rIx_lst, ↓rIx_tup, ↓rIx_ref, ↓rIx_str, ↓rLen_str, ↓rLen_lst, ↓rLen_tup, ↓rLen_ref, ↓rIs_p, ↓rInt_int, ↓rInt_bl, ↓rStr_int, ↓rList_p, ↓rListO_p, ↓rTup_p, ↓rAdd_int, ↓rAdd_str, ↓rAdd_tup, ↓rAdd_lst, ↓rIntD_p, ↓rInt0_p, ↓rEq_int, ↓rEq_str, ↓rEq_bl, ↓rEq_lst, ↓rEq_tup, ↓rIsN_non, ↓rIsN_bl, ↓rIsN_int, ↓rIsN_str, ↓rIsN_tup, ↓rIsN_lst, ↓rNeg_p, ↓rSl_str, ↓rSl_tup, ↓rSl_lst, ↓rSl_scr, ↓rRep_p, ↓pOptK, ↓pChain, ↓pIfT, ↓pCallK, ↓pDzip, ↓pDzipK, ↓pDzipO, ↓pDzipKO, ↓rIsB_bl, ↓rDix_str, ↓rDix_int, ↓rIn_tup, ↓rIn_lst, ↓rEq_ns, ↓rEq_sn, ↓rRepT_p, ↓rAll_f, ↓rAll_t, ↓wSeq_p, ↓seqE_nx, ↓reduceIte, at_0, at_1, at_2, at_3, cut_1, cut_2, dl_0_0, dl_0_1, dl_0_2, dl_0_3, dl_0_4, dl_0_5, dl_1_0, dl_1_1, dl_1_2, dl_1_3, dl_1_4, dl_1_5, dl_2_0, dl_2_1, dl_2_2, dl_2_3, dl_2_4, dl_2_5, dl_3_0, dl_3_1, dl_3_2, dl_3_3, dl_3_4, dl_3_5, dl_4_0, dl_4_1, dl_4_2, dl_4_3, dl_4_4, dl_4_5, dn_1_0, dn_2_0, dn_2_1, dn_3_0, dn_3_1, dn_3_2, dn_4_0, dn_4_1, dn_4_2, dn_4_3, seqE_rt, seqE_bk, seqE_ct, seqE_ex, wipeD, frz_lst, frz_tup, at1_0, at2_0, at2_1, at3_0, at3_1, at3_2, at4_0, at4_1, at4_2, at4_3, at5_0, at5_1, at5_2, at5_3, at5_4, seqOf_put, seqOf_lst, seqOf_tup, insK_same, tyN_non, tyN_bl, tyN_int, tyN_str, tyN_tup, tyN_lst, tyN_dct, List.getElem?_cons_zero, List.getElem?_cons_succ, List.set_cons_zero, List.set_cons_succ, List.length_cons, List.length_nil, isB_NoneType_bool, isB_NoneType_int, isB_NoneType_str, isB_NoneType_tuple, isB_NoneType_list, isB_NoneType_dict, isB_bool_bool, isB_bool_int, isB_bool_str, isB_bool_tuple, isB_bool_list, isB_bool_dict, isB_int_bool, isB_int_int, isB_int_str, isB_int_tuple, isB_int_list, isB_int_dict, isB_str_bool, isB_str_int, isB_str_str, isB_str_tuple, isB_str_list, isB_str_dict, isB_tuple_bool, isB_tuple_int, isB_tuple_str, isB_tuple_tuple, isB_tuple_list, isB_tuple_dict, isB_list_bool, isB_list_int, isB_list_str, isB_list_tuple, isB_list_list, isB_list_dict, isB_dict_bool, isB_dict_int, isB_dict_str, isB_dict_tuple, isB_dict_list, isB_dict_dict, isC_bool, isC_int, isC_str, isC_tuple, isC_list, isC_dict, isA_list_tuple, isQ_NoneType, isQ_bool, isQ_int, isQ_str, isQ_tuple, isQ_list, isQ_dict, true_and, and_true, Bool.not_true, Bool.not_false, Bool.false_eq_true, Bool.true_xor, Bool.false_xor, keysD_strs]
  refine ⟨keys_nd (cols_nd hf ho), ?_, ?_, fin_of q⟩
  · simp only [List.length_map, cols, List.length_cons, List.length_append, List.length_nil, hl]; omega
  · simp only [List.length_map, cols, List.length_cons]; omega
theorem ok_Shape_sheet {P : Program} {w : World} {K : PySem.W.Frag} {mg : Str → Option Value} {base : Heap} {A : Ad} (T : Txt K mg A) : FnJ P w K mg base 5 A.f_Shape_sheet (sp_Shape_sheet A) :=
  FnJ.mkAt T.d_Shape_sheet sc_Shape_sheet (fun cdv R outer s H E hr tk => bd_Shape_sheet T cdv R outer s H E hr tk) (rd_Shape_sheet A)

end DL.K09
namespace DL.K09
open PySem PySem.Spec PyProof.Rows L2 RZ
/-! ### the bag -/
def bagO (cs : List Int) (i c s n : Int) : MO := .lst [.lst (cs.map D.int), .int i, .int c, .int s, .int n]
structure Bg0 (cs : List Int) (i c s n : Int) : Prop where
  i0 : 0 ≤ i
  c0 : 0 ≤ c
  s0 : 0 ≤ s
  s1 : s < 2147483587
def Bg (o : MO) : Prop := ∃ cs i c s n, o = bagO cs i c s n ∧ Bg0 cs i c s n
def sp__law_opened (A : Ad) : SpD := fun ds M Q _ => ∃ ns, ds = [.scr ns] ∧ ∀ b o, M b = none → Bg o → Q (.ref b) (mput M b o)
def wb__law_opened (A : Ad) : WS :=
  (wRet (wLstO (wCons (wCB rListD (wCons (wSl (wVar 0) wNo (wSome (wC (.int 63)))) wNil)) (wCons (wC (.int 0)) (wCons (wC (.int 0)) (wCons (wC (.int 5631)) (wCons (wC (.int 0)) wNil)))))))
theorem bd__law_opened {P : Program} {w : World} {K : PySem.W.Frag} {mg : Str → Option Value} {base : Heap} {A : Ad} (T : Txt K mg A) (cdv : Value) (R : Around) (outer : List Env) (s : Shared) (H : Hp) (E : XK) (hr : Room 0 (R.deeper (envOfC "_law_opened" (defScope s__law_opened) s.heap.objs.size A.f__law_opened cdv)))
    (tk : Takes (cxOf (L2.CX P w) P w K mg base N__law_opened "_law_opened" (defScope s__law_opened) A.f__law_opened cdv R outer s H E) (WD E)) : JSs (cxOf (L2.CX P w) P w K mg base N__law_opened "_law_opened" (defScope s__law_opened) A.f__law_opened cdv R outer s H E) (WD E) (defBody s__law_opened) (wb__law_opened A) :=
  (js_one (js_ret (j_lstO (j_cons (j_callTy cd_list T.n_list bo_list (j_cons (j_sl (jv 0) jo_none (jo_some j_int)) j_nil)) (j_cons j_int (j_cons j_int (j_cons j_int (j_cons j_int j_nil))))))))
theorem rd__law_opened (A : Ad) : ∀ ds M Q Xc, sp__law_opened A ds M Q Xc → ds.length = P__law_opened.length ∧ RD (wb__law_opened A) Q Xc (startD N__law_opened ds) M := by
  rintro _ M Q Xc ⟨ns, rfl, q⟩
  refine ⟨rfl, ?_⟩
  rw [st__law_opened]
  have := sizeLine_big
  simp only [RD, wb__law_opened, wipeD, wNx, wSeq_p, seqE_nx, seqE_rt, seqE_bk, seqE_ct, seqE_ex, wIf, wRet, wRetN, wDrop, wAsg, wBrk, wCnt, wVar, wGet, wC, wOp, wUn, wCB, wNil, wCons, wTest, wAndT, wOrT, wNotT, wAndV, wOrV, wNotV, wIfE, wChain, wTup, wLst, wLstO, wCall, wMeth, wFld, wFst, wCv, wProp, wMake, wSl, wNo, wSome, intK, isBl, gN, gT, gCons', gNil', wSub, wAug, wPar, wBM, wIsT, wFor, wLc, wLcO, wYes, wiSeq, wiStr, wiRng1, wiRng2, wiZip, wFz, frz_lst, frz_tup, at1_0, at2_0, at2_1, at3_0, at3_1, at3_2, at4_0, at4_1, at4_2, at4_3, at5_0, at5_1, at5_2, at5_3, at5_4, seqOf_put, ED.xc, rIxD, rLenD, rIsD, rIntCD, rStrCD, rListD, rListO, rTupD, rAddD, rIntD, rInt0D, rEqD, rIsND, rNegD, rSlD, seqOf_lst, seqOf_tup, optK_some, insK_same, tyN_non, tyN_bl, tyN_int, tyN_str, tyN_tup, tyN_lst, tyN_dct, List.getElem?_cons_zero, List.getElem?_cons_succ, List.set_cons_zero, List.set_cons_succ, List.length_cons, List.length_nil, isB_NoneType_bool, isB_NoneType_int, isB_NoneType_str, isB_NoneType_tuple, isB_NoneType_list, isB_NoneType_dict, isB_bool_bool, isB_bool_int, isB_bool_str, isB_bool_tuple, isB_bool_list, isB_bool_dict, isB_int_bool, isB_int_int, isB_int_str, isB_int_tuple, isB_int_list, isB_int_dict, isB_str_bool, isB_str_int, isB_str_str, isB_str_tuple, isB_str_list, isB_str_dict, isB_tuple_bool, isB_tuple_int, isB_tuple_str, isB_tuple_tuple, isB_tuple_list, isB_tuple_dict, isB_list_bool, isB_list_int, isB_list_str, isB_list_tuple, isB_list_list, isB_list_dict, isB_dict_bool, isB_dict_int, isB_dict_str, isB_dict_tuple, isB_dict_list, isB_dict_dict, isC_bool, isC_int, isC_str, isC_tuple, isC_list, isC_dict, isA_list_tuple, isQ_NoneType, isQ_bool, isQ_int, isQ_str, isQ_tuple, isQ_list, isQ_dict, true_and, and_true, ↓reduceIte, Bool.not_true, Bool.not_false, Bool.false_eq_true, Bool.true_xor, Bool.false_xor]
  exact ⟨by omega, fun b hb => fin_of (q b (bagO _ 0 0 5631 0) hb ⟨_, _, _, _, _, rfl, by decide, by decide, by decide, by decide⟩)⟩
theorem ok__law_opened {P : Program} {w : World} {K : PySem.W.Frag} {mg : Str → Option Value} {base : Heap} {A : Ad} (T : Txt K mg A) : FnJ P w K mg base 1 A.f__law_opened (sp__law_opened A) :=
  FnJ.mkAt T.d__law_opened sc__law_opened (fun cdv R outer s H E hr tk => bd__law_opened T cdv R outer s H E hr tk) (rd__law_opened A)
def sp__law_pull (A : Ad) : SpD := fun ds M Q _ => ∃ b many o, ds = [.ref b, .int many] ∧ M b = some o ∧ Bg o ∧ 0 < many ∧ many < 1000000 ∧ ∀ v o', 0 ≤ v → v < many → Bg o' → Q (.int v) (mput M b o')
def wb__law_pull_c1 (A : Ad) : WS :=
  (wSeq (wSub (wOp rAddD (wOp rIxD (wVar 0) (wC (.int 4))) (wC (.int 1))) (wVar 0) (wC (.int 4)) rSetD)
  (wSeq (wAsg (wOp rIxD (wVar 0) (wC (.int 3))) (gN 4))
  (wSeq (wSub (wOp (rIntD (fun _ j => 0 < j) fun i j => .int (i % j)) (wCB rIntCD (wCons (wOp rAddD (wOp rAddD (wOp rAddD (wOp (rIntD CMul fun i j => .int (i * j)) (wVar 4) (wVar 4)) (wOp (rIntD CMul fun i j => .int (i * j)) (wVar 4) (wC (.int 27011)))) (wOp (rIntD CMul fun i j => .int (i * j)) (wOp rIxD (wVar 0) (wC (.int 4))) (wC (.int 1300021)))) (wC (.int 99929))) wNil)) (wC (.int 2147483587))) (wVar 0) (wC (.int 3)) rSetD)
  (wRet (wOp (rIntD (fun _ j => 0 < j) fun i j => .int (i % j)) (wCB rIntCD (wCons (wOp rAddD (wOp (rIntD CDiv fun i j => .int (i / j)) (wOp rIxD (wVar 0) (wC (.int 3))) (wC (.int 71))) (wOp (rIntD CMul fun i j => .int (i * j)) (wOp (rIntD (fun _ j => 0 < j) fun i j => .int (i % j)) (wCB rIntCD (wCons (wOp rIxD (wVar 0) (wC (.int 3))) wNil)) (wC (.int 7919))) (wC (.int 59)))) wNil)) (wVar 1))))))
def wb__law_pull_c0 (A : Ad) : WS :=
  (wSeq (wIf (wTest (wOp (rInt0D fun i j => .bl (decide (j < i))) (wOp rIxD (wVar 0) (wC (.int 2))) (wC (.int 0))))
  (wSeq (wAsg (wOp (rIntD (fun _ j => 0 < j) fun i j => .int (i % j)) (wCB rIntCD (wCons (wOp rIxD (wVar 0) (wC (.int 2))) wNil)) (wVar 1)) (gN 3))
  (wSeq (wSub (wOp (rIntD CDiv fun i j => .int (i / j)) (wOp rIxD (wVar 0) (wC (.int 2))) (wVar 1)) (wVar 0) (wC (.int 2)) rSetD)
  (wRet (wVar 3))))
  wNx)
  (wb__law_pull_c1 A))
def wb__law_pull (A : Ad) : WS :=
  (wSeq (wIf (wAndT (wTest (wOp (rEqD false) (wOp rIxD (wVar 0) (wC (.int 2))) (wC (.int 0)))) (wTest (wOp (rInt0D fun i j => .bl (decide (i < j))) (wOp rIxD (wVar 0) (wC (.int 1))) (wCB rLenD (wCons (wOp rIxD (wVar 0) (wC (.int 0))) wNil)))))
  (wSeq (wAsg (wOp rIxD (wOp rIxD (wVar 0) (wC (.int 0))) (wOp rIxD (wVar 0) (wC (.int 1)))) (gN 2))
  (wSeq (wSub (wOp rAddD (wOp rIxD (wVar 0) (wC (.int 1))) (wC (.int 1))) (wVar 0) (wC (.int 1)) rSetD)
  (wIf (wTest (wOp (rInt0D fun i j => .bl (decide (j ≤ i))) (wVar 2) (wOp (rIntD CPow fun i j => .int (i ^ j.toNat)) (wC (.int 10)) (wC (.int 18)))))
  (wSub (wVar 2) (wVar 0) (wC (.int 2)) rSetD)
  (wSub (wOp (rIntD (fun _ j => 0 < j) fun i j => .int (i % j)) (wCB rIntCD (wCons (wOp rAddD (wOp rAddD (wOp (rIntD CMul fun i j => .int (i * j)) (wOp rIxD (wVar 0) (wC (.int 3))) (wC (.int 44017))) (wOp (rIntD CMul fun i j => .int (i * j)) (wOp (rIntD (fun _ j => 0 < j) fun i j => .int (i % j)) (wCB rIntCD (wCons (wVar 2) wNil)) (wC (.int 2147483549))) (wC (.int 61129)))) (wC (.int 41))) wNil)) (wC (.int 2147483587))) (wVar 0) (wC (.int 3)) rSetD))))
  wNx)
  (wb__law_pull_c0 A))
theorem bd__law_pull {P : Program} {w : World} {K : PySem.W.Frag} {mg : Str → Option Value} {base : Heap} {A : Ad} (T : Txt K mg A) (cdv : Value) (R : Around) (outer : List Env) (s : Shared) (H : Hp) (E : XK) (hr : Room 0 (R.deeper (envOfC "_law_pull" (defScope s__law_pull) s.heap.objs.size A.f__law_pull cdv)))
    (tk : Takes (cxOf (L2.CX P w) P w K mg base N__law_pull "_law_pull" (defScope s__law_pull) A.f__law_pull cdv R outer s H E) (WD E)) : JSs (cxOf (L2.CX P w) P w K mg base N__law_pull "_law_pull" (defScope s__law_pull) A.f__law_pull cdv R outer s H E) (WD E) (defBody s__law_pull) (wb__law_pull A) :=
  (js_cons (js_if (jt_bool (jt_and (jt_cmp (od_eq hr.units) (j_ix id_ix (jv 0) j_int) j_int) (jt_and1 (jt_cmp od_lt (j_ix id_ix (jv 0) j_int) (j_callB cd_len T.n_len bo_len (j_cons (j_ix id_ix (jv 0) j_int) j_nil))))))
  (js_cons (js_set (i := 2) sc__law_pull.nd (j_ix id_ix (j_ix id_ix (jv 0) j_int) (j_ix id_ix (jv 0) j_int)))
  (js_cons (js_sub (j_op od_add (j_ix id_ix (jv 0) j_int) j_int) (jv 0) j_int)
  (js_one (js_if (jt_cmp od_ge (jv 2) (j_op od_pow j_int j_int))
  (js_one (js_sub (jv 2) (jv 0) j_int))
  (js_one (js_sub (j_op od_mod (j_callTy cd_int T.n_int bo_int (j_cons (j_op od_add (j_op od_add (j_op od_mul (j_ix id_ix (jv 0) j_int) j_int) (j_op od_mul (j_op od_mod (j_callTy cd_int T.n_int bo_int (j_cons (jv 2) j_nil)) j_int) j_int)) j_int) j_nil)) j_int) (jv 0) j_int))))))
  js_nil)
  (js_cons (js_if (jt_cmp od_gt (j_ix id_ix (jv 0) j_int) j_int)
  (js_cons (js_set (i := 3) sc__law_pull.nd (j_op od_mod (j_callTy cd_int T.n_int bo_int (j_cons (j_ix id_ix (jv 0) j_int) j_nil)) (jv 1)))
  (js_cons (js_sub (j_op od_fdiv (j_ix id_ix (jv 0) j_int) (jv 1)) (jv 0) j_int)
  (js_one (js_ret (jv 3)))))
  js_nil)
  (js_cons (js_sub (j_op od_add (j_ix id_ix (jv 0) j_int) j_int) (jv 0) j_int)
  (js_cons (js_set (i := 4) sc__law_pull.nd (j_ix id_ix (jv 0) j_int))
  (js_cons (js_sub (j_op od_mod (j_callTy cd_int T.n_int bo_int (j_cons (j_op od_add (j_op od_add (j_op od_add (j_op od_mul (jv 4) (jv 4)) (j_op od_mul (jv 4) j_int)) (j_op od_mul (j_ix id_ix (jv 0) j_int) j_int)) j_int) j_nil)) j_int) (jv 0) j_int)
  (js_one (js_ret (j_op od_mod (j_callTy cd_int T.n_int bo_int (j_cons (j_op od_add (j_op od_fdiv (j_ix id_ix (jv 0) j_int) j_int) (j_op od_mul (j_op od_mod (j_callTy cd_int T.n_int bo_int (j_cons (j_ix id_ix (jv 0) j_int) j_nil)) j_int) j_int)) j_nil)) (jv 1)))))))))
theorem pull_c1 (A : Ad) {b : Addr} {many : Int} {M N : Mem} {Q : KN} {Xc : KX} {cs : List Int} {i c s n : Int} {x y : Option D} (hb : N b = some (bagO cs i c s n)) (g : Bg0 cs i c s n) (hm : 0 < many ∧ many < 1000000)
    (q : ∀ v o', 0 ≤ v → v < many → Bg o' → Q (.int v) (mput N b o')) : RD (wb__law_pull_c1 A) Q Xc [some (.ref b), some (.int many), x, y, none] N := by
  have e := seqOf_own hb
  have := g.s0
  have := g.s1
  simp only [RD, wb__law_pull_c1, wipeD, wNx, wSeq_p, seqE_nx, seqE_rt, seqE_bk, seqE_ct, seqE_ex, wIf, wRet, wRetN, wDrop, wAsg, wBrk, wCnt, wVar, wGet, wC, wOp, wUn, wCB, wNil, wCons, wTest, wAndT, wOrT, wNotT, wAndV, wOrV, wNotV, wIfE, wChain, wTup, wLst, wLstO, wCall, wMeth, wFld, wFst, wCv, wProp, wMake, wSl, wNo, wSome, intK, isBl, gN, gT, gCons', gNil', wSub, wAug, wPar, wBM, wIsT, wFor, wLc, wLcO, wYes, wiSeq, wiStr, wiRng1, wiRng2, wiZip, wFz, frz_lst, frz_tup, at1_0, at2_0, at2_1, at3_0, at3_1, at3_2, at4_0, at4_1, at4_2, at4_3, at5_0, at5_1, at5_2, at5_3, at5_4, seqOf_put, ED.xc, rIxD, rLenD, rIsD, rIntCD, rStrCD, rListD, rListO, rTupD, rAddD, rIntD, rInt0D, rEqD, rIsND, rNegD, rSlD, seqOf_lst, seqOf_tup, optK_some, insK_same, tyN_non, tyN_bl, tyN_int, tyN_str, tyN_tup, tyN_lst, tyN_dct, List.getElem?_cons_zero, List.getElem?_cons_succ, List.set_cons_zero, List.set_cons_succ, List.length_cons, List.length_nil, isB_NoneType_bool, isB_NoneType_int, isB_NoneType_str, isB_NoneType_tuple, isB_NoneType_list, isB_NoneType_dict, isB_bool_bool, isB_bool_int, isB_bool_str, isB_bool_tuple, isB_bool_list, isB_bool_dict, isB_int_bool, isB_int_int, isB_int_str, isB_int_tuple, isB_int_list, isB_int_dict, isB_str_bool, isB_str_int, isB_str_str, isB_str_tuple, isB_str_list, isB_str_dict, isB_tuple_bool, isB_tuple_int, isB_tuple_str, isB_tuple_tuple, isB_tuple_list, isB_tuple_dict, isB_list_bool, isB_list_int, isB_list_str, isB_list_tuple, isB_list_list, isB_list_dict, isB_dict_bool, isB_dict_int, isB_dict_str, isB_dict_tuple, isB_dict_list, isB_dict_dict, isC_bool, isC_int, isC_str, isC_tuple, isC_list, isC_dict, isA_list_tuple, isQ_NoneType, isQ_bool, isQ_int, isQ_str, isQ_tuple, isQ_list, isQ_dict, true_and, and_true, ↓reduceIte, Bool.not_true, Bool.not_false, Bool.false_eq_true, Bool.true_xor, Bool.false_xor, e]
  refine set5_4 hb ?_
  simp only [wipeD, wNx, wSeq_p, seqE_nx, seqE_rt, seqE_bk, seqE_ct, seqE_ex, wIf, wRet, wRetN, wDrop, wAsg, wBrk, wCnt, wVar, wGet, wC, wOp, wUn, wCB, wNil, wCons, wTest, wAndT, wOrT, wNotT, wAndV, wOrV, wNotV, wIfE, wChain, wTup, wLst, wLstO, wCall, wMeth, wFld, wFst, wCv, wProp, wMake, wSl, wNo, wSome, intK, isBl, gN, gT, gCons', gNil', wSub, wAug, wPar, wBM, wIsT, wFor, wLc, wLcO, wYes, wiSeq, wiStr, wiRng1, wiRng2, wiZip, wFz, frz_lst, frz_tup, at1_0, at2_0, at2_1, at3_0, at3_1, at3_2, at4_0, at4_1, at4_2, at4_3, at5_0, at5_1, at5_2, at5_3, at5_4, seqOf_put, ED.xc, rIxD, rLenD, rIsD, rIntCD, rStrCD, rListD, rListO, rTupD, rAddD, rIntD, rInt0D, rEqD, rIsND, rNegD, rSlD, seqOf_lst, seqOf_tup, optK_some, insK_same, tyN_non, tyN_bl, tyN_int, tyN_str, tyN_tup, tyN_lst, tyN_dct, List.getElem?_cons_zero, List.getElem?_cons_succ, List.set_cons_zero, List.set_cons_succ, List.length_cons, List.length_nil, isB_NoneType_bool, isB_NoneType_int, isB_NoneType_str, isB_NoneType_tuple, isB_NoneType_list, isB_NoneType_dict, isB_bool_bool, isB_bool_int, isB_bool_str, isB_bool_tuple, isB_bool_list, isB_bool_dict, isB_int_bool, isB_int_int, isB_int_str, isB_int_tuple, isB_int_list, isB_int_dict, isB_str_bool, isB_str_int, isB_str_str, isB_str_tuple, isB_str_list, isB_str_dict, isB_tuple_bool, isB_tuple_int, isB_tuple_str, isB_tuple_tuple, isB_tuple_list, isB_tuple_dict, isB_list_bool, isB_list_int, isB_list_str, isB_list_tuple, isB_list_list, isB_list_dict, isB_dict_bool, isB_dict_int, isB_dict_str, isB_dict_tuple, isB_dict_list, isB_dict_dict, isC_bool, isC_int, isC_str, isC_tuple, isC_list, isC_dict, isA_list_tuple, isQ_NoneType, isQ_bool, isQ_int, isQ_str, isQ_tuple, isQ_list, isQ_dict, true_and, and_true, ↓reduceIte, Bool.not_true, Bool.not_false, Bool.false_eq_true, Bool.true_xor, Bool.false_xor, CMul]
  refine ⟨.inl (by omega), .inl (by omega), .inr (by omega), by omega, ?_⟩
  refine set5_3 mput_same ?_
  rw [mput_mput]
  simp only [wipeD, wNx, wSeq_p, seqE_nx, seqE_rt, seqE_bk, seqE_ct, seqE_ex, wIf, wRet, wRetN, wDrop, wAsg, wBrk, wCnt, wVar, wGet, wC, wOp, wUn, wCB, wNil, wCons, wTest, wAndT, wOrT, wNotT, wAndV, wOrV, wNotV, wIfE, wChain, wTup, wLst, wLstO, wCall, wMeth, wFld, wFst, wCv, wProp, wMake, wSl, wNo, wSome, intK, isBl, gN, gT, gCons', gNil', wSub, wAug, wPar, wBM, wIsT, wFor, wLc, wLcO, wYes, wiSeq, wiStr, wiRng1, wiRng2, wiZip, wFz, frz_lst, frz_tup, at1_0, at2_0, at2_1, at3_0, at3_1, at3_2, at4_0, at4_1, at4_2, at4_3, at5_0, at5_1, at5_2, at5_3, at5_4, seqOf_put, ED.xc, rIxD, rLenD, rIsD, rIntCD, rStrCD, rListD, rListO, rTupD, rAddD, rIntD, rInt0D, rEqD, rIsND, rNegD, rSlD, seqOf_lst, seqOf_tup, optK_some, insK_same, tyN_non, tyN_bl, tyN_int, tyN_str, tyN_tup, tyN_lst, tyN_dct, List.getElem?_cons_zero, List.getElem?_cons_succ, List.set_cons_zero, List.set_cons_succ, List.length_cons, List.length_nil, isB_NoneType_bool, isB_NoneType_int, isB_NoneType_str, isB_NoneType_tuple, isB_NoneType_list, isB_NoneType_dict, isB_bool_bool, isB_bool_int, isB_bool_str, isB_bool_tuple, isB_bool_list, isB_bool_dict, isB_int_bool, isB_int_int, isB_int_str, isB_int_tuple, isB_int_list, isB_int_dict, isB_str_bool, isB_str_int, isB_str_str, isB_str_tuple, isB_str_list, isB_str_dict, isB_tuple_bool, isB_tuple_int, isB_tuple_str, isB_tuple_tuple, isB_tuple_list, isB_tuple_dict, isB_list_bool, isB_list_int, isB_list_str, isB_list_tuple, isB_list_list, isB_list_dict, isB_dict_bool, isB_dict_int, isB_dict_str, isB_dict_tuple, isB_dict_list, isB_dict_dict, isC_bool, isC_int, isC_str, isC_tuple, isC_list, isC_dict, isA_list_tuple, isQ_NoneType, isQ_bool, isQ_int, isQ_str, isQ_tuple, isQ_list, isQ_dict, true_and, and_true, ↓reduceIte, Bool.not_true, Bool.not_false, Bool.false_eq_true, Bool.true_xor, Bool.false_xor, CDiv, CMul]
  generalize hz : (s * s + s * 27011 + (n + 1) * 1300021 + 99929) % 2147483587 = z
  have z0 : 0 ≤ z := by rw [← hz]; exact Int.emod_nonneg _ (by decide)
  have z1 : z < 2147483587 := by rw [← hz]; exact Int.emod_lt_of_pos _ (by decide)
  refine ⟨⟨by decide, by decide⟩, by decide, .inr (by omega), hm.1, fin_of ?_⟩
  exact q _ _ (Int.emod_nonneg _ (by omega)) (Int.emod_lt_of_pos _ hm.1) ⟨cs, i, c, z, n + 1, rfl, g.i0, g.c0, z0, z1⟩
theorem pull_c0 (A : Ad) {b : Addr} {many : Int} {M N : Mem} {Q : KN} {Xc : KX} {cs : List Int} {i c s n : Int} {x : Option D} (hb : N b = some (bagO cs i c s n)) (g : Bg0 cs i c s n) (hm : 0 < many ∧ many < 1000000)
    (q : ∀ v o', 0 ≤ v → v < many → Bg o' → Q (.int v) (mput N b o')) : RD (wb__law_pull_c0 A) Q Xc [some (.ref b), some (.int many), x, none, none] N := by
  have e := seqOf_own hb
  simp only [RD, wb__law_pull_c0, wipeD, wNx, wSeq_p, seqE_nx, seqE_rt, seqE_bk, seqE_ct, seqE_ex, wIf, wRet, wRetN, wDrop, wAsg, wBrk, wCnt, wVar, wGet, wC, wOp, wUn, wCB, wNil, wCons, wTest, wAndT, wOrT, wNotT, wAndV, wOrV, wNotV, wIfE, wChain, wTup, wLst, wLstO, wCall, wMeth, wFld, wFst, wCv, wProp, wMake, wSl, wNo, wSome, intK, isBl, gN, gT, gCons', gNil', wSub, wAug, wPar, wBM, wIsT, wFor, wLc, wLcO, wYes, wiSeq, wiStr, wiRng1, wiRng2, wiZip, wFz, frz_lst, frz_tup, at1_0, at2_0, at2_1, at3_0, at3_1, at3_2, at4_0, at4_1, at4_2, at4_3, at5_0, at5_1, at5_2, at5_3, at5_4, seqOf_put, ED.xc, rIxD, rLenD, rIsD, rIntCD, rStrCD, rListD, rListO, rTupD, rAddD, rIntD, rInt0D, rEqD, rIsND, rNegD, rSlD, seqOf_lst, seqOf_tup, optK_some, insK_same, tyN_non, tyN_bl, tyN_int, tyN_str, tyN_tup, tyN_lst, tyN_dct, List.getElem?_cons_zero, List.getElem?_cons_succ, List.set_cons_zero, List.set_cons_succ, List.length_cons, List.length_nil, isB_NoneType_bool, isB_NoneType_int, isB_NoneType_str, isB_NoneType_tuple, isB_NoneType_list, isB_NoneType_dict, isB_bool_bool, isB_bool_int, isB_bool_str, isB_bool_tuple, isB_bool_list, isB_bool_dict, isB_int_bool, isB_int_int, isB_int_str, isB_int_tuple, isB_int_list, isB_int_dict, isB_str_bool, isB_str_int, isB_str_str, isB_str_tuple, isB_str_list, isB_str_dict, isB_tuple_bool, isB_tuple_int, isB_tuple_str, isB_tuple_tuple, isB_tuple_list, isB_tuple_dict, isB_list_bool, isB_list_int, isB_list_str, isB_list_tuple, isB_list_list, isB_list_dict, isB_dict_bool, isB_dict_int, isB_dict_str, isB_dict_tuple, isB_dict_list, isB_dict_dict, isC_bool, isC_int, isC_str, isC_tuple, isC_list, isC_dict, isA_list_tuple, isQ_NoneType, isQ_bool, isQ_int, isQ_str, isQ_tuple, isQ_list, isQ_dict, true_and, and_true, ↓reduceIte, Bool.not_true, Bool.not_false, Bool.false_eq_true, Bool.true_xor, Bool.false_xor, e]
  by_cases h : 0 < c
  · simp only [h, decide_true, wipeD, wNx, wSeq_p, seqE_nx, seqE_rt, seqE_bk, seqE_ct, seqE_ex, wIf, wRet, wRetN, wDrop, wAsg, wBrk, wCnt, wVar, wGet, wC, wOp, wUn, wCB, wNil, wCons, wTest, wAndT, wOrT, wNotT, wAndV, wOrV, wNotV, wIfE, wChain, wTup, wLst, wLstO, wCall, wMeth, wFld, wFst, wCv, wProp, wMake, wSl, wNo, wSome, intK, isBl, gN, gT, gCons', gNil', wSub, wAug, wPar, wBM, wIsT, wFor, wLc, wLcO, wYes, wiSeq, wiStr, wiRng1, wiRng2, wiZip, wFz, frz_lst, frz_tup, at1_0, at2_0, at2_1, at3_0, at3_1, at3_2, at4_0, at4_1, at4_2, at4_3, at5_0, at5_1, at5_2, at5_3, at5_4, seqOf_put, ED.xc, rIxD, rLenD, rIsD, rIntCD, rStrCD, rListD, rListO, rTupD, rAddD, rIntD, rInt0D, rEqD, rIsND, rNegD, rSlD, seqOf_lst, seqOf_tup, optK_some, insK_same, tyN_non, tyN_bl, tyN_int, tyN_str, tyN_tup, tyN_lst, tyN_dct, List.getElem?_cons_zero, List.getElem?_cons_succ, List.set_cons_zero, List.set_cons_succ, List.length_cons, List.length_nil, isB_NoneType_bool, isB_NoneType_int, isB_NoneType_str, isB_NoneType_tuple, isB_NoneType_list, isB_NoneType_dict, isB_bool_bool, isB_bool_int, isB_bool_str, isB_bool_tuple, isB_bool_list, isB_bool_dict, isB_int_bool, isB_int_int, isB_int_str, isB_int_tuple, isB_int_list, isB_int_dict, isB_str_bool, isB_str_int, isB_str_str, isB_str_tuple, isB_str_list, isB_str_dict, isB_tuple_bool, isB_tuple_int, isB_tuple_str, isB_tuple_tuple, isB_tuple_list, isB_tuple_dict, isB_list_bool, isB_list_int, isB_list_str, isB_list_tuple, isB_list_list, isB_list_dict, isB_dict_bool, isB_dict_int, isB_dict_str, isB_dict_tuple, isB_dict_list, isB_dict_dict, isC_bool, isC_int, isC_str, isC_tuple, isC_list, isC_dict, isA_list_tuple, isQ_NoneType, isQ_bool, isQ_int, isQ_str, isQ_tuple, isQ_list, isQ_dict, true_and, and_true, ↓reduceIte, Bool.not_true, Bool.not_false, Bool.false_eq_true, Bool.true_xor, Bool.false_xor, e, CDiv]
    refine ⟨hm.1, ⟨hm.1, by omega⟩, set5_2 hb (fin_of ?_)⟩
    exact q _ _ (Int.emod_nonneg _ (by omega)) (Int.emod_lt_of_pos _ hm.1) ⟨cs, i, _, s, n, rfl, g.i0, Int.ediv_nonneg g.c0 (by omega), g.s0, g.s1⟩
  · simp only [h, decide_false, wipeD, wNx, wSeq_p, seqE_nx, seqE_rt, seqE_bk, seqE_ct, seqE_ex, wIf, wRet, wRetN, wDrop, wAsg, wBrk, wCnt, wVar, wGet, wC, wOp, wUn, wCB, wNil, wCons, wTest, wAndT, wOrT, wNotT, wAndV, wOrV, wNotV, wIfE, wChain, wTup, wLst, wLstO, wCall, wMeth, wFld, wFst, wCv, wProp, wMake, wSl, wNo, wSome, intK, isBl, gN, gT, gCons', gNil', wSub, wAug, wPar, wBM, wIsT, wFor, wLc, wLcO, wYes, wiSeq, wiStr, wiRng1, wiRng2, wiZip, wFz, frz_lst, frz_tup, at1_0, at2_0, at2_1, at3_0, at3_1, at3_2, at4_0, at4_1, at4_2, at4_3, at5_0, at5_1, at5_2, at5_3, at5_4, seqOf_put, ED.xc, rIxD, rLenD, rIsD, rIntCD, rStrCD, rListD, rListO, rTupD, rAddD, rIntD, rInt0D, rEqD, rIsND, rNegD, rSlD, seqOf_lst, seqOf_tup, optK_some, insK_same, tyN_non, tyN_bl, tyN_int, tyN_str, tyN_tup, tyN_lst, tyN_dct, List.getElem?_cons_zero, List.getElem?_cons_succ, List.set_cons_zero, List.set_cons_succ, List.length_cons, List.length_nil, isB_NoneType_bool, isB_NoneType_int, isB_NoneType_str, isB_NoneType_tuple, isB_NoneType_list, isB_NoneType_dict, isB_bool_bool, isB_bool_int, isB_bool_str, isB_bool_tuple, isB_bool_list, isB_bool_dict, isB_int_bool, isB_int_int, isB_int_str, isB_int_tuple, isB_int_list, isB_int_dict, isB_str_bool, isB_str_int, isB_str_str, isB_str_tuple, isB_str_list, isB_str_dict, isB_tuple_bool, isB_tuple_int, isB_tuple_str, isB_tuple_tuple, isB_tuple_list, isB_tuple_dict, isB_list_bool, isB_list_int, isB_list_str, isB_list_tuple, isB_list_list, isB_list_dict, isB_dict_bool, isB_dict_int, isB_dict_str, isB_dict_tuple, isB_dict_list, isB_dict_dict, isC_bool, isC_int, isC_str, isC_tuple, isC_list, isC_dict, isA_list_tuple, isQ_NoneType, isQ_bool, isQ_int, isQ_str, isQ_tuple, isQ_list, isQ_dict, true_and, and_true, ↓reduceIte, Bool.not_true, Bool.not_false, Bool.false_eq_true, Bool.true_xor, Bool.false_xor, e]
    exact pull_c1 A (M := M) hb g hm q
theorem rd__law_pull (A : Ad) : ∀ ds M Q Xc, sp__law_pull A ds M Q Xc → ds.length = P__law_pull.length ∧ RD (wb__law_pull A) Q Xc (startD N__law_pull ds) M := by
  rintro _ M Q Xc ⟨b, many, _, rfl, hb, ⟨cs, i, c, s, n, rfl, g⟩, h1, h2, q⟩
  refine ⟨rfl, ?_⟩
  rw [st__law_pull]
  have e := seqOf_own hb
  simp only [RD, wb__law_pull, wipeD, wNx, wSeq_p, seqE_nx, seqE_rt, seqE_bk, seqE_ct, seqE_ex, wIf, wRet, wRetN, wDrop, wAsg, wBrk, wCnt, wVar, wGet, wC, wOp, wUn, wCB, wNil, wCons, wTest, wAndT, wOrT, wNotT, wAndV, wOrV, wNotV, wIfE, wChain, wTup, wLst, wLstO, wCall, wMeth, wFld, wFst, wCv, wProp, wMake, wSl, wNo, wSome, intK, isBl, gN, gT, gCons', gNil', wSub, wAug, wPar, wBM, wIsT, wFor, wLc, wLcO, wYes, wiSeq, wiStr, wiRng1, wiRng2, wiZip, wFz, frz_lst, frz_tup, at1_0, at2_0, at2_1, at3_0, at3_1, at3_2, at4_0, at4_1, at4_2, at4_3, at5_0, at5_1, at5_2, at5_3, at5_4, seqOf_put, ED.xc, rIxD, rLenD, rIsD, rIntCD, rStrCD, rListD, rListO, rTupD, rAddD, rIntD, rInt0D, rEqD, rIsND, rNegD, rSlD, seqOf_lst, seqOf_tup, optK_some, insK_same, tyN_non, tyN_bl, tyN_int, tyN_str, tyN_tup, tyN_lst, tyN_dct, List.getElem?_cons_zero, List.getElem?_cons_succ, List.set_cons_zero, List.set_cons_succ, List.length_cons, List.length_nil, isB_NoneType_bool, isB_NoneType_int, isB_NoneType_str, isB_NoneType_tuple, isB_NoneType_list, isB_NoneType_dict, isB_bool_bool, isB_bool_int, isB_bool_str, isB_bool_tuple, isB_bool_list, isB_bool_dict, isB_int_bool, isB_int_int, isB_int_str, isB_int_tuple, isB_int_list, isB_int_dict, isB_str_bool, isB_str_int, isB_str_str, isB_str_tuple, isB_str_list, isB_str_dict, isB_tuple_bool, isB_tuple_int, isB_tuple_str, isB_tuple_tuple, isB_tuple_list, isB_tuple_dict, isB_list_bool, isB_list_int, isB_list_str, isB_list_tuple, isB_list_list, isB_list_dict, isB_dict_bool, isB_dict_int, isB_dict_str, isB_dict_tuple, isB_dict_list, isB_dict_dict, isC_bool, isC_int, isC_str, isC_tuple, isC_list, isC_dict, isA_list_tuple, isQ_NoneType, isQ_bool, isQ_int, isQ_str, isQ_tuple, isQ_list, isQ_dict, true_and, and_true, ↓reduceIte, Bool.not_true, Bool.not_false, Bool.false_eq_true, Bool.true_xor, Bool.false_xor, e]
  by_cases hc : c = 0
  · by_cases hi : i < ((cs.map D.int).length : Int)
    · simp only [hc, hi, decide_true, wipeD, wNx, wSeq_p, seqE_nx, seqE_rt, seqE_bk, seqE_ct, seqE_ex, wIf, wRet, wRetN, wDrop, wAsg, wBrk, wCnt, wVar, wGet, wC, wOp, wUn, wCB, wNil, wCons, wTest, wAndT, wOrT, wNotT, wAndV, wOrV, wNotV, wIfE, wChain, wTup, wLst, wLstO, wCall, wMeth, wFld, wFst, wCv, wProp, wMake, wSl, wNo, wSome, intK, isBl, gN, gT, gCons', gNil', wSub, wAug, wPar, wBM, wIsT, wFor, wLc, wLcO, wYes, wiSeq, wiStr, wiRng1, wiRng2, wiZip, wFz, frz_lst, frz_tup, at1_0, at2_0, at2_1, at3_0, at3_1, at3_2, at4_0, at4_1, at4_2, at4_3, at5_0, at5_1, at5_2, at5_3, at5_4, seqOf_put, ED.xc, rIxD, rLenD, rIsD, rIntCD, rStrCD, rListD, rListO, rTupD, rAddD, rIntD, rInt0D, rEqD, rIsND, rNegD, rSlD, seqOf_lst, seqOf_tup, optK_some, insK_same, tyN_non, tyN_bl, tyN_int, tyN_str, tyN_tup, tyN_lst, tyN_dct, List.getElem?_cons_zero, List.getElem?_cons_succ, List.set_cons_zero, List.set_cons_succ, List.length_cons, List.length_nil, isB_NoneType_bool, isB_NoneType_int, isB_NoneType_str, isB_NoneType_tuple, isB_NoneType_list, isB_NoneType_dict, isB_bool_bool, isB_bool_int, isB_bool_str, isB_bool_tuple, isB_bool_list, isB_bool_dict, isB_int_bool, isB_int_int, isB_int_str, isB_int_tuple, isB_int_list, isB_int_dict, isB_str_bool, isB_str_int, isB_str_str, isB_str_tuple, isB_str_list, isB_str_dict, isB_tuple_bool, isB_tuple_int, isB_tuple_str, isB_tuple_tuple, isB_tuple_list, isB_tuple_dict, isB_list_bool, isB_list_int, isB_list_str, isB_list_tuple, isB_list_list, isB_list_dict, isB_dict_bool, isB_dict_int, isB_dict_str, isB_dict_tuple, isB_dict_list, isB_dict_dict, isC_bool, isC_int, isC_str, isC_tuple, isC_list, isC_dict, isA_list_tuple, isQ_NoneType, isQ_bool, isQ_int, isQ_str, isQ_tuple, isQ_list, isQ_dict, true_and, and_true, ↓reduceIte, Bool.not_true, Bool.not_false, Bool.false_eq_true, Bool.true_xor, Bool.false_xor, e]
      have hk : i.toNat < cs.length := by have := g.i0; rw [List.length_map] at hi; omega
      obtain ⟨cell, ea⟩ : ∃ cell, atI (cs.map D.int) i = some (.int cell) := by
        have e0 : i = ((i.toNat : Nat) : Int) := by have := g.i0; omega
        rw [e0, atI_nat, List.getElem?_map, List.getElem?_eq_getElem hk]
        exact ⟨_, rfl⟩
      simp only [ea, wipeD, wNx, wSeq_p, seqE_nx, seqE_rt, seqE_bk, seqE_ct, seqE_ex, wIf, wRet, wRetN, wDrop, wAsg, wBrk, wCnt, wVar, wGet, wC, wOp, wUn, wCB, wNil, wCons, wTest, wAndT, wOrT, wNotT, wAndV, wOrV, wNotV, wIfE, wChain, wTup, wLst, wLstO, wCall, wMeth, wFld, wFst, wCv, wProp, wMake, wSl, wNo, wSome, intK, isBl, gN, gT, gCons', gNil', wSub, wAug, wPar, wBM, wIsT, wFor, wLc, wLcO, wYes, wiSeq, wiStr, wiRng1, wiRng2, wiZip, wFz, frz_lst, frz_tup, at1_0, at2_0, at2_1, at3_0, at3_1, at3_2, at4_0, at4_1, at4_2, at4_3, at5_0, at5_1, at5_2, at5_3, at5_4, seqOf_put, ED.xc, rIxD, rLenD, rIsD, rIntCD, rStrCD, rListD, rListO, rTupD, rAddD, rIntD, rInt0D, rEqD, rIsND, rNegD, rSlD, seqOf_lst, seqOf_tup, optK_some, insK_same, tyN_non, tyN_bl, tyN_int, tyN_str, tyN_tup, tyN_lst, tyN_dct, List.getElem?_cons_zero, List.getElem?_cons_succ, List.set_cons_zero, List.set_cons_succ, List.length_cons, List.length_nil, isB_NoneType_bool, isB_NoneType_int, isB_NoneType_str, isB_NoneType_tuple, isB_NoneType_list, isB_NoneType_dict, isB_bool_bool, isB_bool_int, isB_bool_str, isB_bool_tuple, isB_bool_list, isB_bool_dict, isB_int_bool, isB_int_int, isB_int_str, isB_int_tuple, isB_int_list, isB_int_dict, isB_str_bool, isB_str_int, isB_str_str, isB_str_tuple, isB_str_list, isB_str_dict, isB_tuple_bool, isB_tuple_int, isB_tuple_str, isB_tuple_tuple, isB_tuple_list, isB_tuple_dict, isB_list_bool, isB_list_int, isB_list_str, isB_list_tuple, isB_list_list, isB_list_dict, isB_dict_bool, isB_dict_int, isB_dict_str, isB_dict_tuple, isB_dict_list, isB_dict_dict, isC_bool, isC_int, isC_str, isC_tuple, isC_list, isC_dict, isA_list_tuple, isQ_NoneType, isQ_bool, isQ_int, isQ_str, isQ_tuple, isQ_list, isQ_dict, true_and, and_true, ↓reduceIte, Bool.not_true, Bool.not_false, Bool.false_eq_true, Bool.true_xor, Bool.false_xor, e]
      refine set5_1 hb ?_
      simp only [CPow, wipeD, wNx, wSeq_p, seqE_nx, seqE_rt, seqE_bk, seqE_ct, seqE_ex, wIf, wRet, wRetN, wDrop, wAsg, wBrk, wCnt, wVar, wGet, wC, wOp, wUn, wCB, wNil, wCons, wTest, wAndT, wOrT, wNotT, wAndV, wOrV, wNotV, wIfE, wChain, wTup, wLst, wLstO, wCall, wMeth, wFld, wFst, wCv, wProp, wMake, wSl, wNo, wSome, intK, isBl, gN, gT, gCons', gNil', wSub, wAug, wPar, wBM, wIsT, wFor, wLc, wLcO, wYes, wiSeq, wiStr, wiRng1, wiRng2, wiZip, wFz, frz_lst, frz_tup, at1_0, at2_0, at2_1, at3_0, at3_1, at3_2, at4_0, at4_1, at4_2, at4_3, at5_0, at5_1, at5_2, at5_3, at5_4, seqOf_put, ED.xc, rIxD, rLenD, rIsD, rIntCD, rStrCD, rListD, rListO, rTupD, rAddD, rIntD, rInt0D, rEqD, rIsND, rNegD, rSlD, seqOf_lst, seqOf_tup, optK_some, insK_same, tyN_non, tyN_bl, tyN_int, tyN_str, tyN_tup, tyN_lst, tyN_dct, List.getElem?_cons_zero, List.getElem?_cons_succ, List.set_cons_zero, List.set_cons_succ, List.length_cons, List.length_nil, isB_NoneType_bool, isB_NoneType_int, isB_NoneType_str, isB_NoneType_tuple, isB_NoneType_list, isB_NoneType_dict, isB_bool_bool, isB_bool_int, isB_bool_str, isB_bool_tuple, isB_bool_list, isB_bool_dict, isB_int_bool, isB_int_int, isB_int_str, isB_int_tuple, isB_int_list, isB_int_dict, isB_str_bool, isB_str_int, isB_str_str, isB_str_tuple, isB_str_list, isB_str_dict, isB_tuple_bool, isB_tuple_int, isB_tuple_str, isB_tuple_tuple, isB_tuple_list, isB_tuple_dict, isB_list_bool, isB_list_int, isB_list_str, isB_list_tuple, isB_list_list, isB_list_dict, isB_dict_bool, isB_dict_int, isB_dict_str, isB_dict_tuple, isB_dict_list, isB_dict_dict, isC_bool, isC_int, isC_str, isC_tuple, isC_list, isC_dict, isA_list_tuple, isQ_NoneType, isQ_bool, isQ_int, isQ_str, isQ_tuple, isQ_list, isQ_dict, true_and, and_true, ↓reduceIte, Bool.not_true, Bool.not_false, Bool.false_eq_true, Bool.true_xor, Bool.false_xor]
      refine ⟨⟨by decide, by decide, by decide⟩, ?_⟩
      by_cases h18 : 10 ^ (18 : Int).toNat ≤ cell
      · simp only [h18, decide_true, wipeD, wNx, wSeq_p, seqE_nx, seqE_rt, seqE_bk, seqE_ct, seqE_ex, wIf, wRet, wRetN, wDrop, wAsg, wBrk, wCnt, wVar, wGet, wC, wOp, wUn, wCB, wNil, wCons, wTest, wAndT, wOrT, wNotT, wAndV, wOrV, wNotV, wIfE, wChain, wTup, wLst, wLstO, wCall, wMeth, wFld, wFst, wCv, wProp, wMake, wSl, wNo, wSome, intK, isBl, gN, gT, gCons', gNil', wSub, wAug, wPar, wBM, wIsT, wFor, wLc, wLcO, wYes, wiSeq, wiStr, wiRng1, wiRng2, wiZip, wFz, frz_lst, frz_tup, at1_0, at2_0, at2_1, at3_0, at3_1, at3_2, at4_0, at4_1, at4_2, at4_3, at5_0, at5_1, at5_2, at5_3, at5_4, seqOf_put, ED.xc, rIxD, rLenD, rIsD, rIntCD, rStrCD, rListD, rListO, rTupD, rAddD, rIntD, rInt0D, rEqD, rIsND, rNegD, rSlD, seqOf_lst, seqOf_tup, optK_some, insK_same, tyN_non, tyN_bl, tyN_int, tyN_str, tyN_tup, tyN_lst, tyN_dct, List.getElem?_cons_zero, List.getElem?_cons_succ, List.set_cons_zero, List.set_cons_succ, List.length_cons, List.length_nil, isB_NoneType_bool, isB_NoneType_int, isB_NoneType_str, isB_NoneType_tuple, isB_NoneType_list, isB_NoneType_dict, isB_bool_bool, isB_bool_int, isB_bool_str, isB_bool_tuple, isB_bool_list, isB_bool_dict, isB_int_bool, isB_int_int, isB_int_str, isB_int_tuple, isB_int_list, isB_int_dict, isB_str_bool, isB_str_int, isB_str_str, isB_str_tuple, isB_str_list, isB_str_dict, isB_tuple_bool, isB_tuple_int, isB_tuple_str, isB_tuple_tuple, isB_tuple_list, isB_tuple_dict, isB_list_bool, isB_list_int, isB_list_str, isB_list_tuple, isB_list_list, isB_list_dict, isB_dict_bool, isB_dict_int, isB_dict_str, isB_dict_tuple, isB_dict_list, isB_dict_dict, isC_bool, isC_int, isC_str, isC_tuple, isC_list, isC_dict, isA_list_tuple, isQ_NoneType, isQ_bool, isQ_int, isQ_str, isQ_tuple, isQ_list, isQ_dict, true_and, and_true, ↓reduceIte, Bool.not_true, Bool.not_false, Bool.false_eq_true, Bool.true_xor, Bool.false_xor]
        refine set5_2 mput_same ?_
        refine pull_c0 A (M := M) (mput_same) ⟨by have := g.i0; omega, ?_, g.s0, g.s1⟩ ⟨h1, h2⟩ fun v o' v0 v1 ho => ?_
        · have : (0 : Int) ≤ 10 ^ (18 : Int).toNat := by decide
          omega
        · rw [mput_mput, mput_mput]; exact q v o' v0 v1 ho
      · simp only [h18, decide_false, wipeD, wNx, wSeq_p, seqE_nx, seqE_rt, seqE_bk, seqE_ct, seqE_ex, wIf, wRet, wRetN, wDrop, wAsg, wBrk, wCnt, wVar, wGet, wC, wOp, wUn, wCB, wNil, wCons, wTest, wAndT, wOrT, wNotT, wAndV, wOrV, wNotV, wIfE, wChain, wTup, wLst, wLstO, wCall, wMeth, wFld, wFst, wCv, wProp, wMake, wSl, wNo, wSome, intK, isBl, gN, gT, gCons', gNil', wSub, wAug, wPar, wBM, wIsT, wFor, wLc, wLcO, wYes, wiSeq, wiStr, wiRng1, wiRng2, wiZip, wFz, frz_lst, frz_tup, at1_0, at2_0, at2_1, at3_0, at3_1, at3_2, at4_0, at4_1, at4_2, at4_3, at5_0, at5_1, at5_2, at5_3, at5_4, seqOf_put, ED.xc, rIxD, rLenD, rIsD, rIntCD, rStrCD, rListD, rListO, rTupD, rAddD, rIntD, rInt0D, rEqD, rIsND, rNegD, rSlD, seqOf_lst, seqOf_tup, optK_some, insK_same, tyN_non, tyN_bl, tyN_int, tyN_str, tyN_tup, tyN_lst, tyN_dct, List.getElem?_cons_zero, List.getElem?_cons_succ, List.set_cons_zero, List.set_cons_succ, List.length_cons, List.length_nil, isB_NoneType_bool, isB_NoneType_int, isB_NoneType_str, isB_NoneType_tuple, isB_NoneType_list, isB_NoneType_dict, isB_bool_bool, isB_bool_int, isB_bool_str, isB_bool_tuple, isB_bool_list, isB_bool_dict, isB_int_bool, isB_int_int, isB_int_str, isB_int_tuple, isB_int_list, isB_int_dict, isB_str_bool, isB_str_int, isB_str_str, isB_str_tuple, isB_str_list, isB_str_dict, isB_tuple_bool, isB_tuple_int, isB_tuple_str, isB_tuple_tuple, isB_tuple_list, isB_tuple_dict, isB_list_bool, isB_list_int, isB_list_str, isB_list_tuple, isB_list_list, isB_list_dict, isB_dict_bool, isB_dict_int, isB_dict_str, isB_dict_tuple, isB_dict_list, isB_dict_dict, isC_bool, isC_int, isC_str, isC_tuple, isC_list, isC_dict, isA_list_tuple, isQ_NoneType, isQ_bool, isQ_int, isQ_str, isQ_tuple, isQ_list, isQ_dict, true_and, and_true, ↓reduceIte, Bool.not_true, Bool.not_false, Bool.false_eq_true, Bool.true_xor, Bool.false_xor, CMul]
        have := g.s0
        have := g.s1
        have m0 : 0 ≤ cell % 2147483549 := Int.emod_nonneg _ (by decide)
        have m1 : cell % 2147483549 < 2147483549 := Int.emod_lt_of_pos _ (by decide)
        refine ⟨.inl (by omega), by decide, .inl (by omega), by decide, ?_⟩
        refine set5_3 mput_same ?_
        refine pull_c0 A (M := M) (mput_same) ⟨by have := g.i0; omega, by omega, Int.emod_nonneg _ (by decide), Int.emod_lt_of_pos _ (by decide)⟩ ⟨h1, h2⟩ fun v o' v0 v1 ho => ?_
        rw [mput_mput, mput_mput]; exact q v o' v0 v1 ho
    · simp only [hc, hi, decide_true, decide_false, wipeD, wNx, wSeq_p, seqE_nx, seqE_rt, seqE_bk, seqE_ct, seqE_ex, wIf, wRet, wRetN, wDrop, wAsg, wBrk, wCnt, wVar, wGet, wC, wOp, wUn, wCB, wNil, wCons, wTest, wAndT, wOrT, wNotT, wAndV, wOrV, wNotV, wIfE, wChain, wTup, wLst, wLstO, wCall, wMeth, wFld, wFst, wCv, wProp, wMake, wSl, wNo, wSome, intK, isBl, gN, gT, gCons', gNil', wSub, wAug, wPar, wBM, wIsT, wFor, wLc, wLcO, wYes, wiSeq, wiStr, wiRng1, wiRng2, wiZip, wFz, frz_lst, frz_tup, at1_0, at2_0, at2_1, at3_0, at3_1, at3_2, at4_0, at4_1, at4_2, at4_3, at5_0, at5_1, at5_2, at5_3, at5_4, seqOf_put, ED.xc, rIxD, rLenD, rIsD, rIntCD, rStrCD, rListD, rListO, rTupD, rAddD, rIntD, rInt0D, rEqD, rIsND, rNegD, rSlD, seqOf_lst, seqOf_tup, optK_some, insK_same, tyN_non, tyN_bl, tyN_int, tyN_str, tyN_tup, tyN_lst, tyN_dct, List.getElem?_cons_zero, List.getElem?_cons_succ, List.set_cons_zero, List.set_cons_succ, List.length_cons, List.length_nil, isB_NoneType_bool, isB_NoneType_int, isB_NoneType_str, isB_NoneType_tuple, isB_NoneType_list, isB_NoneType_dict, isB_bool_bool, isB_bool_int, isB_bool_str, isB_bool_tuple, isB_bool_list, isB_bool_dict, isB_int_bool, isB_int_int, isB_int_str, isB_int_tuple, isB_int_list, isB_int_dict, isB_str_bool, isB_str_int, isB_str_str, isB_str_tuple, isB_str_list, isB_str_dict, isB_tuple_bool, isB_tuple_int, isB_tuple_str, isB_tuple_tuple, isB_tuple_list, isB_tuple_dict, isB_list_bool, isB_list_int, isB_list_str, isB_list_tuple, isB_list_list, isB_list_dict, isB_dict_bool, isB_dict_int, isB_dict_str, isB_dict_tuple, isB_dict_list, isB_dict_dict, isC_bool, isC_int, isC_str, isC_tuple, isC_list, isC_dict, isA_list_tuple, isQ_NoneType, isQ_bool, isQ_int, isQ_str, isQ_tuple, isQ_list, isQ_dict, true_and, and_true, ↓reduceIte, Bool.not_true, Bool.not_false, Bool.false_eq_true, Bool.true_xor, Bool.false_xor]
      rw [hc] at hb g
      exact pull_c0 A (M := M) hb g ⟨h1, h2⟩ q
  · simp only [hc, decide_false, wipeD, wNx, wSeq_p, seqE_nx, seqE_rt, seqE_bk, seqE_ct, seqE_ex, wIf, wRet, wRetN, wDrop, wAsg, wBrk, wCnt, wVar, wGet, wC, wOp, wUn, wCB, wNil, wCons, wTest, wAndT, wOrT, wNotT, wAndV, wOrV, wNotV, wIfE, wChain, wTup, wLst, wLstO, wCall, wMeth, wFld, wFst, wCv, wProp, wMake, wSl, wNo, wSome, intK, isBl, gN, gT, gCons', gNil', wSub, wAug, wPar, wBM, wIsT, wFor, wLc, wLcO, wYes, wiSeq, wiStr, wiRng1, wiRng2, wiZip, wFz, frz_lst, frz_tup, at1_0, at2_0, at2_1, at3_0, at3_1, at3_2, at4_0, at4_1, at4_2, at4_3, at5_0, at5_1, at5_2, at5_3, at5_4, seqOf_put, ED.xc, rIxD, rLenD, rIsD, rIntCD, rStrCD, rListD, rListO, rTupD, rAddD, rIntD, rInt0D, rEqD, rIsND, rNegD, rSlD, seqOf_lst, seqOf_tup, optK_some, insK_same, tyN_non, tyN_bl, tyN_int, tyN_str, tyN_tup, tyN_lst, tyN_dct, List.getElem?_cons_zero, List.getElem?_cons_succ, List.set_cons_zero, List.set_cons_succ, List.length_cons, List.length_nil, isB_NoneType_bool, isB_NoneType_int, isB_NoneType_str, isB_NoneType_tuple, isB_NoneType_list, isB_NoneType_dict, isB_bool_bool, isB_bool_int, isB_bool_str, isB_bool_tuple, isB_bool_list, isB_bool_dict, isB_int_bool, isB_int_int, isB_int_str, isB_int_tuple, isB_int_list, isB_int_dict, isB_str_bool, isB_str_int, isB_str_str, isB_str_tuple, isB_str_list, isB_str_dict, isB_tuple_bool, isB_tuple_int, isB_tuple_str, isB_tuple_tuple, isB_tuple_list, isB_tuple_dict, isB_list_bool, isB_list_int, isB_list_str, isB_list_tuple, isB_list_list, isB_list_dict, isB_dict_bool, isB_dict_int, isB_dict_str, isB_dict_tuple, isB_dict_list, isB_dict_dict, isC_bool, isC_int, isC_str, isC_tuple, isC_list, isC_dict, isA_list_tuple, isQ_NoneType, isQ_bool, isQ_int, isQ_str, isQ_tuple, isQ_list, isQ_dict, true_and, and_true, ↓reduceIte, Bool.not_true, Bool.not_false, Bool.false_eq_true, Bool.true_xor, Bool.false_xor]
    exact pull_c0 A (M := M) hb g ⟨h1, h2⟩ q
theorem ok__law_pull {P : Program} {w : World} {K : PySem.W.Frag} {mg : Str → Option Value} {base : Heap} {A : Ad} (T : Txt K mg A) : FnJ P w K mg base 1 A.f__law_pull (sp__law_pull A) :=
  FnJ.mkAt T.d__law_pull sc__law_pull (fun cdv R outer s H E hr tk => bd__law_pull T cdv R outer s H E hr tk) (rd__law_pull A)
/-! ### choices -/
/-- the bag's part of a spec: it stands there, and comes out as some bag -/
def bagK (M : Mem) (b : Addr) (k : (Mem → Prop) → Prop) : Prop := True
theorem pull_of (A : Ad) {b : Addr} {many : Int} {M : Mem} {Q : KN} {Xc : KX} {o : MO} (hb : M b = some o) (g : Bg o) (h1 : 0 < many) (h2 : many < 1000000)
    (q : ∀ v : Nat, (v : Int) < many → ∀ o', Bg o' → Q (.int v) (mput M b o')) : sp__law_pull A [.ref b, .int many] M Q Xc :=
  ⟨b, many, o, rfl, hb, g, h1, h2, fun v o' v0 v1 ho => by
    have e : v = ((v.toNat : Nat) : Int) := by omega
    rw [e]
    exact q v.toNat (by omega) o' ho⟩
def sp__law_any (A : Ad) : SpD := fun ds M Q _ => ∃ b xs o, ds = [.ref b, .lst xs] ∧ M b = some o ∧ Bg o ∧ xs ≠ [] ∧ xs.length < 900000 ∧ ∀ x ∈ xs, ∀ o', Bg o' → Q x (mput M b o')
def wb__law_any (A : Ad) : WS :=
  (wRet (wOp rIxD (wVar 1) (wCall (sp__law_pull A) (wCons (wVar 0) (wCons (wCB rLenD (wCons (wVar 1) wNil)) wNil)))))
theorem bd__law_any {P : Program} {w : World} {K : PySem.W.Frag} {mg : Str → Option Value} {base : Heap} {A : Ad} (T : Txt K mg A) (cdv : Value) (R : Around) (outer : List Env) (s : Shared) (H : Hp) (E : XK) (hr : Room 1 (R.deeper (envOfC "_law_any" (defScope s__law_any) s.heap.objs.size A.f__law_any cdv)))
    (tk : Takes (cxOf (L2.CX P w) P w K mg base N__law_any "_law_any" (defScope s__law_any) A.f__law_any cdv R outer s H E) (WD E)) : JSs (cxOf (L2.CX P w) P w K mg base N__law_any "_law_any" (defScope s__law_any) A.f__law_any cdv R outer s H E) (WD E) (defBody s__law_any) (wb__law_any A) :=
  (js_one (js_ret (j_ix id_ix (jv 1) (j_call (ok__law_pull T) hr (by decide) T.g__law_pull tk (j_cons (jv 0) (j_cons (j_callB cd_len T.n_len bo_len (j_cons (jv 1) j_nil)) j_nil))))))
theorem rd__law_any (A : Ad) : ∀ ds M Q Xc, sp__law_any A ds M Q Xc → ds.length = P__law_any.length ∧ RD (wb__law_any A) Q Xc (startD N__law_any ds) M := by
  rintro _ M Q Xc ⟨b, xs, o, rfl, hb, g, hne, hl, q⟩
  refine ⟨rfl, ?_⟩
  rw [st__law_any]
  have hpos : 0 < xs.length := List.length_pos_iff.mpr hne
  simp only [RD, wb__law_any, wipeD, wNx, wSeq_p, seqE_nx, seqE_rt, seqE_bk, seqE_ct, seqE_ex, wIf, wRet, wRetN, wDrop, wAsg, wBrk, wCnt, wVar, wGet, wC, wOp, wUn, wCB, wNil, wCons, wTest, wAndT, wOrT, wNotT, wAndV, wOrV, wNotV, wIfE, wChain, wTup, wLst, wLstO, wCall, wMeth, wFld, wFst, wCv, wProp, wMake, wSl, wNo, wSome, intK, isBl, gN, gT, gCons', gNil', wSub, wAug, wPar, wBM, wIsT, wFor, wLc, wLcO, wYes, wiSeq, wiStr, wiRng1, wiRng2, wiZip, wFz, frz_lst, frz_tup, at1_0, at2_0, at2_1, at3_0, at3_1, at3_2, at4_0, at4_1, at4_2, at4_3, at5_0, at5_1, at5_2, at5_3, at5_4, seqOf_put, ED.xc, rIxD, rLenD, rIsD, rIntCD, rStrCD, rListD, rListO, rTupD, rAddD, rIntD, rInt0D, rEqD, rIsND, rNegD, rSlD, seqOf_lst, seqOf_tup, optK_some, insK_same, tyN_non, tyN_bl, tyN_int, tyN_str, tyN_tup, tyN_lst, tyN_dct, List.getElem?_cons_zero, List.getElem?_cons_succ, List.set_cons_zero, List.set_cons_succ, List.length_cons, List.length_nil, isB_NoneType_bool, isB_NoneType_int, isB_NoneType_str, isB_NoneType_tuple, isB_NoneType_list, isB_NoneType_dict, isB_bool_bool, isB_bool_int, isB_bool_str, isB_bool_tuple, isB_bool_list, isB_bool_dict, isB_int_bool, isB_int_int, isB_int_str, isB_int_tuple, isB_int_list, isB_int_dict, isB_str_bool, isB_str_int, isB_str_str, isB_str_tuple, isB_str_list, isB_str_dict, isB_tuple_bool, isB_tuple_int, isB_tuple_str, isB_tuple_tuple, isB_tuple_list, isB_tuple_dict, isB_list_bool, isB_list_int, isB_list_str, isB_list_tuple, isB_list_list, isB_list_dict, isB_dict_bool, isB_dict_int, isB_dict_str, isB_dict_tuple, isB_dict_list, isB_dict_dict, isC_bool, isC_int, isC_str, isC_tuple, isC_list, isC_dict, isA_list_tuple, isQ_NoneType, isQ_bool, isQ_int, isQ_str, isQ_tuple, isQ_list, isQ_dict, true_and, and_true, ↓reduceIte, Bool.not_true, Bool.not_false, Bool.false_eq_true, Bool.true_xor, Bool.false_xor]
  refine pull_of A hb g (by omega) (by omega) fun v hv o' ho => ?_
  have hv' : v < xs.length := by omega
  simp only [wipeD, wNx, wSeq_p, seqE_nx, seqE_rt, seqE_bk, seqE_ct, seqE_ex, wIf, wRet, wRetN, wDrop, wAsg, wBrk, wCnt, wVar, wGet, wC, wOp, wUn, wCB, wNil, wCons, wTest, wAndT, wOrT, wNotT, wAndV, wOrV, wNotV, wIfE, wChain, wTup, wLst, wLstO, wCall, wMeth, wFld, wFst, wCv, wProp, wMake, wSl, wNo, wSome, intK, isBl, gN, gT, gCons', gNil', wSub, wAug, wPar, wBM, wIsT, wFor, wLc, wLcO, wYes, wiSeq, wiStr, wiRng1, wiRng2, wiZip, wFz, frz_lst, frz_tup, at1_0, at2_0, at2_1, at3_0, at3_1, at3_2, at4_0, at4_1, at4_2, at4_3, at5_0, at5_1, at5_2, at5_3, at5_4, seqOf_put, ED.xc, rIxD, rLenD, rIsD, rIntCD, rStrCD, rListD, rListO, rTupD, rAddD, rIntD, rInt0D, rEqD, rIsND, rNegD, rSlD, seqOf_lst, seqOf_tup, optK_some, insK_same, tyN_non, tyN_bl, tyN_int, tyN_str, tyN_tup, tyN_lst, tyN_dct, List.getElem?_cons_zero, List.getElem?_cons_succ, List.set_cons_zero, List.set_cons_succ, List.length_cons, List.length_nil, isB_NoneType_bool, isB_NoneType_int, isB_NoneType_str, isB_NoneType_tuple, isB_NoneType_list, isB_NoneType_dict, isB_bool_bool, isB_bool_int, isB_bool_str, isB_bool_tuple, isB_bool_list, isB_bool_dict, isB_int_bool, isB_int_int, isB_int_str, isB_int_tuple, isB_int_list, isB_int_dict, isB_str_bool, isB_str_int, isB_str_str, isB_str_tuple, isB_str_list, isB_str_dict, isB_tuple_bool, isB_tuple_int, isB_tuple_str, isB_tuple_tuple, isB_tuple_list, isB_tuple_dict, isB_list_bool, isB_list_int, isB_list_str, isB_list_tuple, isB_list_list, isB_list_dict, isB_dict_bool, isB_dict_int, isB_dict_str, isB_dict_tuple, isB_dict_list, isB_dict_dict, isC_bool, isC_int, isC_str, isC_tuple, isC_list, isC_dict, isA_list_tuple, isQ_NoneType, isQ_bool, isQ_int, isQ_str, isQ_tuple, isQ_list, isQ_dict, true_and, and_true, ↓reduceIte, Bool.not_true, Bool.not_false, Bool.false_eq_true, Bool.true_xor, Bool.false_xor, atI_nat, List.getElem?_eq_getElem hv']
  exact fin_of (q _ (List.getElem_mem hv') o' ho)
theorem ok__law_any {P : Program} {w : World} {K : PySem.W.Frag} {mg : Str → Option Value} {base : Heap} {A : Ad} (T : Txt K mg A) : FnJ P w K mg base 2 A.f__law_any (sp__law_any A) :=
  FnJ.mkAt T.d__law_any sc__law_any (fun cdv R outer s H E hr tk => bd__law_any T cdv R outer s H E hr tk) (rd__law_any A)
/-! ### like: the same data -/
def sp__law_like (A : Ad) : Nat → SpD
  | 0 => fun _ _ _ _ => False
  | n + 1 => fun ds M Q _ => ∃ d, ds = [d, d] ∧ Nc d n ∧ Q (.bl true) M
def wb__law_like (A : Ad) (n : Nat) : WS :=
  (wSeq (wIf (wTest (wIsT ["list", "tuple"] (wVar 1)))
  (wSeq (wIf (wOrT (wTest (wOp (rEqD true) (wCB rIsD (wCons (wVar 0) (wCons (wC (.ty "list")) wNil))) (wCB rIsD (wCons (wVar 1) (wCons (wC (.ty "list")) wNil))))) (wTest (wOp (rEqD true) (wCB rIsD (wCons (wVar 0) (wCons (wC (.ty "tuple")) wNil))) (wCB rIsD (wCons (wVar 1) (wCons (wC (.ty "tuple")) wNil))))))
  (wRet (wC (.bl false)))
  wNx)
  (wRet (wAndV (wOp (rEqD false) (wCB rLenD (wCons (wVar 0) wNil)) (wCB rLenD (wCons (wVar 1) wNil))) (wCB (rAllD false) (wCons (wLc (wiZip (wCons (wVar 0) (wCons (wVar 1) wNil))) (gT 2 (gCons' (gN 2) (gCons' (gN 3) gNil'))) wYes (wCall (sp__law_like A n) (wCons (wVar 2) (wCons (wVar 3) wNil))) [2, 3]) wNil)))))
  wNx)
  (wSeq (wIf (wTest (wCB rIsD (wCons (wVar 1) (wCons (wC (.ty "dict")) wNil))))
  wNever
  wNx)
  (wSeq (wIf (wOrT (wTest (wOp (rIsND false) (wVar 1) (wC .non))) (wTest (wOp (rIsND false) (wVar 0) (wC .non))))
  (wRet (wAndV (wOp (rIsND false) (wVar 1) (wC .non)) (wOp (rIsND false) (wVar 0) (wC .non))))
  wNx)
  (wSeq (wIf (wOrT (wTest (wOp (rEqD true) (wCB rIsD (wCons (wVar 0) (wCons (wC (.ty "bool")) wNil))) (wCB rIsD (wCons (wVar 1) (wCons (wC (.ty "bool")) wNil))))) (wTest (wOp (rEqD true) (wCB rIsD (wCons (wVar 0) (wCons (wC (.ty "int")) wNil))) (wCB rIsD (wCons (wVar 1) (wCons (wC (.ty "int")) wNil))))))
  (wRet (wC (.bl false)))
  wNx)
  (wRet (wAndV (wOp (rEqD false) (wCB rIsD (wCons (wVar 0) (wCons (wC (.ty "str")) wNil))) (wCB rIsD (wCons (wVar 1) (wCons (wC (.ty "str")) wNil)))) (wOp (rEqD false) (wVar 0) (wVar 1))))))))
theorem bd__law_like {P : Program} {w : World} {K : PySem.W.Frag} {mg : Str → Option Value} {base : Heap} {A : Ad} (T : Txt K mg A) (n : Nat) (ih : FnJ P w K mg base (1 + n) A.f__law_like (sp__law_like A n)) (cdv : Value) (R : Around) (outer : List Env) (s : Shared) (H : Hp) (E : XK) (hr : Room (1 + n) (R.deeper (envOfC "_law_like" (defScope s__law_like) s.heap.objs.size A.f__law_like cdv)))
    (tk : Takes (cxOf (L2.CX P w) P w K mg base N__law_like "_law_like" (defScope s__law_like) A.f__law_like cdv R outer s H E) (WD E)) : JSs (cxOf (L2.CX P w) P w K mg base N__law_like "_law_like" (defScope s__law_like) A.f__law_like cdv R outer s H E) (WD E) (defBody s__law_like) (wb__law_like A n) :=
  (js_cons (js_if (jt_val (j_isiT T.n_isinstance (jv 1) (pcs_cons (pe_bltn rfl T.n_list bo_list rfl) (pcs_cons (pe_bltn rfl T.n_tuple bo_tuple rfl) pcs_nil))))
  (js_cons (js_if (jt_bool (jt_or (jt_cmp (od_ne hr.units) (j_callB cd_isi T.n_isinstance bo_isinstance (j_cons (jv 0) (j_cons (j_bltn T.n_list bo_list) j_nil))) (j_callB cd_isi T.n_isinstance bo_isinstance (j_cons (jv 1) (j_cons (j_bltn T.n_list bo_list) j_nil)))) (jt_or1 (jt_cmp (od_ne hr.units) (j_callB cd_isi T.n_isinstance bo_isinstance (j_cons (jv 0) (j_cons (j_bltn T.n_tuple bo_tuple) j_nil))) (j_callB cd_isi T.n_isinstance bo_isinstance (j_cons (jv 1) (j_cons (j_bltn T.n_tuple bo_tuple) j_nil)))))))
  (js_one (js_ret j_bl))
  js_nil)
  (js_one (js_ret (j_and (j_cmp (od_eq hr.units) (j_callB cd_len T.n_len bo_len (j_cons (jv 0) j_nil)) (j_callB cd_len T.n_len bo_len (j_cons (jv 1) j_nil))) (j_one (j_callB (cd_all rfl) T.n_all bo_all (j_cons (j_lc (own := [("_law_one", 2), ("_law_other", 3)]) rfl sc__law_like.nd (ji_zip T.n_zip (j_cons (jv 0) (j_cons (jv 1) j_nil))) (blkOk_by (own := [("_law_one", 2), ("_law_other", 3)]) (N := N__law_like) (sc := defScope s__law_like) (by decide +kernel)) (fun _ _ _ _ _ => (jg_tup rfl (jgs_cons (jg_name (i := 2) sc__law_like.nd) (jgs_cons (jg_name (i := 3) sc__law_like.nd) jgs_nil)))) (fun _ _ _ _ _ => jts_nil) (fun _ _ _ _ _ => (j_call ih hr (Nat.le_refl _) T.g__law_like tkF (j_cons (jv 2) (j_cons (jv 3) j_nil))))) j_nil)))))))
  js_nil)
  (js_cons (js_if (jt_val (j_callB cd_isi T.n_isinstance bo_isinstance (j_cons (jv 1) (j_cons (j_bltn T.n_dict bo_dict) j_nil))))
  jss_never
  js_nil)
  (js_cons (js_if (jt_bool (jt_or (jt_cmp od_isN (jv 1) j_non) (jt_or1 (jt_cmp od_isN (jv 0) j_non))))
  (js_one (js_ret (j_and (j_cmp od_isN (jv 1) j_non) (j_one (j_cmp od_isN (jv 0) j_non)))))
  js_nil)
  (js_cons (js_if (jt_bool (jt_or (jt_cmp (od_ne hr.units) (j_callB cd_isi T.n_isinstance bo_isinstance (j_cons (jv 0) (j_cons (j_bltn T.n_bool bo_bool) j_nil))) (j_callB cd_isi T.n_isinstance bo_isinstance (j_cons (jv 1) (j_cons (j_bltn T.n_bool bo_bool) j_nil)))) (jt_or1 (jt_cmp (od_ne hr.units) (j_callB cd_isi T.n_isinstance bo_isinstance (j_cons (jv 0) (j_cons (j_bltn T.n_int bo_int) j_nil))) (j_callB cd_isi T.n_isinstance bo_isinstance (j_cons (jv 1) (j_cons (j_bltn T.n_int bo_int) j_nil)))))))
  (js_one (js_ret j_bl))
  js_nil)
  (js_one (js_ret (j_and (j_cmp (od_eq hr.units) (j_callB cd_isi T.n_isinstance bo_isinstance (j_cons (jv 0) (j_cons (j_bltn T.n_str bo_str) j_nil))) (j_callB cd_isi T.n_isinstance bo_isinstance (j_cons (jv 1) (j_cons (j_bltn T.n_str bo_str) j_nil)))) (j_one (j_cmp (od_eq hr.units) (jv 0) (jv 1))))))))))
theorem zip_same : ∀ xs : List D, zipD xs xs = xs.map fun x => .tup [x, x]
  | [] => rfl
  | x :: xs => by
    show D.tup [x, x] :: zipD xs xs = _
    rw [zip_same xs]
    rfl
theorem rd__law_like (A : Ad) (n : Nat) : ∀ ds M Q Xc, sp__law_like A (n + 1) ds M Q Xc → ds.length = P__law_like.length ∧ RD (wb__law_like A n) Q Xc (startD N__law_like ds) M := by
  rintro _ M Q Xc ⟨d, rfl, hn, q⟩
  refine ⟨rfl, ?_⟩
  rw [st__law_like]
  have big := sizeLine_big
  have hp := hn.pl
  have lc : ∀ (xs : List D) (ds : SD) (k : List D → Mem → Prop) (x y z w v : Option D), Ncs xs (n - 1) → xs.length < 3000 → 0 < n → k (xs.map fun _ => .bl true) M →
      lcR (gT 2 (gCons' (gN 2) (gCons' (gN 3) gNil'))) wYes (wCall (sp__law_like A n) (wCons (wVar 2) (wCons (wVar 3) wNil))) [x, y, z, w, v] (zipD xs xs) [] M k := by
    intro xs ds k x y z w v hx hl h0 hk
    rw [zip_same]
    obtain ⟨m, rfl⟩ : ∃ m, n = m + 1 := ⟨n - 1, by omega⟩
    refine lcR_mapL _ (fun _ => .bl true) (fun x => Nc x m) (fun x acc R hx h => ?_) xs [] (fun x hx' => Ncs_iff.mp hx x hx') (by simp only [List.length_nil]; omega) (by rw [List.nil_append]; exact hk)
    simp only [wipeD, wNx, wSeq_p, seqE_nx, seqE_rt, seqE_bk, seqE_ct, seqE_ex, wIf, wRet, wRetN, wDrop, wAsg, wBrk, wCnt, wVar, wGet, wC, wOp, wUn, wCB, wNil, wCons, wTest, wAndT, wOrT, wNotT, wAndV, wOrV, wNotV, wIfE, wChain, wTup, wLst, wLstO, wCall, wMeth, wFld, wFst, wCv, wProp, wMake, wSl, wNo, wSome, intK, isBl, gN, gT, gCons', gNil', wSub, wAug, wPar, wBM, wIsT, wFor, wLc, wLcO, wYes, wiSeq, wiStr, wiRng1, wiRng2, wiZip, wFz, frz_lst, frz_tup, at1_0, at2_0, at2_1, at3_0, at3_1, at3_2, at4_0, at4_1, at4_2, at4_3, at5_0, at5_1, at5_2, at5_3, at5_4, seqOf_put, ED.xc, rIxD, rLenD, rIsD, rIntCD, rStrCD, rListD, rListO, rTupD, rAddD, rIntD, rInt0D, rEqD, rIsND, rNegD, rSlD, seqOf_lst, seqOf_tup, optK_some, insK_same, tyN_non, tyN_bl, tyN_int, tyN_str, tyN_tup, tyN_lst, tyN_dct, List.getElem?_cons_zero, List.getElem?_cons_succ, List.set_cons_zero, List.set_cons_succ, List.length_cons, List.length_nil, isB_NoneType_bool, isB_NoneType_int, isB_NoneType_str, isB_NoneType_tuple, isB_NoneType_list, isB_NoneType_dict, isB_bool_bool, isB_bool_int, isB_bool_str, isB_bool_tuple, isB_bool_list, isB_bool_dict, isB_int_bool, isB_int_int, isB_int_str, isB_int_tuple, isB_int_list, isB_int_dict, isB_str_bool, isB_str_int, isB_str_str, isB_str_tuple, isB_str_list, isB_str_dict, isB_tuple_bool, isB_tuple_int, isB_tuple_str, isB_tuple_tuple, isB_tuple_list, isB_tuple_dict, isB_list_bool, isB_list_int, isB_list_str, isB_list_tuple, isB_list_list, isB_list_dict, isB_dict_bool, isB_dict_int, isB_dict_str, isB_dict_tuple, isB_dict_list, isB_dict_dict, isC_bool, isC_int, isC_str, isC_tuple, isC_list, isC_dict, isA_list_tuple, isQ_NoneType, isQ_bool, isQ_int, isQ_str, isQ_tuple, isQ_list, isQ_dict, true_and, and_true, ↓reduceIte, Bool.not_true, Bool.not_false, Bool.false_eq_true, Bool.true_xor, Bool.false_xor]
    exact ⟨x, rfl, hx, h⟩
  have e : ∀ xs : List D, (xs.map fun _ => true).all id = true := fun xs => by simp
  cases d <;> try exact absurd hp Bool.false_ne_true
  case tup xs =>
    simp only [RD, wb__law_like, wipeD, wNx, wSeq_p, seqE_nx, seqE_rt, seqE_bk, seqE_ct, seqE_ex, wIf, wRet, wRetN, wDrop, wAsg, wBrk, wCnt, wVar, wGet, wC, wOp, wUn, wCB, wNil, wCons, wTest, wAndT, wOrT, wNotT, wAndV, wOrV, wNotV, wIfE, wChain, wTup, wLst, wLstO, wCall, wMeth, wFld, wFst, wCv, wProp, wMake, wSl, wNo, wSome, intK, isBl, gN, gT, gCons', gNil', wSub, wAug, wPar, wBM, wIsT, wFor, wLc, wLcO, wYes, wiSeq, wiStr, wiRng1, wiRng2, wiZip, wFz, frz_lst, frz_tup, at1_0, at2_0, at2_1, at3_0, at3_1, at3_2, at4_0, at4_1, at4_2, at4_3, at5_0, at5_1, at5_2, at5_3, at5_4, seqOf_put, ED.xc, rIxD, rLenD, rIsD, rIntCD, rStrCD, rListD, rListO, rTupD, rAddD, rIntD, rInt0D, rEqD, rIsND, rNegD, rSlD, seqOf_lst, seqOf_tup, optK_some, insK_same, tyN_non, tyN_bl, tyN_int, tyN_str, tyN_tup, tyN_lst, tyN_dct, List.getElem?_cons_zero, List.getElem?_cons_succ, List.set_cons_zero, List.set_cons_succ, List.length_cons, List.length_nil, isB_NoneType_bool, isB_NoneType_int, isB_NoneType_str, isB_NoneType_tuple, isB_NoneType_list, isB_NoneType_dict, isB_bool_bool, isB_bool_int, isB_bool_str, isB_bool_tuple, isB_bool_list, isB_bool_dict, isB_int_bool, isB_int_int, isB_int_str, isB_int_tuple, isB_int_list, isB_int_dict, isB_str_bool, isB_str_int, isB_str_str, isB_str_tuple, isB_str_list, isB_str_dict, isB_tuple_bool, isB_tuple_int, isB_tuple_str, isB_tuple_tuple, isB_tuple_list, isB_tuple_dict, isB_list_bool, isB_list_int, isB_list_str, isB_list_tuple, isB_list_list, isB_list_dict, isB_dict_bool, isB_dict_int, isB_dict_str, isB_dict_tuple, isB_dict_list, isB_dict_dict, isC_bool, isC_int, isC_str, isC_tuple, isC_list, isC_dict, isA_list_tuple, isQ_NoneType, isQ_bool, isQ_int, isQ_str, isQ_tuple, isQ_list, isQ_dict, true_and, and_true, ↓reduceIte, Bool.not_true, Bool.not_false, Bool.false_eq_true, Bool.true_xor, Bool.false_xor, decide_true]
    refine lc xs [] _ _ _ _ _ _ hn.2 hn.1.2 hn.1.1 ?_
    simp only [rAllD, bools_map, wipeD, wNx, wSeq_p, seqE_nx, seqE_rt, seqE_bk, seqE_ct, seqE_ex, wIf, wRet, wRetN, wDrop, wAsg, wBrk, wCnt, wVar, wGet, wC, wOp, wUn, wCB, wNil, wCons, wTest, wAndT, wOrT, wNotT, wAndV, wOrV, wNotV, wIfE, wChain, wTup, wLst, wLstO, wCall, wMeth, wFld, wFst, wCv, wProp, wMake, wSl, wNo, wSome, intK, isBl, gN, gT, gCons', gNil', wSub, wAug, wPar, wBM, wIsT, wFor, wLc, wLcO, wYes, wiSeq, wiStr, wiRng1, wiRng2, wiZip, wFz, frz_lst, frz_tup, at1_0, at2_0, at2_1, at3_0, at3_1, at3_2, at4_0, at4_1, at4_2, at4_3, at5_0, at5_1, at5_2, at5_3, at5_4, seqOf_put, ED.xc, rIxD, rLenD, rIsD, rIntCD, rStrCD, rListD, rListO, rTupD, rAddD, rIntD, rInt0D, rEqD, rIsND, rNegD, rSlD, seqOf_lst, seqOf_tup, optK_some, insK_same, tyN_non, tyN_bl, tyN_int, tyN_str, tyN_tup, tyN_lst, tyN_dct, List.getElem?_cons_zero, List.getElem?_cons_succ, List.set_cons_zero, List.set_cons_succ, List.length_cons, List.length_nil, isB_NoneType_bool, isB_NoneType_int, isB_NoneType_str, isB_NoneType_tuple, isB_NoneType_list, isB_NoneType_dict, isB_bool_bool, isB_bool_int, isB_bool_str, isB_bool_tuple, isB_bool_list, isB_bool_dict, isB_int_bool, isB_int_int, isB_int_str, isB_int_tuple, isB_int_list, isB_int_dict, isB_str_bool, isB_str_int, isB_str_str, isB_str_tuple, isB_str_list, isB_str_dict, isB_tuple_bool, isB_tuple_int, isB_tuple_str, isB_tuple_tuple, isB_tuple_list, isB_tuple_dict, isB_list_bool, isB_list_int, isB_list_str, isB_list_tuple, isB_list_list, isB_list_dict, isB_dict_bool, isB_dict_int, isB_dict_str, isB_dict_tuple, isB_dict_list, isB_dict_dict, isC_bool, isC_int, isC_str, isC_tuple, isC_list, isC_dict, isA_list_tuple, isQ_NoneType, isQ_bool, isQ_int, isQ_str, isQ_tuple, isQ_list, isQ_dict, true_and, and_true, ↓reduceIte, Bool.not_true, Bool.not_false, Bool.false_eq_true, Bool.true_xor, Bool.false_xor, e]
    exact fin_of q
  case lst xs =>
    simp only [RD, wb__law_like, wipeD, wNx, wSeq_p, seqE_nx, seqE_rt, seqE_bk, seqE_ct, seqE_ex, wIf, wRet, wRetN, wDrop, wAsg, wBrk, wCnt, wVar, wGet, wC, wOp, wUn, wCB, wNil, wCons, wTest, wAndT, wOrT, wNotT, wAndV, wOrV, wNotV, wIfE, wChain, wTup, wLst, wLstO, wCall, wMeth, wFld, wFst, wCv, wProp, wMake, wSl, wNo, wSome, intK, isBl, gN, gT, gCons', gNil', wSub, wAug, wPar, wBM, wIsT, wFor, wLc, wLcO, wYes, wiSeq, wiStr, wiRng1, wiRng2, wiZip, wFz, frz_lst, frz_tup, at1_0, at2_0, at2_1, at3_0, at3_1, at3_2, at4_0, at4_1, at4_2, at4_3, at5_0, at5_1, at5_2, at5_3, at5_4, seqOf_put, ED.xc, rIxD, rLenD, rIsD, rIntCD, rStrCD, rListD, rListO, rTupD, rAddD, rIntD, rInt0D, rEqD, rIsND, rNegD, rSlD, seqOf_lst, seqOf_tup, optK_some, insK_same, tyN_non, tyN_bl, tyN_int, tyN_str, tyN_tup, tyN_lst, tyN_dct, List.getElem?_cons_zero, List.getElem?_cons_succ, List.set_cons_zero, List.set_cons_succ, List.length_cons, List.length_nil, isB_NoneType_bool, isB_NoneType_int, isB_NoneType_str, isB_NoneType_tuple, isB_NoneType_list, isB_NoneType_dict, isB_bool_bool, isB_bool_int, isB_bool_str, isB_bool_tuple, isB_bool_list, isB_bool_dict, isB_int_bool, isB_int_int, isB_int_str, isB_int_tuple, isB_int_list, isB_int_dict, isB_str_bool, isB_str_int, isB_str_str, isB_str_tuple, isB_str_list, isB_str_dict, isB_tuple_bool, isB_tuple_int, isB_tuple_str, isB_tuple_tuple, isB_tuple_list, isB_tuple_dict, isB_list_bool, isB_list_int, isB_list_str, isB_list_tuple, isB_list_list, isB_list_dict, isB_dict_bool, isB_dict_int, isB_dict_str, isB_dict_tuple, isB_dict_list, isB_dict_dict, isC_bool, isC_int, isC_str, isC_tuple, isC_list, isC_dict, isA_list_tuple, isQ_NoneType, isQ_bool, isQ_int, isQ_str, isQ_tuple, isQ_list, isQ_dict, true_and, and_true, ↓reduceIte, Bool.not_true, Bool.not_false, Bool.false_eq_true, Bool.true_xor, Bool.false_xor, decide_true]
    refine lc xs [] _ _ _ _ _ _ hn.2 hn.1.2 hn.1.1 ?_
    simp only [rAllD, bools_map, wipeD, wNx, wSeq_p, seqE_nx, seqE_rt, seqE_bk, seqE_ct, seqE_ex, wIf, wRet, wRetN, wDrop, wAsg, wBrk, wCnt, wVar, wGet, wC, wOp, wUn, wCB, wNil, wCons, wTest, wAndT, wOrT, wNotT, wAndV, wOrV, wNotV, wIfE, wChain, wTup, wLst, wLstO, wCall, wMeth, wFld, wFst, wCv, wProp, wMake, wSl, wNo, wSome, intK, isBl, gN, gT, gCons', gNil', wSub, wAug, wPar, wBM, wIsT, wFor, wLc, wLcO, wYes, wiSeq, wiStr, wiRng1, wiRng2, wiZip, wFz, frz_lst, frz_tup, at1_0, at2_0, at2_1, at3_0, at3_1, at3_2, at4_0, at4_1, at4_2, at4_3, at5_0, at5_1, at5_2, at5_3, at5_4, seqOf_put, ED.xc, rIxD, rLenD, rIsD, rIntCD, rStrCD, rListD, rListO, rTupD, rAddD, rIntD, rInt0D, rEqD, rIsND, rNegD, rSlD, seqOf_lst, seqOf_tup, optK_some, insK_same, tyN_non, tyN_bl, tyN_int, tyN_str, tyN_tup, tyN_lst, tyN_dct, List.getElem?_cons_zero, List.getElem?_cons_succ, List.set_cons_zero, List.set_cons_succ, List.length_cons, List.length_nil, isB_NoneType_bool, isB_NoneType_int, isB_NoneType_str, isB_NoneType_tuple, isB_NoneType_list, isB_NoneType_dict, isB_bool_bool, isB_bool_int, isB_bool_str, isB_bool_tuple, isB_bool_list, isB_bool_dict, isB_int_bool, isB_int_int, isB_int_str, isB_int_tuple, isB_int_list, isB_int_dict, isB_str_bool, isB_str_int, isB_str_str, isB_str_tuple, isB_str_list, isB_str_dict, isB_tuple_bool, isB_tuple_int, isB_tuple_str, isB_tuple_tuple, isB_tuple_list, isB_tuple_dict, isB_list_bool, isB_list_int, isB_list_str, isB_list_tuple, isB_list_list, isB_list_dict, isB_dict_bool, isB_dict_int, isB_dict_str, isB_dict_tuple, isB_dict_list, isB_dict_dict, isC_bool, isC_int, isC_str, isC_tuple, isC_list, isC_dict, isA_list_tuple, isQ_NoneType, isQ_bool, isQ_int, isQ_str, isQ_tuple, isQ_list, isQ_dict, true_and, and_true, ↓reduceIte, Bool.not_true, Bool.not_false, Bool.false_eq_true, Bool.true_xor, Bool.false_xor, e]
    exact fin_of q
  case dct => exact hn.elim
  all_goals simp only [RD, wb__law_like, wipeD, wNx, wSeq_p, seqE_nx, seqE_rt, seqE_bk, seqE_ct, seqE_ex, wIf, wRet, wRetN, wDrop, wAsg, wBrk, wCnt, wVar, wGet, wC, wOp, wUn, wCB, wNil, wCons, wTest, wAndT, wOrT, wNotT, wAndV, wOrV, wNotV, wIfE, wChain, wTup, wLst, wLstO, wCall, wMeth, wFld, wFst, wCv, wProp, wMake, wSl, wNo, wSome, intK, isBl, gN, gT, gCons', gNil', wSub, wAug, wPar, wBM, wIsT, wFor, wLc, wLcO, wYes, wiSeq, wiStr, wiRng1, wiRng2, wiZip, wFz, frz_lst, frz_tup, at1_0, at2_0, at2_1, at3_0, at3_1, at3_2, at4_0, at4_1, at4_2, at4_3, at5_0, at5_1, at5_2, at5_3, at5_4, seqOf_put, ED.xc, rIxD, rLenD, rIsD, rIntCD, rStrCD, rListD, rListO, rTupD, rAddD, rIntD, rInt0D, rEqD, rIsND, rNegD, rSlD, seqOf_lst, seqOf_tup, optK_some, insK_same, tyN_non, tyN_bl, tyN_int, tyN_str, tyN_tup, tyN_lst, tyN_dct, List.getElem?_cons_zero, List.getElem?_cons_succ, List.set_cons_zero, List.set_cons_succ, List.length_cons, List.length_nil, isB_NoneType_bool, isB_NoneType_int, isB_NoneType_str, isB_NoneType_tuple, isB_NoneType_list, isB_NoneType_dict, isB_bool_bool, isB_bool_int, isB_bool_str, isB_bool_tuple, isB_bool_list, isB_bool_dict, isB_int_bool, isB_int_int, isB_int_str, isB_int_tuple, isB_int_list, isB_int_dict, isB_str_bool, isB_str_int, isB_str_str, isB_str_tuple, isB_str_list, isB_str_dict, isB_tuple_bool, isB_tuple_int, isB_tuple_str, isB_tuple_tuple, isB_tuple_list, isB_tuple_dict, isB_list_bool, isB_list_int, isB_list_str, isB_list_tuple, isB_list_list, isB_list_dict, isB_dict_bool, isB_dict_int, isB_dict_str, isB_dict_tuple, isB_dict_list, isB_dict_dict, isC_bool, isC_int, isC_str, isC_tuple, isC_list, isC_dict, isA_list_tuple, isQ_NoneType, isQ_bool, isQ_int, isQ_str, isQ_tuple, isQ_list, isQ_dict, true_and, and_true, ↓reduceIte, Bool.not_true, Bool.not_false, Bool.false_eq_true, Bool.true_xor, Bool.false_xor, decide_true]
  all_goals exact fin_of q
theorem ok__law_like {P : Program} {w : World} {K : PySem.W.Frag} {mg : Str → Option Value} {base : Heap} {A : Ad} (T : Txt K mg A) : ∀ n, FnJ P w K mg base (1 + n) A.f__law_like (sp__law_like A n)
  | 0 => FnJ.mkAt (k := 0) (wb := wNever) T.d__law_like sc__law_like (fun cdv R outer s H E hr tk => jss_never) (fun _ _ _ _ h => h.elim)
  | n + 1 => FnJ.mkAt (k := 1 + n) T.d__law_like sc__law_like (fun cdv R outer s H E hr tk => bd__law_like T n (ok__law_like T n) cdv R outer s H E hr tk) (rd__law_like A n)

/-! ### texts of signs -/
abbrev sgS (c : Nat) : Str := ⟨#[c]⟩
abbrev sg (c : Nat) : D := .str (sgS c)
theorem cut_take {z : Str} {k : Nat} (h : k ≤ z.length) : cutS z none (some (k : Int)) = ⟨(z.cps.toList.take k).toArray⟩ := by
  unfold cutS
  rw [HT.sIx_none, HT.sIx_nat, Nat.min_eq_left h, List.drop_zero, Nat.sub_zero]
theorem cut_drop {z : Str} {k : Nat} (h : k ≤ z.length) : cutS z (some (k : Int)) none = ⟨(z.cps.toList.drop k).toArray⟩ := by
  unfold cutS
  rw [HT.sIx_none, HT.sIx_nat, Nat.min_eq_left h, List.take_of_length_le]
  rw [List.length_drop]
  exact Nat.le_refl _
theorem len_mk {l : List Nat} : (⟨l.toArray⟩ : Str).length = l.length := List.size_toArray
theorem len_sg {c : Nat} : (sgS c).length = 1 := rfl
theorem app_cps {x y : Str} : (x ++ y).cps.toList = x.cps.toList ++ y.cps.toList := by
  show (x.cps ++ y.cps).toList = _
  rw [Array.toList_append]
theorem app_len {x y : Str} : (x ++ y).length = x.length + y.length := Array.size_append
theorem cps_len {x : Str} : x.cps.toList.length = x.length := Array.length_toList
theorem join_sgs : ∀ cs : List Nat, Txt.join ("" : Str) (cs.map sgS) = ⟨cs.toArray⟩ := by
  have key : ∀ cs : List Nat, Str.join ("" : Str) (cs.map sgS) = ⟨cs.toArray⟩ := by
    intro cs
    induction cs with
    | nil => rfl
    | cons c cs ih =>
      cases cs with
      | nil => rfl
      | cons d ds =>
        have e : Str.join ("" : Str) ((c :: d :: ds).map sgS) = sgS c ++ ("" : Str) ++ Str.join ("" : Str) ((d :: ds).map sgS) := rfl
        rw [e, ih]
        have e0 : ("" : Str) = ⟨#[]⟩ := by decide +kernel
        rw [e0]
        show (⟨(#[c] ++ #[]) ++ (d :: ds).toArray⟩ : Str) = _
        congr 1
        simp
  intro cs
  exact Eq.trans (StrLaws.glued_eq_join _ _) (key cs)
theorem all_in_iff {x L : Str} : allIn x L = true ↔ ∀ c ∈ x.cps.toList, c ∈ L.cps.toList := by
  unfold allIn
  rw [List.all_eq_true]
  exact ⟨fun h c hc => of_decide_eq_true (h c hc), fun h c hc => decide_eq_true (h c hc)⟩
/-- N is M with some bag -/
def Bgd (M : Mem) (b : Addr) (N : Mem) : Prop := ∃ o, Bg o ∧ N = mput M b o
theorem bgd_put {M N : Mem} {b : Addr} {o : MO} (h : Bgd M b N) (g : Bg o) : Bgd M b (mput N b o) := by
  obtain ⟨u, _, e⟩ := h
  exact ⟨o, g, by rw [e, mput_mput]⟩
theorem bgd_at {M N : Mem} {b : Addr} (h : Bgd M b N) : ∃ o, N b = some o ∧ Bg o := by
  obtain ⟨u, g, e⟩ := h
  exact ⟨u, by rw [e, mput_same], g⟩
theorem bgd_rfl {M : Mem} {b : Addr} {o : MO} (h : M b = some o) (g : Bg o) : Bgd M b M := ⟨o, g, by
  funext c
  by_cases e : c = b
  · subst e; rw [mput_same, h]
  · rw [mput_ne e]⟩
theorem bgd_trans {M N N' : Mem} {b : Addr} (h : Bgd M b N) (h' : Bgd N b N') : Bgd M b N' := by
  obtain ⟨u, _, e⟩ := h
  obtain ⟨u', g, e'⟩ := h'
  exact ⟨u', g, by rw [e', e, mput_mput]⟩
/-- pull, with the memory behind it -/
theorem pull_b (A : Ad) {b : Addr} {many : Int} {M N : Mem} {Q : KN} {Xc : KX} (hb : Bgd M b N) (h1 : 0 < many) (h2 : many < 1000000)
    (q : ∀ v : Nat, (v : Int) < many → ∀ N', Bgd M b N' → Bgd N b N' → Q (.int v) N') : sp__law_pull A [.ref b, .int many] N Q Xc := by
  obtain ⟨o, e, g⟩ := bgd_at hb
  exact pull_of A e g h1 h2 fun v hv o' ho => q v hv _ (bgd_put hb ho) ⟨o', ho, rfl⟩
theorem rng_len (lo : Int) (n : Nat) : (rngD lo n).length = n := by unfold rngD; rw [List.length_map, List.length_range]
/-- the signs popped: unlike ones of the letters -/
theorem pops (A : Ad) {b al : Addr} {M N : Mem} {ds : SD} {k p : Nat} {ls : List Nat} {K : List D → Mem → Prop} (hab : al ≠ b) (hb : Bgd M b N) (hal : N al = some (.lst (ls.map sg))) (hnd : ls.Nodup) (hlen : ls.length < 100)
    (h0 : ∀ x : D, (ds.set k (some x))[0]? = some (some (.ref b))) (hp : ∀ x : D, (ds.set k (some x))[p]? = some (some (.ref al))) (items : List D) (hit : items.length ≤ ls.length)
    (q : ∀ (cs ls' : List Nat) N', cs.length = items.length → cs.Nodup → (∀ c ∈ cs, c ∈ ls) → (∃ o u, Bg o ∧ N' = mput (mput M b o) al u) → K (cs.map sg) N') :
    lcR (gN k) wYes (wBM "list" rPopD (wVar p) (wCons (wCall (sp__law_pull A) (wCons (wVar 0) (wCons (wCB rLenD (wCons (wVar p) wNil)) wNil))) wNil)) ds items [] N K := by
  have big := sizeLine_big
  refine lcR_ind (fun its acc N' => ∃ (cs ls' : List Nat) (o : MO), acc = cs.map sg ∧ N' al = some (.lst (ls'.map sg)) ∧ N' b = some o ∧ Bg o ∧ (∀ c, c ≠ al → c ≠ b → N' c = M c) ∧ (cs ++ ls').Perm ls ∧ cs.length + its.length = items.length) ?_ ?_ items [] N ?_
  · rintro acc N' ⟨cs, ls', o, rfl, h1, h2, g, h3, hpm, hl⟩
    have nd : (cs ++ ls').Nodup := hpm.nodup_iff.mpr hnd
    refine q cs ls' N' (by simpa using hl) (List.nodup_append.mp nd).1 (fun c hc => hpm.mem_iff.mp (List.mem_append_left _ hc)) ⟨o, .lst (ls'.map sg), g, ?_⟩
    funext c
    by_cases e : c = al
    · subst e; rw [mput_same, h1]
    · rw [mput_ne e]
      by_cases e2 : c = b
      · subst e2; rw [mput_same, h2]
      · rw [mput_ne e2, h3 c e e2]
  · rintro d its acc N' R hR ⟨cs, ls', o, rfl, h1, h2, g, h3, hpm, hl⟩
    have hl' : cs.length + ls'.length = ls.length := by rw [← hpm.length_eq, List.length_append]
    rw [List.length_cons] at hl
    simp only [gN, wYes, wBM, wVar, h0, hp, wGet, wCons, wNil, wCall, wCB, rLenD, seqOf_own h1, optK_some, ↓reduceIte]
    refine ⟨tyD_own h1, pull_of A h2 g (by rw [List.length_map]; omega) (by rw [List.length_map]; omega) fun v hv o' ho => ?_⟩
    rw [List.length_map] at hv
    have hv' : v < ls'.length := by omega
    have h1' : mput N' b o' al = some (.lst (ls'.map sg)) := by rw [mput_ne hab]; exact h1
    refine popAt_own h1' (y := sg ls'[v]) (by rw [List.getElem?_map, List.getElem?_eq_getElem hv']; rfl) (by rw [List.length_map]; omega) ⟨by rw [List.length_map]; omega, hR _ _ ⟨cs ++ [ls'[v]], ls'.eraseIdx v, o', ?_, ?_, ?_, ho, fun c c1 c2 => ?_, ?_, ?_⟩⟩
    · rw [List.map_append]; rfl
    · rw [mput_same, List.eraseIdx_eq_take_drop_succ, List.eraseIdx_eq_take_drop_succ, List.map_append, List.map_take, List.map_drop]
    · rw [mput_ne hab.symm, mput_same]
    · rw [mput_ne c1, mput_ne c2]; exact h3 c c1 c2
    · refine List.Perm.trans ?_ hpm
      rw [List.append_assoc]
      refine List.Perm.append_left _ ?_
      have e : ls' = ls'.take v ++ ls'[v] :: ls'.drop (v + 1) := by rw [List.getElem_cons_drop, List.take_append_drop]
      rw [List.eraseIdx_eq_take_drop_succ]
      conv => rhs; rw [e]
      exact (List.perm_middle (l₁ := ls'.take v) (a := ls'[v]) (l₂ := ls'.drop (v + 1))).symm
    · rw [List.length_append, List.length_singleton]; omega
  · obtain ⟨o, e, g⟩ := bgd_at hb
    refine ⟨[], ls, o, rfl, hal, e, g, fun c c1 c2 => ?_, by rw [List.nil_append], by simp⟩
    obtain ⟨u, _, eq⟩ := hb
    rw [eq, mput_ne c2]
/-- ''.join([letters[pull(..)] ..]): some letters -/
theorem stems_b (A : Ad) {b : Addr} {M N : Mem} {ds : SD} {k p : Nat} {L : Str} {n : Nat} {K : List D → Mem → Prop} (hb : Bgd M b N) (hL : L.length = n) (h0n : 0 < n) (hn : n < 100)
    (h0 : ∀ x : D, (ds.set k (some x))[0]? = some (some (.ref b))) (hp : ∀ x : D, (ds.set k (some x))[p]? = some (some (.str L))) (items : List D) (hit : items.length < 90000)
    (q : ∀ (cs : List Nat) N', cs.length = items.length → (∀ c ∈ cs, c ∈ L.cps.toList) → Bgd M b N' → K (cs.map sg) N') :
    lcR (gN k) wYes (wOp rIxD (wVar p) (wCall (sp__law_pull A) (wCons (wVar 0) (wCons (wC (.int n)) wNil)))) ds items [] N K := by
  have big := sizeLine_big
  refine lcR_ind (fun its acc N' => ∃ cs : List Nat, acc = cs.map sg ∧ Bgd M b N' ∧ (∀ c ∈ cs, c ∈ L.cps.toList) ∧ cs.length + its.length = items.length) ?_ ?_ items [] N ⟨[], rfl, hb, by simp, by simp⟩
  · rintro acc N' ⟨cs, rfl, h1, h2, h3⟩
    exact q cs N' (by simpa using h3) h2 h1
  · rintro d its acc N' R hR ⟨cs, rfl, h1, h2, h3⟩
    rw [List.length_cons] at h3
    simp only [gN, wYes, wOp, wVar, h0, hp, wGet, wCons, wNil, wCall, wC, ↓reduceIte]
    refine pull_b A h1 (by omega) (by omega) fun v hv N2 g _ => ?_
    have hv' : v < L.cps.toList.length := by rw [cps_len]; omega
    simp only [rIxD, atI_nat, List.getElem?_eq_getElem hv', optK_some]
    refine ⟨by omega, by rw [List.length_map]; omega, hR _ _ ⟨cs ++ [L.cps.toList[v]], by rw [List.map_append]; rfl, g, fun c hc => ?_, by rw [List.length_append, List.length_singleton]; omega⟩⟩
    rcases List.mem_append.mp hc with hc | hc
    · exact h2 c hc
    · rw [List.mem_singleton.mp hc]; exact List.getElem_mem hv'
/-- x has the sign c at its place -/
structure Sig (L : Str) (k c : Nat) (x : Str) : Prop where
  at_ : x.cps.toList[k]? = some c
  len : x.length ≤ 8
  ok : allIn x L = true
theorem Sig.made {L : Str} {k c : Nat} {x : Str} (h : Sig L k c x) : madeOf L 8 (.str x) = true := by
  have e : madeOf L 8 (.str x) = (decide ((1 : Int) ≤ x.length) && (decide ((x.length : Int) ≤ 8) && allIn x L)) := rfl
  have h1 : 1 ≤ x.length := by
    rw [← cps_len]
    have := (List.getElem?_eq_some_iff.mp h.at_).1
    omega
  have h2 := h.len
  rw [e, h.ok, decide_eq_true (by omega), decide_eq_true (by omega)]
  rfl
theorem sig_of {L : Str} {pre rest : List Nat} {c : Nat} (h1 : ∀ z ∈ pre, z ∈ L.cps.toList) (h2 : c ∈ L.cps.toList) (h3 : ∀ z ∈ rest, z ∈ L.cps.toList) (hl : pre.length + 1 + rest.length ≤ 8) :
    Sig L pre.length c (⟨pre.toArray⟩ ++ sgS c ++ ⟨rest.toArray⟩) := by
  have e : ((⟨pre.toArray⟩ ++ sgS c ++ ⟨rest.toArray⟩ : Str)).cps.toList = pre ++ [c] ++ rest := by rw [app_cps, app_cps]
  refine ⟨?_, ?_, ?_⟩
  · rw [e, List.append_assoc, List.getElem?_append_right (Nat.le_refl _), Nat.sub_self]
    rfl
  · rw [app_len, app_len, len_mk, len_sg, len_mk]
    omega
  · rw [all_in_iff, e]
    intro z hz
    rcases List.mem_append.mp hz with hz | hz
    · rcases List.mem_append.mp hz with hz | hz
      · exact h1 z hz
      · rw [List.mem_singleton.mp hz]; exact h2
    · exact h3 z hz
/-- the names: each with its own sign at the same place -/
theorem found_b (A : Ad) {b : Addr} {M N : Mem} {ds : SD} {kv ps pa pt pe : Nat} {L : Str} {stem : List Nat} {at' : Nat} {ev : Int} {cs : List Nat} {K : List D → Mem → Prop} (hb : Bgd M b N)
    (hst : ∀ c ∈ stem, c ∈ L.cps.toList) (hsl : stem.length ≤ 7) (hat : at' ≤ stem.length) (hcs : ∀ c ∈ cs, c ∈ L.cps.toList) (hcl : cs.length < 1000)
    (h0 : ∀ x : D, (ds.set kv (some x))[0]? = some (some (.ref b))) (hk : ∀ x : D, (ds.set kv (some x))[kv]? = some (some x)) (h1 : ∀ x : D, (ds.set kv (some x))[ps]? = some (some (.str ⟨stem.toArray⟩)))
    (h2 : ∀ x : D, (ds.set kv (some x))[pa]? = some (some (.int (at' : Int)))) (h3 : ∀ x : D, (ds.set kv (some x))[pt]? = some (some (.str ⟨(stem.drop at').toArray⟩))) (h4 : ∀ x : D, (ds.set kv (some x))[pe]? = some (some (.int ev)))
    (q : ∀ (pr : List (Nat × Str)) N', pr.map (·.1) = cs → (∀ p ∈ pr, Sig L at' p.1 p.2) → Bgd M b N' → K (pr.map fun p => .str p.2) N') :
    lcR (gN kv) wYes (wOp rAddD (wOp rAddD (wSl (wVar ps) wNo (wSome (wVar pa))) (wVar kv)) (wIfE (wTest (wOp (rEqD false) (wVar pe) (wC (.int 0)))) (wVar pt) (wSl (wVar pt) wNo (wSome (wCall (sp__law_pull A) (wCons (wVar 0) (wCons (wOp rAddD (wCB rLenD (wCons (wVar pt) wNil)) (wC (.int 1))) wNil))))))) ds (cs.map sg) [] N K := by
  have big := sizeLine_big
  refine lcR_ind (fun its acc N' => ∃ (pr : List (Nat × Str)) (r : List Nat), acc = (pr.map fun p => D.str p.2) ∧ its = r.map sg ∧ pr.map (·.1) ++ r = cs ∧ (∀ p ∈ pr, Sig L at' p.1 p.2) ∧ Bgd M b N') ?_ ?_ (cs.map sg) [] N ⟨[], cs, rfl, rfl, rfl, by simp, hb⟩
  · rintro acc N' ⟨pr, r, rfl, e, e2, g1, g2⟩
    have e3 : r = [] := List.map_eq_nil_iff.mp e.symm
    subst e3
    exact q pr N' (by rw [← e2, List.append_nil]) g1 g2
  · rintro d its acc N' R hR ⟨pr, r, rfl, e, e2, g1, g2⟩
    cases r with
    | nil => cases e
    | cons c r =>
      cases e
      have hc : c ∈ L.cps.toList := hcs c (by rw [← e2]; simp)
      have hl : (pr.map fun p => D.str p.2).length < sizeLine := by
        have e5 := congrArg List.length e2
        rw [List.length_append, List.length_map] at e5
        rw [List.length_map]
        omega
      have c1 : cutS ⟨stem.toArray⟩ none (some (at' : Int)) = ⟨(stem.take at').toArray⟩ := cut_take (by rw [len_mk]; exact hat)
      have tl : (stem.take at').length = at' := List.length_take_of_le hat
      have dl : (stem.drop at').length = stem.length - at' := List.length_drop
      have l1 : (⟨(stem.take at').toArray⟩ : Str).length + (sgS c).length ≤ sizeLine := by rw [len_mk, len_sg, tl]; omega
      have fin : ∀ (rest : List Nat) N2, (∀ z ∈ rest, z ∈ L.cps.toList) → at' + 1 + rest.length ≤ 8 → Bgd M b N2 → ((⟨(stem.take at').toArray⟩ ++ sgS c : Str).length + (⟨rest.toArray⟩ : Str).length ≤ sizeLine ∧
          (pr.map fun p => D.str p.2).length < sizeLine ∧ R ((pr.map fun p => D.str p.2) ++ [D.str (⟨(stem.take at').toArray⟩ ++ sgS c ++ ⟨rest.toArray⟩)]) N2) := fun rest N2 hr hl2 g => by
        refine ⟨by rw [app_len, len_mk, len_sg, len_mk, tl]; omega, hl, hR _ _ ⟨pr ++ [(c, ⟨(stem.take at').toArray⟩ ++ sgS c ++ ⟨rest.toArray⟩)], r, by rw [List.map_append]; rfl, rfl, by rw [List.map_append, ← e2]; simp, fun p hp => ?_, g⟩⟩
        rcases List.mem_append.mp hp with hp | hp
        · exact g1 p hp
        · rw [List.mem_singleton.mp hp]
          have s := sig_of (L := L) (pre := stem.take at') (rest := rest) (c := c) (fun z hz => hst z (List.mem_of_mem_take hz)) hc hr (by rw [tl]; omega)
          rw [tl] at s
          exact s
      simp only [gN, wYes, wOp, wSl, wNo, wSome, intK, wIfE, wTest, isBl, wVar, h0, h1, h2, h3, h4, hk, wGet, wCons, wNil, wCall, wC, wCB, rSlD, c1, rAddD, rEqD, rLenD, ↓reduceIte, Bool.false_xor]
      refine ⟨by rw [len_mk]; omega, l1, ?_⟩
      by_cases hev : ev = 0
      · rw [if_pos (decide_eq_true hev)]
        exact fin _ _ (fun z hz => hst z (List.mem_of_mem_drop hz)) (by omega) g2
      · rw [if_neg (by simp [hev])]
        refine ⟨by rw [len_mk]; omega, pull_b A g2 (by omega) (by rw [len_mk]; omega) fun v hv N2 g _ => ?_⟩
        rw [len_mk] at hv
        have c2 : cutS ⟨(stem.drop at').toArray⟩ none (some (v : Int)) = ⟨((stem.drop at').take v).toArray⟩ := cut_take (by rw [len_mk]; omega)
        simp only [c2]
        refine ⟨by rw [len_mk]; omega, fin _ _ (fun z hz => hst z (List.mem_of_mem_drop (List.mem_of_mem_take hz))) ?_ g⟩
        rw [List.length_take]
        omega

end DL.K09
namespace DL.K09
open PySem PySem.Spec PyProof.Rows L2 RZ
theorem let_len : LET.cps.toList.length = 26 := by decide +kernel
theorem let_nd : LET.cps.toList.Nodup := by decide +kernel
theorem l36_len : L36.cps.toList.length = 36 := by decide +kernel
theorem l36_nd : L36.cps.toList.Nodup := by decide +kernel
def sp__law_stems (A : Ad) : SpD := fun ds M Q _ => ∃ b many o, ds = [.ref b, .int many, .int 8] ∧ M b = some o ∧ Bg o ∧ 1 ≤ many ∧ many ≤ 5 ∧ ∀ names, NamesOk names → (names.length : Int) = many → OwnOk names → ∀ o', Bg o' → Q (.lst (names.map D.str)) (mput M b o')
def wb__law_stems_c3 (A : Ad) : WS :=
  (wRet (wLc (wiSeq (wVar 10)) (gN 13) wYes (wIfE (wTest (wOp (rInD false) (wVar 13) (wTup (wCons (wC (.str "moment")) (wCons (wC (.str "source")) wNil))))) (wOp rAddD (wVar 13) (wC (.str "a"))) (wVar 13)) [13]))
def wb__law_stems_c2 (A : Ad) : WS :=
  (wSeq (wAsg (wLc (wiSeq (wVar 5)) (gN 11) wYes (wOp rAddD (wOp rAddD (wSl (wVar 6) wNo (wSome (wVar 7))) (wVar 11)) (wIfE (wTest (wOp (rEqD false) (wVar 9) (wC (.int 0)))) (wVar 8) (wSl (wVar 8) wNo (wSome (wCall (sp__law_pull A) (wCons (wVar 0) (wCons (wOp rAddD (wCB rLenD (wCons (wVar 8) wNil)) (wC (.int 1))) wNil))))))) [11]) (gN 10))
  (wb__law_stems_c3 A))
def wb__law_stems_c1 (A : Ad) : WS :=
  (wSeq (wAsg (wCall (sp__law_pull A) (wCons (wVar 0) (wCons (wOp rAddD (wCB rLenD (wCons (wVar 6) wNil)) (wC (.int 1))) wNil))) (gN 7))
  (wSeq (wAsg (wTup (wCons (wSl (wVar 6) (wSome (wVar 7)) wNo) (wCons (wCall (sp__law_pull A) (wCons (wVar 0) (wCons (wC (.int 2)) wNil))) wNil))) (gT 2 (gCons' (gN 8) (gCons' (gN 9) gNil'))))
  (wb__law_stems_c2 A)))
def wb__law_stems_c0 (A : Ad) : WS :=
  (wSeq (wAsg (wBM "str" rJoinD (wC (.str "")) (wCons (wLc (wiRng1 (wCons (wCall (sp__law_pull A) (wCons (wVar 0) (wCons (wVar 2) wNil))) wNil)) (gN 12) wYes (wOp rIxD (wVar 3) (wCall (sp__law_pull A) (wCons (wVar 0) (wCons (wC (.int 26)) wNil)))) [12]) wNil)) (gN 6))
  (wb__law_stems_c1 A))
def wb__law_stems_c4 (A : Ad) : WS :=
  (wSeq (wAsg (wLcO (wiStr (wVar 3)) (gN 11) wYes (wVar 11) [11]) (gN 4))
  (wSeq (wAsg (wLc (wiRng1 (wCons (wVar 1) wNil)) (gN 12) wYes (wBM "list" rPopD (wVar 4) (wCons (wCall (sp__law_pull A) (wCons (wVar 0) (wCons (wCB rLenD (wCons (wVar 4) wNil)) wNil))) wNil)) [12]) (gN 5))
  (wb__law_stems_c0 A)))
def wb__law_stems (A : Ad) : WS :=
  (wSeq (wAsg (wC (.str "abcdefghijklmnopqrstuvwxyz")) (gN 3))
  (wb__law_stems_c4 A))
theorem bd__law_stems {P : Program} {w : World} {K : PySem.W.Frag} {mg : Str → Option Value} {base : Heap} {A : Ad} (T : Txt K mg A) (cdv : Value) (R : Around) (outer : List Env) (s : Shared) (H : Hp) (E : XK) (hr : Room 1 (R.deeper (envOfC "_law_stems" (defScope s__law_stems) s.heap.objs.size A.f__law_stems cdv)))
    (tk : Takes (cxOf (L2.CX P w) P w K mg base N__law_stems "_law_stems" (defScope s__law_stems) A.f__law_stems cdv R outer s H E) (WD E)) : JSs (cxOf (L2.CX P w) P w K mg base N__law_stems "_law_stems" (defScope s__law_stems) A.f__law_stems cdv R outer s H E) (WD E) (defBody s__law_stems) (wb__law_stems A) :=
  (js_cons (js_set (i := 3) sc__law_stems.nd j_str)
  (js_cons (js_set (i := 4) sc__law_stems.nd (j_lcO (own := [("_law_sign", 11)]) rfl sc__law_stems.nd (ji_str (jv 3)) (blkOk_by (own := [("_law_sign", 11)]) (N := N__law_stems) (sc := defScope s__law_stems) (by decide +kernel)) (fun _ _ _ _ _ => (jg_name (i := 11) sc__law_stems.nd)) (fun _ _ _ _ _ => jts_nil) (fun _ _ _ _ _ => (jv 11))))
  (js_cons (js_setLc (own := [("_law_k", 12)]) rfl sc__law_stems.nd (ji_rng1 T.n_range (j_cons (jv 1) j_nil)) (blkOk_by (own := [("_law_k", 12)]) (N := N__law_stems) (sc := defScope s__law_stems) (by decide +kernel)) (fun _ _ _ _ _ => (jg_name (i := 12) sc__law_stems.nd)) (fun _ _ _ _ _ => jts_nil) (fun _ _ _ _ _ => (j_bm PySem.F.plainAttrs_list PySem.F.slot_list_pop PySem.F.type_list_pop md_pop (jv 4) (j_cons (j_call (ok__law_pull T) hr (by decide) T.g__law_pull tkF (j_cons (jv 0) (j_cons (j_callB cd_len T.n_len bo_len (j_cons (jv 4) j_nil)) j_nil))) j_nil))))
  (js_cons (js_set (i := 6) sc__law_stems.nd (j_bm PySem.F.plainAttrs_str PySem.F.slot_str_join PySem.F.type_str_join md_join j_str (j_cons (j_lc (own := [("_law_k", 12)]) rfl sc__law_stems.nd (ji_rng1 T.n_range (j_cons (j_call (ok__law_pull T) hr (by decide) T.g__law_pull tk (j_cons (jv 0) (j_cons (jv 2) j_nil))) j_nil)) (blkOk_by (own := [("_law_k", 12)]) (N := N__law_stems) (sc := defScope s__law_stems) (by decide +kernel)) (fun _ _ _ _ _ => (jg_name (i := 12) sc__law_stems.nd)) (fun _ _ _ _ _ => jts_nil) (fun _ _ _ _ _ => (j_ix id_ix (jv 3) (j_call (ok__law_pull T) hr (by decide) T.g__law_pull tkF (j_cons (jv 0) (j_cons j_int j_nil)))))) j_nil)))
  (js_cons (js_set (i := 7) sc__law_stems.nd (j_call (ok__law_pull T) hr (by decide) T.g__law_pull tk (j_cons (jv 0) (j_cons (j_op od_add (j_callB cd_len T.n_len bo_len (j_cons (jv 6) j_nil)) j_int) j_nil))))
  (js_cons (js_asg (j_tup (j_cons (j_sl (jv 6) (jo_some (jv 7)) jo_none) (j_cons (j_call (ok__law_pull T) hr (by decide) T.g__law_pull tk (j_cons (jv 0) (j_cons j_int j_nil))) j_nil))) (jg_tup rfl (jgs_cons (jg_name (i := 8) sc__law_stems.nd) (jgs_cons (jg_name (i := 9) sc__law_stems.nd) jgs_nil))))
  (js_cons (js_setLc (own := [("_law_sign", 11)]) rfl sc__law_stems.nd (ji_seq (jv 5)) (blkOk_by (own := [("_law_sign", 11)]) (N := N__law_stems) (sc := defScope s__law_stems) (by decide +kernel)) (fun _ _ _ _ _ => (jg_name (i := 11) sc__law_stems.nd)) (fun _ _ _ _ _ => jts_nil) (fun _ _ _ _ _ => (j_op od_add (j_op od_add (j_sl (jv 6) jo_none (jo_some (jv 7))) (jv 11)) (j_if (jt_cmp (od_eq hr.units) (jv 9) j_int) (jv 8) (j_sl (jv 8) jo_none (jo_some (j_call (ok__law_pull T) hr (by decide) T.g__law_pull tkF (j_cons (jv 0) (j_cons (j_op od_add (j_callB cd_len T.n_len bo_len (j_cons (jv 8) j_nil)) j_int) j_nil)))))))))
  (js_one (js_ret (j_lc (own := [("_law_name", 13)]) rfl sc__law_stems.nd (ji_seq (jv 10)) (blkOk_by (own := [("_law_name", 13)]) (N := N__law_stems) (sc := defScope s__law_stems) (by decide +kernel)) (fun _ _ _ _ _ => (jg_name (i := 13) sc__law_stems.nd)) (fun _ _ _ _ _ => jts_nil) (fun _ _ _ _ _ => (j_if (jt_cmp od_in (jv 13) (j_tup (j_cons j_str (j_cons j_str j_nil)))) (j_op od_add (jv 13) j_str) (jv 13)))))))))))))
/-- names told apart by their sign at one place -/
structure Nms (n k : Nat) (pr : List (Nat × Str)) : Prop where
  nd : (pr.map (·.1)).Nodup
  ok : ∀ p ∈ pr, Sig LET k p.1 p.2
  len : pr.length = n
theorem sig_inj {L : Str} {k : Nat} {pr : List (Nat × Str)} (nd : (pr.map (·.1)).Nodup) (ok : ∀ p ∈ pr, Sig L k p.1 p.2) : (pr.map (·.2)).Nodup := by
  have key : (pr.map (·.2)).map (fun x => x.cps.toList[k]?) = (pr.map (·.1)).map some := by
    rw [List.map_map, List.map_map]
    exact List.map_congr_left fun p hp => (ok p hp).at_
  have h2 : ((pr.map (·.1)).map some).Nodup := List.Pairwise.map _ (fun a b h e => h (Option.some.inj e)) nd
  rw [← key] at h2
  exact List.Pairwise.of_map _ (fun a b h e => h (by rw [e])) h2
/-- a name that a sheet's own columns have gets one more sign -/
def fixN (x : Str) : Str := if x = ("moment" : Str) ∨ x = ("source" : Str) then x ++ ("a" : Str) else x
theorem fix_sig {k c : Nat} {x : Str} (h : Sig LET k c x) : Sig LET k c (fixN x) ∧ fixN x ≠ ("moment" : Str) ∧ fixN x ≠ ("source" : Str) := by
  unfold fixN
  by_cases e : x = ("moment" : Str) ∨ x = ("source" : Str)
  · rw [if_pos e]
    have hl : x.length = 6 := by rcases e with e | e <;> rw [e] <;> decide +kernel
    have hk := (List.getElem?_eq_some_iff.mp h.at_).1
    refine ⟨⟨?_, ?_, ?_⟩, ?_⟩
    · rw [app_cps, List.getElem?_append_left hk]; exact h.at_
    · rw [app_len, hl]; decide +kernel
    · rw [all_in_iff, app_cps]
      intro z hz
      rcases List.mem_append.mp hz with hz | hz
      · exact all_in_iff.mp h.ok z hz
      · have e2 : (("a" : Str)).cps.toList = [97] := by decide +kernel
        rw [e2] at hz
        rw [List.mem_singleton.mp hz]
        decide +kernel
    · rcases e with e | e <;> rw [e] <;> exact ⟨by decide +kernel, by decide +kernel⟩
  · rw [if_neg e]
    exact ⟨h, fun q => e (.inl q), fun q => e (.inr q)⟩
theorem stems_c3 (A : Ad) {b : Addr} {N : Mem} {E : ED} {ds : SD} {k n : Nat} {pr : List (Nat × Str)} (hd : ds.length = 14) (h10 : ds[10]? = some (some (.lst (pr.map fun p => D.str p.2)))) (hp : Nms n k pr) (h1 : 1 ≤ n) (h5 : n ≤ 5)
    (q : ∀ names, NamesOk names → names.length = n → OwnOk names → E.rt (.lst (names.map D.str)) N) : wb__law_stems_c3 A E ds N := by
  have big := sizeLine_big
  simp only [wb__law_stems_c3, wRet, wLc, wiSeq, wVar, h10, wGet, frz_lst, optK_some]
  refine lcR_mapL (fun p : Nat × Str => D.str p.2) (fun p => D.str (fixN p.2)) (fun _ => True) (fun p acc R _ h => ?_) pr [] (fun _ _ => trivial) (by rw [hp.len]; simp only [List.length_nil]; omega) ?_
  · have hk : (((wipeD ds [13]).set 13 (some (.str p.2))))[13]? = some (some (.str p.2)) := by
      rw [List.getElem?_set_self]
      rw [wipeD_len, hd]
      decide
    have e : inD (.str p.2) [.str "moment", .str "source"] = decide (p.2 = ("moment" : Str) ∨ p.2 = ("source" : Str)) := by
      have e2 := inD_strs (x := p.2) [("moment" : Str), ("source" : Str)]
      rw [show inD (.str p.2) [.str "moment", .str "source"] = inD (.str p.2) ([("moment" : Str), ("source" : Str)].map D.str) from rfl, e2]
      simp only [List.any_cons, List.any_nil, Bool.or_false, Bool.decide_or, eq_comm]
    simp only [gN, wYes, wIfE, wTest, wOp, wVar, hk, wGet, wTup, wCons, wNil, wC, rInD, seqOf_tup, optK_some, e, isBl, ↓reduceIte, Bool.false_xor]
    refine ⟨by simp only [List.length_cons, List.length_nil]; omega, rfl, rfl, ?_⟩
    unfold fixN at h
    by_cases c : p.2 = ("moment" : Str) ∨ p.2 = ("source" : Str)
    · rw [if_pos (decide_eq_true c)]
      rw [if_pos c] at h
      simp only [rAddD]
      have hl : p.2.length = 6 := by rcases c with e | e <;> rw [e] <;> decide +kernel
      refine ⟨?_, h⟩
      rw [hl]
      have : (("a" : Str)).length = 1 := by decide +kernel
      omega
    · rw [if_neg (by simpa using c)]
      rw [if_neg c] at h
      exact h
  · rw [List.nil_append]
    have e : (pr.map fun p => D.str (fixN p.2)) = ((pr.map fun p => (p.1, fixN p.2)).map (·.2)).map D.str := by rw [List.map_map, List.map_map]; rfl
    rw [e]
    have hs : ∀ p ∈ pr.map (fun p => (p.1, fixN p.2)), Sig LET k p.1 p.2 := fun p hp' => by
      obtain ⟨r, hr, rfl⟩ := List.mem_map.mp hp'
      exact (fix_sig (hp.ok r hr)).1
    have hf : ((pr.map fun p => (p.1, fixN p.2)).map (·.1)) = pr.map (·.1) := by rw [List.map_map]; rfl
    refine q _ ⟨?_, ?_, sig_inj (k := k) (by rw [hf]; exact hp.nd) hs, fun x hx => ?_⟩ ?_ ⟨fun hm => ?_, fun hm => ?_⟩
    · rw [List.length_map, List.length_map, hp.len]; exact h1
    · rw [List.length_map, List.length_map, hp.len]; exact h5
    · obtain ⟨r, hr, rfl⟩ := List.mem_map.mp hx
      exact (hs r hr).made
    · rw [List.length_map, List.length_map, hp.len]
    · rw [List.map_map] at hm
      obtain ⟨r, hr, e⟩ := List.mem_map.mp hm
      exact (fix_sig (hp.ok r hr)).2.1 e
    · rw [List.map_map] at hm
      obtain ⟨r, hr, e⟩ := List.mem_map.mp hm
      exact (fix_sig (hp.ok r hr)).2.2 e
theorem stems_c2 (A : Ad) {b : Addr} {M N : Mem} {E : ED} {cs stem : List Nat} {at' : Nat} {ev : Int} {s1 s2 s3 s4 s10 s11 s12 s13 : Option D} (hb : Bgd M b N)
    (hst : ∀ c ∈ stem, c ∈ LET.cps.toList) (hsl : stem.length ≤ 7) (hat : at' ≤ stem.length) (hcs : ∀ c ∈ cs, c ∈ LET.cps.toList) (hnd : cs.Nodup) (h1 : 1 ≤ cs.length) (h5 : cs.length ≤ 5)
    (q : ∀ names, NamesOk names → names.length = cs.length → OwnOk names → ∀ N', Bgd M b N' → E.rt (.lst (names.map D.str)) N') :
    wb__law_stems_c2 A E [some (.ref b), s1, s2, s3, s4, some (.lst (cs.map sg)), some (.str ⟨stem.toArray⟩), some (.int (at' : Int)), some (.str ⟨(stem.drop at').toArray⟩), some (.int ev), s10, s11, s12, s13] N := by
  simp only [wb__law_stems_c2, wSeq_p, seqE_nx, seqE_rt, wAsg, wLc, wiSeq, wVar, wGet, List.getElem?_cons_zero, List.getElem?_cons_succ, frz_lst, optK_some]
  refine found_b A (L := LET) (stem := stem) (at' := at') (ev := ev) hb hst hsl hat hcs (by omega) (fun _ => rfl) (fun _ => rfl) (fun _ => rfl) (fun _ => rfl) (fun _ => rfl) (fun _ => rfl) fun pr N' e hs g => ?_
  exact stems_c3 A (b := b) (k := at') (n := cs.length) (pr := pr) rfl rfl ⟨by rw [e]; exact hnd, hs, by rw [← e, List.length_map]⟩ h1 h5 fun names o1 o2 o3 => q names o1 o2 o3 N' g
theorem stems_c1 (A : Ad) {b : Addr} {M N : Mem} {E : ED} {cs stem : List Nat} {s1 s2 s3 s4 s7 s8 s9 s10 s11 s12 s13 : Option D} (hb : Bgd M b N)
    (hst : ∀ c ∈ stem, c ∈ LET.cps.toList) (hsl : stem.length ≤ 7) (hcs : ∀ c ∈ cs, c ∈ LET.cps.toList) (hnd : cs.Nodup) (h1 : 1 ≤ cs.length) (h5 : cs.length ≤ 5)
    (q : ∀ names, NamesOk names → names.length = cs.length → OwnOk names → ∀ N', Bgd M b N' → E.rt (.lst (names.map D.str)) N') :
    wb__law_stems_c1 A E [some (.ref b), s1, s2, s3, s4, some (.lst (cs.map sg)), some (.str ⟨stem.toArray⟩), s7, s8, s9, s10, s11, s12, s13] N := by
  have big := sizeLine_big
  simp only [wb__law_stems_c1, wipeD, wNx, wSeq_p, seqE_nx, seqE_rt, seqE_bk, seqE_ct, seqE_ex, wIf, wRet, wRetN, wDrop, wAsg, wBrk, wCnt, wVar, wGet, wC, wOp, wUn, wCB, wNil, wCons, wTest, wAndT, wOrT, wNotT, wAndV, wOrV, wNotV, wIfE, wChain, wTup, wLst, wLstO, wCall, wMeth, wFld, wFst, wCv, wProp, wMake, wSl, wNo, wSome, intK, isBl, gN, gT, gCons', gNil', wSub, wAug, wPar, wBM, wIsT, wFor, wLc, wLcO, wYes, wiSeq, wiStr, wiRng1, wiRng2, wiZip, wFz, frz_lst, frz_tup, at1_0, at2_0, at2_1, at3_0, at3_1, at3_2, at4_0, at4_1, at4_2, at4_3, at5_0, at5_1, at5_2, at5_3, at5_4, seqOf_put, ED.xc, rIxD, rLenD, rIsD, rIntCD, rStrCD, rListD, rListO, rTupD, rAddD, rIntD, rInt0D, rEqD, rIsND, rNegD, rSlD, seqOf_lst, seqOf_tup, optK_some, insK_same, tyN_non, tyN_bl, tyN_int, tyN_str, tyN_tup, tyN_lst, tyN_dct, List.getElem?_cons_zero, List.getElem?_cons_succ, List.set_cons_zero, List.set_cons_succ, List.length_cons, List.length_nil, isB_NoneType_bool, isB_NoneType_int, isB_NoneType_str, isB_NoneType_tuple, isB_NoneType_list, isB_NoneType_dict, isB_bool_bool, isB_bool_int, isB_bool_str, isB_bool_tuple, isB_bool_list, isB_bool_dict, isB_int_bool, isB_int_int, isB_int_str, isB_int_tuple, isB_int_list, isB_int_dict, isB_str_bool, isB_str_int, isB_str_str, isB_str_tuple, isB_str_list, isB_str_dict, isB_tuple_bool, isB_tuple_int, isB_tuple_str, isB_tuple_tuple, isB_tuple_list, isB_tuple_dict, isB_list_bool, isB_list_int, isB_list_str, isB_list_tuple, isB_list_list, isB_list_dict, isB_dict_bool, isB_dict_int, isB_dict_str, isB_dict_tuple, isB_dict_list, isB_dict_dict, isC_bool, isC_int, isC_str, isC_tuple, isC_list, isC_dict, isA_list_tuple, isQ_NoneType, isQ_bool, isQ_int, isQ_str, isQ_tuple, isQ_list, isQ_dict, true_and, and_true, ↓reduceIte, Bool.not_true, Bool.not_false, Bool.false_eq_true, Bool.true_xor, Bool.false_xor]
  refine ⟨by rw [len_mk]; omega, pull_b A hb (by omega) (by rw [len_mk]; omega) fun v hv N1 g1 _ => ?_⟩
  rw [len_mk] at hv
  have c1 : cutS ⟨stem.toArray⟩ (some (v : Int)) none = ⟨(stem.drop v).toArray⟩ := cut_drop (by rw [len_mk]; omega)
  simp only [wipeD, wNx, wSeq_p, seqE_nx, seqE_rt, seqE_bk, seqE_ct, seqE_ex, wIf, wRet, wRetN, wDrop, wAsg, wBrk, wCnt, wVar, wGet, wC, wOp, wUn, wCB, wNil, wCons, wTest, wAndT, wOrT, wNotT, wAndV, wOrV, wNotV, wIfE, wChain, wTup, wLst, wLstO, wCall, wMeth, wFld, wFst, wCv, wProp, wMake, wSl, wNo, wSome, intK, isBl, gN, gT, gCons', gNil', wSub, wAug, wPar, wBM, wIsT, wFor, wLc, wLcO, wYes, wiSeq, wiStr, wiRng1, wiRng2, wiZip, wFz, frz_lst, frz_tup, at1_0, at2_0, at2_1, at3_0, at3_1, at3_2, at4_0, at4_1, at4_2, at4_3, at5_0, at5_1, at5_2, at5_3, at5_4, seqOf_put, ED.xc, rIxD, rLenD, rIsD, rIntCD, rStrCD, rListD, rListO, rTupD, rAddD, rIntD, rInt0D, rEqD, rIsND, rNegD, rSlD, seqOf_lst, seqOf_tup, optK_some, insK_same, tyN_non, tyN_bl, tyN_int, tyN_str, tyN_tup, tyN_lst, tyN_dct, List.getElem?_cons_zero, List.getElem?_cons_succ, List.set_cons_zero, List.set_cons_succ, List.length_cons, List.length_nil, isB_NoneType_bool, isB_NoneType_int, isB_NoneType_str, isB_NoneType_tuple, isB_NoneType_list, isB_NoneType_dict, isB_bool_bool, isB_bool_int, isB_bool_str, isB_bool_tuple, isB_bool_list, isB_bool_dict, isB_int_bool, isB_int_int, isB_int_str, isB_int_tuple, isB_int_list, isB_int_dict, isB_str_bool, isB_str_int, isB_str_str, isB_str_tuple, isB_str_list, isB_str_dict, isB_tuple_bool, isB_tuple_int, isB_tuple_str, isB_tuple_tuple, isB_tuple_list, isB_tuple_dict, isB_list_bool, isB_list_int, isB_list_str, isB_list_tuple, isB_list_list, isB_list_dict, isB_dict_bool, isB_dict_int, isB_dict_str, isB_dict_tuple, isB_dict_list, isB_dict_dict, isC_bool, isC_int, isC_str, isC_tuple, isC_list, isC_dict, isA_list_tuple, isQ_NoneType, isQ_bool, isQ_int, isQ_str, isQ_tuple, isQ_list, isQ_dict, true_and, and_true, ↓reduceIte, Bool.not_true, Bool.not_false, Bool.false_eq_true, Bool.true_xor, Bool.false_xor, c1]
  refine ⟨by rw [len_mk]; omega, pull_b A g1 (by omega) (by omega) fun ev hev N2 g2 _ => ?_⟩
  refine ⟨by omega, ?_⟩
  exact stems_c2 A (at' := v) (ev := ev) g2 hst hsl (by omega) hcs hnd h1 h5 q
theorem sgn_sg (x : Str) : sgnD x = x.cps.toList.map sg := rfl
theorem strs_sg (cs : List Nat) : strsD (cs.map sg) = some (cs.map sgS) := strsD_map sgS cs
theorem sum_sg : ∀ cs : List Nat, ((cs.map sgS).map (·.length)).sum = cs.length
  | [] => rfl
  | c :: cs => by
    simp only [List.map_cons, List.sum_cons, List.length_cons]
    rw [sum_sg cs, len_sg]
    omega
theorem stems_c0 (A : Ad) {b : Addr} {M N : Mem} {E : ED} {cs : List Nat} {s1 s4 s6 s7 s8 s9 s10 s11 s12 s13 : Option D} (hb : Bgd M b N)
    (hcs : ∀ c ∈ cs, c ∈ LET.cps.toList) (hnd : cs.Nodup) (h1 : 1 ≤ cs.length) (h5 : cs.length ≤ 5)
    (q : ∀ names, NamesOk names → names.length = cs.length → OwnOk names → ∀ N', Bgd M b N' → E.rt (.lst (names.map D.str)) N') :
    wb__law_stems_c0 A E [some (.ref b), s1, some (.int 8), some (.str LET), s4, some (.lst (cs.map sg)), s6, s7, s8, s9, s10, s11, s12, s13] N := by
  simp only [wb__law_stems_c0, wipeD, wNx, wSeq_p, seqE_nx, seqE_rt, seqE_bk, seqE_ct, seqE_ex, wIf, wRet, wRetN, wDrop, wAsg, wBrk, wCnt, wVar, wGet, wC, wOp, wUn, wCB, wNil, wCons, wTest, wAndT, wOrT, wNotT, wAndV, wOrV, wNotV, wIfE, wChain, wTup, wLst, wLstO, wCall, wMeth, wFld, wFst, wCv, wProp, wMake, wSl, wNo, wSome, intK, isBl, gN, gT, gCons', gNil', wSub, wAug, wPar, wBM, wIsT, wFor, wLc, wLcO, wYes, wiSeq, wiStr, wiRng1, wiRng2, wiZip, wFz, frz_lst, frz_tup, at1_0, at2_0, at2_1, at3_0, at3_1, at3_2, at4_0, at4_1, at4_2, at4_3, at5_0, at5_1, at5_2, at5_3, at5_4, seqOf_put, ED.xc, rIxD, rLenD, rIsD, rIntCD, rStrCD, rListD, rListO, rTupD, rAddD, rIntD, rInt0D, rEqD, rIsND, rNegD, rSlD, seqOf_lst, seqOf_tup, optK_some, insK_same, tyN_non, tyN_bl, tyN_int, tyN_str, tyN_tup, tyN_lst, tyN_dct, List.getElem?_cons_zero, List.getElem?_cons_succ, List.set_cons_zero, List.set_cons_succ, List.length_cons, List.length_nil, isB_NoneType_bool, isB_NoneType_int, isB_NoneType_str, isB_NoneType_tuple, isB_NoneType_list, isB_NoneType_dict, isB_bool_bool, isB_bool_int, isB_bool_str, isB_bool_tuple, isB_bool_list, isB_bool_dict, isB_int_bool, isB_int_int, isB_int_str, isB_int_tuple, isB_int_list, isB_int_dict, isB_str_bool, isB_str_int, isB_str_str, isB_str_tuple, isB_str_list, isB_str_dict, isB_tuple_bool, isB_tuple_int, isB_tuple_str, isB_tuple_tuple, isB_tuple_list, isB_tuple_dict, isB_list_bool, isB_list_int, isB_list_str, isB_list_tuple, isB_list_list, isB_list_dict, isB_dict_bool, isB_dict_int, isB_dict_str, isB_dict_tuple, isB_dict_list, isB_dict_dict, isC_bool, isC_int, isC_str, isC_tuple, isC_list, isC_dict, isA_list_tuple, isQ_NoneType, isQ_bool, isQ_int, isQ_str, isQ_tuple, isQ_list, isQ_dict, true_and, and_true, ↓reduceIte, Bool.not_true, Bool.not_false, Bool.false_eq_true, Bool.true_xor, Bool.false_xor, tyD]
  refine pull_b A hb (by omega) (by omega) fun v hv N1 g1 _ => ?_
  refine ⟨⟨by omega, by omega⟩, stems_b A (L := LET) (n := 26) g1 (by decide +kernel) (by decide) (by decide) (fun _ => rfl) (fun _ => rfl) _ (by rw [rng_len]; omega) fun ls N2 l1 l2 g2 => ?_⟩
  rw [rng_len] at l1
  simp only [rJoinD, strs_sg, optK_some, join_sgs]
  have e0 : (("" : Str)).length = 0 := by decide +kernel
  refine ⟨by rw [sum_sg, e0]; omega, ?_⟩
  exact stems_c1 A (stem := ls) g2 l2 (by omega) hcs hnd h1 h5 q
/-- the letters as a list of signs -/
theorem signs_b {ds : SD} {kv : Nat} {L : Str} {k : List D → Mem → Prop} {M : Mem} (hl : L.length < 90000) (hk : ∀ x : D, (ds.set kv (some x))[kv]? = some (some x)) (q : k (L.cps.toList.map sg) M) :
    lcR (gN kv) wYes (wVar kv) ds (sgnD L) [] M k := by
  have big := sizeLine_big
  rw [sgn_sg]
  refine lcR_mapL sg sg (fun _ => True) (fun c acc R _ h => ?_) L.cps.toList [] (fun _ _ => trivial) (by rw [cps_len]; simp only [List.length_nil]; omega) (by rw [List.nil_append]; exact q)
  simp only [gN, wYes, wVar, hk, wGet, ↓reduceIte]
  exact h
theorem stems_c4 (A : Ad) {b : Addr} {M : Mem} {E : ED} {L : Str} {many : Int} {o : MO} {s4 s5 s6 s7 s8 s9 s10 s11 s12 s13 : Option D} (hb : M b = some o) (g : Bg o) (hL : L = LET) (m1 : 1 ≤ many) (m5 : many ≤ 5)
    (q : ∀ names, NamesOk names → (names.length : Int) = many → OwnOk names → ∀ N' al, M al = none → (∃ o' u, Bg o' ∧ N' = mput (mput M al u) b o') → E.rt (.lst (names.map D.str)) N') :
    wb__law_stems_c4 A E [some (.ref b), some (.int many), some (.int 8), some (.str L), s4, s5, s6, s7, s8, s9, s10, s11, s12, s13] M := by
  have e26 : L.cps.toList.length = 26 := by rw [hL]; exact let_len
  have end_ : L.cps.toList.Nodup := by rw [hL]; exact let_nd
  simp only [wb__law_stems_c4, wSeq_p, seqE_nx, seqE_rt, wAsg, wLcO, wiStr, wVar, wGet, List.getElem?_cons_zero, List.getElem?_cons_succ, wipeD, List.set_cons_zero, List.set_cons_succ]
  refine signs_b (by rw [← cps_len, e26]; decide) (fun _ => rfl) fun al hal => ?_
  have hab : al ≠ b := fun e => by subst e; rw [hal] at hb; cases hb
  simp only [wLc, wiRng1, wCons, wNil, wVar, wGet, gN, List.getElem?_cons_zero, List.getElem?_cons_succ, wipeD, List.set_cons_zero, List.set_cons_succ]
  refine ⟨⟨by omega, by omega⟩, pops A (M := mput M al (.lst (L.cps.toList.map sg))) hab (bgd_rfl (by rw [mput_ne hab.symm]; exact hb) g) mput_same end_ (by rw [e26]; decide) (fun _ => rfl) (fun _ => rfl) _ (by rw [rng_len, e26]; omega) fun cs ls' N hcl hcn hcm hN => ?_⟩
  rw [rng_len] at hcl
  obtain ⟨o1, u1, g1, rfl⟩ := hN
  subst hL
  refine stems_c0 A (M := mput (mput (mput M al (.lst (LET.cps.toList.map sg))) b o1) al u1) (bgd_rfl (by rw [mput_ne hab.symm, mput_same]) g1) hcm hcn (by omega) (by omega) fun names n1 n2 n3 N' hN' => ?_
  obtain ⟨o2, g2, rfl⟩ := hN'
  refine q names n1 (by omega) n3 _ al hal ⟨o2, u1, g2, ?_⟩
  funext c
  by_cases e : c = b
  · subst e; rw [mput_same, mput_same]
  · rw [mput_ne e, mput_ne e]
    by_cases e2 : c = al
    · subst e2; rw [mput_same, mput_same]
    · rw [mput_ne e2, mput_ne e, mput_ne e2, mput_ne e2]
theorem fin_own {Q : KN} {d : D} {M : Mem} {al b : Addr} {o : MO} {u : MO} (hal : M al = none) (hb : al ≠ b) (q : Q d (mput M b o)) : Fin Q d (mput (mput M al u) b o) := by
  refine fin_dn (M' := mput M b o) (fun c u hc => ?_) q
  by_cases e : c = b
  · subst e; rw [mput_same] at hc ⊢; exact hc
  · rw [mput_ne e] at hc ⊢
    have e2 : c ≠ al := fun e2 => by subst e2; rw [hal] at hc; cases hc
    rw [mput_ne e2]
    exact hc
theorem rd__law_stems (A : Ad) : ∀ ds M Q Xc, sp__law_stems A ds M Q Xc → ds.length = P__law_stems.length ∧ RD (wb__law_stems A) Q Xc (startD N__law_stems ds) M := by
  rintro _ M Q Xc ⟨b, many, o, rfl, hb, g, m1, m5, q⟩
  refine ⟨rfl, ?_⟩
  rw [st__law_stems]
  simp only [RD, wb__law_stems, wSeq_p, seqE_nx, seqE_rt, wAsg, wC, gN, List.set_cons_zero, List.set_cons_succ]
  refine stems_c4 A (L := Str.ofString "abcdefghijklmnopqrstuvwxyz") hb g rfl m1 m5 fun names n1 n2 n3 N' al hal hN => ?_
  obtain ⟨o', u, g', rfl⟩ := hN
  exact fin_own hal (fun e => by subst e; rw [hal] at hb; cases hb) (q names n1 n2 n3 o' g')
theorem ok__law_stems {P : Program} {w : World} {K : PySem.W.Frag} {mg : Str → Option Value} {base : Heap} {A : Ad} (T : Txt K mg A) : FnJ P w K mg base 2 A.f__law_stems (sp__law_stems A) :=
  FnJ.mkAt T.d__law_stems sc__law_stems (fun cdv R outer s H E hr tk => bd__law_stems T cdv R outer s H E hr tk) (rd__law_stems A)

structure WordsOk (n : Nat) (ws : List Str) : Prop where
  len : ws.length = n
  ok : ∀ x ∈ ws, madeOf L36 8 (.str x) = true
  nd : ws.Nodup
def sp__law_words (A : Ad) : SpD := fun ds M Q _ => ∃ b many o, ds = [.ref b, .int many] ∧ M b = some o ∧ Bg o ∧ 1 ≤ many ∧ many ≤ 30 ∧ ∀ ws, WordsOk many.toNat ws → ∀ o', Bg o' → Q (.lst (ws.map D.str)) (mput M b o')
def wb__law_words_c2 (A : Ad) : WS :=
  (wRet (wLc (wiSeq (wVar 4)) (gN 9) wYes (wOp rAddD (wOp rAddD (wSl (wVar 5) wNo (wSome (wVar 6))) (wVar 9)) (wIfE (wTest (wOp (rEqD false) (wVar 8) (wC (.int 0)))) (wVar 7) (wSl (wVar 7) wNo (wSome (wCall (sp__law_pull A) (wCons (wVar 0) (wCons (wOp rAddD (wCB rLenD (wCons (wVar 7) wNil)) (wC (.int 1))) wNil))))))) [9]))
def wb__law_words_c1 (A : Ad) : WS :=
  (wSeq (wAsg (wCall (sp__law_pull A) (wCons (wVar 0) (wCons (wOp rAddD (wCB rLenD (wCons (wVar 5) wNil)) (wC (.int 1))) wNil))) (gN 6))
  (wSeq (wAsg (wTup (wCons (wSl (wVar 5) (wSome (wVar 6)) wNo) (wCons (wCall (sp__law_pull A) (wCons (wVar 0) (wCons (wC (.int 2)) wNil))) wNil))) (gT 2 (gCons' (gN 7) (gCons' (gN 8) gNil'))))
  (wb__law_words_c2 A)))
def wb__law_words_c0 (A : Ad) : WS :=
  (wSeq (wAsg (wBM "str" rJoinD (wC (.str "")) (wCons (wLc (wiRng1 (wCons (wCall (sp__law_pull A) (wCons (wVar 0) (wCons (wC (.int 8)) wNil))) wNil)) (gN 10) wYes (wOp rIxD (wVar 2) (wCall (sp__law_pull A) (wCons (wVar 0) (wCons (wC (.int 36)) wNil)))) [10]) wNil)) (gN 5))
  (wb__law_words_c1 A))
def wb__law_words_c3 (A : Ad) : WS :=
  (wSeq (wAsg (wLcO (wiStr (wVar 2)) (gN 9) wYes (wVar 9) [9]) (gN 3))
  (wSeq (wAsg (wLc (wiRng1 (wCons (wVar 1) wNil)) (gN 10) wYes (wBM "list" rPopD (wVar 3) (wCons (wCall (sp__law_pull A) (wCons (wVar 0) (wCons (wCB rLenD (wCons (wVar 3) wNil)) wNil))) wNil)) [10]) (gN 4))
  (wb__law_words_c0 A)))
def wb__law_words (A : Ad) : WS :=
  (wSeq (wAsg (wC (.str "abcdefghijklmnopqrstuvwxyz0123456789")) (gN 2))
  (wb__law_words_c3 A))
theorem bd__law_words {P : Program} {w : World} {K : PySem.W.Frag} {mg : Str → Option Value} {base : Heap} {A : Ad} (T : Txt K mg A) (cdv : Value) (R : Around) (outer : List Env) (s : Shared) (H : Hp) (E : XK) (hr : Room 1 (R.deeper (envOfC "_law_words" (defScope s__law_words) s.heap.objs.size A.f__law_words cdv)))
    (tk : Takes (cxOf (L2.CX P w) P w K mg base N__law_words "_law_words" (defScope s__law_words) A.f__law_words cdv R outer s H E) (WD E)) : JSs (cxOf (L2.CX P w) P w K mg base N__law_words "_law_words" (defScope s__law_words) A.f__law_words cdv R outer s H E) (WD E) (defBody s__law_words) (wb__law_words A) :=
  (js_cons (js_set (i := 2) sc__law_words.nd j_str)
  (js_cons (js_set (i := 3) sc__law_words.nd (j_lcO (own := [("_law_sign", 9)]) rfl sc__law_words.nd (ji_str (jv 2)) (blkOk_by (own := [("_law_sign", 9)]) (N := N__law_words) (sc := defScope s__law_words) (by decide +kernel)) (fun _ _ _ _ _ => (jg_name (i := 9) sc__law_words.nd)) (fun _ _ _ _ _ => jts_nil) (fun _ _ _ _ _ => (jv 9))))
  (js_cons (js_setLc (own := [("_law_k", 10)]) rfl sc__law_words.nd (ji_rng1 T.n_range (j_cons (jv 1) j_nil)) (blkOk_by (own := [("_law_k", 10)]) (N := N__law_words) (sc := defScope s__law_words) (by decide +kernel)) (fun _ _ _ _ _ => (jg_name (i := 10) sc__law_words.nd)) (fun _ _ _ _ _ => jts_nil) (fun _ _ _ _ _ => (j_bm PySem.F.plainAttrs_list PySem.F.slot_list_pop PySem.F.type_list_pop md_pop (jv 3) (j_cons (j_call (ok__law_pull T) hr (by decide) T.g__law_pull tkF (j_cons (jv 0) (j_cons (j_callB cd_len T.n_len bo_len (j_cons (jv 3) j_nil)) j_nil))) j_nil))))
  (js_cons (js_set (i := 5) sc__law_words.nd (j_bm PySem.F.plainAttrs_str PySem.F.slot_str_join PySem.F.type_str_join md_join j_str (j_cons (j_lc (own := [("_law_k", 10)]) rfl sc__law_words.nd (ji_rng1 T.n_range (j_cons (j_call (ok__law_pull T) hr (by decide) T.g__law_pull tk (j_cons (jv 0) (j_cons j_int j_nil))) j_nil)) (blkOk_by (own := [("_law_k", 10)]) (N := N__law_words) (sc := defScope s__law_words) (by decide +kernel)) (fun _ _ _ _ _ => (jg_name (i := 10) sc__law_words.nd)) (fun _ _ _ _ _ => jts_nil) (fun _ _ _ _ _ => (j_ix id_ix (jv 2) (j_call (ok__law_pull T) hr (by decide) T.g__law_pull tkF (j_cons (jv 0) (j_cons j_int j_nil)))))) j_nil)))
  (js_cons (js_set (i := 6) sc__law_words.nd (j_call (ok__law_pull T) hr (by decide) T.g__law_pull tk (j_cons (jv 0) (j_cons (j_op od_add (j_callB cd_len T.n_len bo_len (j_cons (jv 5) j_nil)) j_int) j_nil))))
  (js_cons (js_asg (j_tup (j_cons (j_sl (jv 5) (jo_some (jv 6)) jo_none) (j_cons (j_call (ok__law_pull T) hr (by decide) T.g__law_pull tk (j_cons (jv 0) (j_cons j_int j_nil))) j_nil))) (jg_tup rfl (jgs_cons (jg_name (i := 7) sc__law_words.nd) (jgs_cons (jg_name (i := 8) sc__law_words.nd) jgs_nil))))
  (js_one (js_ret (j_lc (own := [("_law_sign", 9)]) rfl sc__law_words.nd (ji_seq (jv 4)) (blkOk_by (own := [("_law_sign", 9)]) (N := N__law_words) (sc := defScope s__law_words) (by decide +kernel)) (fun _ _ _ _ _ => (jg_name (i := 9) sc__law_words.nd)) (fun _ _ _ _ _ => jts_nil) (fun _ _ _ _ _ => (j_op od_add (j_op od_add (j_sl (jv 5) jo_none (jo_some (jv 6))) (jv 9)) (j_if (jt_cmp (od_eq hr.units) (jv 8) j_int) (jv 7) (j_sl (jv 7) jo_none (jo_some (j_call (ok__law_pull T) hr (by decide) T.g__law_pull tkF (j_cons (jv 0) (j_cons (j_op od_add (j_callB cd_len T.n_len bo_len (j_cons (jv 7) j_nil)) j_int) j_nil)))))))))))))))))
theorem words_c2 (A : Ad) {b : Addr} {M N : Mem} {E : ED} {cs stem : List Nat} {at' : Nat} {ev : Int} {s1 s2 s3 s9 s10 : Option D} (hb : Bgd M b N)
    (hst : ∀ c ∈ stem, c ∈ L36.cps.toList) (hsl : stem.length ≤ 7) (hat : at' ≤ stem.length) (hcs : ∀ c ∈ cs, c ∈ L36.cps.toList) (hnd : cs.Nodup) (h5 : cs.length ≤ 30)
    (q : ∀ ws, WordsOk cs.length ws → ∀ N', Bgd M b N' → E.rt (.lst (ws.map D.str)) N') :
    wb__law_words_c2 A E [some (.ref b), s1, s2, s3, some (.lst (cs.map sg)), some (.str ⟨stem.toArray⟩), some (.int (at' : Int)), some (.str ⟨(stem.drop at').toArray⟩), some (.int ev), s9, s10] N := by
  simp only [wb__law_words_c2, wRet, wLc, wiSeq, wVar, wGet, List.getElem?_cons_zero, List.getElem?_cons_succ, frz_lst, optK_some]
  refine found_b A (L := L36) (stem := stem) (at' := at') (ev := ev) hb hst hsl hat hcs (by omega) (fun _ => rfl) (fun _ => rfl) (fun _ => rfl) (fun _ => rfl) (fun _ => rfl) (fun _ => rfl) fun pr N' e hs g => ?_
  have e2 : (pr.map fun p => D.str p.2) = (pr.map (·.2)).map D.str := by rw [List.map_map]; rfl
  rw [e2]
  refine q _ ⟨by rw [← e, List.length_map, List.length_map], fun x hx => ?_, sig_inj (k := at') (by rw [e]; exact hnd) hs⟩ N' g
  obtain ⟨r, hr, rfl⟩ := List.mem_map.mp hx
  exact (hs r hr).made
theorem words_c1 (A : Ad) {b : Addr} {M N : Mem} {E : ED} {cs stem : List Nat} {s1 s2 s3 s6 s7 s8 s9 s10 : Option D} (hb : Bgd M b N)
    (hst : ∀ c ∈ stem, c ∈ L36.cps.toList) (hsl : stem.length ≤ 7) (hcs : ∀ c ∈ cs, c ∈ L36.cps.toList) (hnd : cs.Nodup) (h5 : cs.length ≤ 30)
    (q : ∀ ws, WordsOk cs.length ws → ∀ N', Bgd M b N' → E.rt (.lst (ws.map D.str)) N') :
    wb__law_words_c1 A E [some (.ref b), s1, s2, s3, some (.lst (cs.map sg)), some (.str ⟨stem.toArray⟩), s6, s7, s8, s9, s10] N := by
  have big := sizeLine_big
  simp only [wb__law_words_c1, wipeD, wNx, wSeq_p, seqE_nx, seqE_rt, seqE_bk, seqE_ct, seqE_ex, wIf, wRet, wRetN, wDrop, wAsg, wBrk, wCnt, wVar, wGet, wC, wOp, wUn, wCB, wNil, wCons, wTest, wAndT, wOrT, wNotT, wAndV, wOrV, wNotV, wIfE, wChain, wTup, wLst, wLstO, wCall, wMeth, wFld, wFst, wCv, wProp, wMake, wSl, wNo, wSome, intK, isBl, gN, gT, gCons', gNil', wSub, wAug, wPar, wBM, wIsT, wFor, wLc, wLcO, wYes, wiSeq, wiStr, wiRng1, wiRng2, wiZip, wFz, frz_lst, frz_tup, at1_0, at2_0, at2_1, at3_0, at3_1, at3_2, at4_0, at4_1, at4_2, at4_3, at5_0, at5_1, at5_2, at5_3, at5_4, seqOf_put, ED.xc, rIxD, rLenD, rIsD, rIntCD, rStrCD, rListD, rListO, rTupD, rAddD, rIntD, rInt0D, rEqD, rIsND, rNegD, rSlD, seqOf_lst, seqOf_tup, optK_some, insK_same, tyN_non, tyN_bl, tyN_int, tyN_str, tyN_tup, tyN_lst, tyN_dct, List.getElem?_cons_zero, List.getElem?_cons_succ, List.set_cons_zero, List.set_cons_succ, List.length_cons, List.length_nil, isB_NoneType_bool, isB_NoneType_int, isB_NoneType_str, isB_NoneType_tuple, isB_NoneType_list, isB_NoneType_dict, isB_bool_bool, isB_bool_int, isB_bool_str, isB_bool_tuple, isB_bool_list, isB_bool_dict, isB_int_bool, isB_int_int, isB_int_str, isB_int_tuple, isB_int_list, isB_int_dict, isB_str_bool, isB_str_int, isB_str_str, isB_str_tuple, isB_str_list, isB_str_dict, isB_tuple_bool, isB_tuple_int, isB_tuple_str, isB_tuple_tuple, isB_tuple_list, isB_tuple_dict, isB_list_bool, isB_list_int, isB_list_str, isB_list_tuple, isB_list_list, isB_list_dict, isB_dict_bool, isB_dict_int, isB_dict_str, isB_dict_tuple, isB_dict_list, isB_dict_dict, isC_bool, isC_int, isC_str, isC_tuple, isC_list, isC_dict, isA_list_tuple, isQ_NoneType, isQ_bool, isQ_int, isQ_str, isQ_tuple, isQ_list, isQ_dict, true_and, and_true, ↓reduceIte, Bool.not_true, Bool.not_false, Bool.false_eq_true, Bool.true_xor, Bool.false_xor]
  refine ⟨by rw [len_mk]; omega, pull_b A hb (by omega) (by rw [len_mk]; omega) fun v hv N1 g1 _ => ?_⟩
  rw [len_mk] at hv
  have c1 : cutS ⟨stem.toArray⟩ (some (v : Int)) none = ⟨(stem.drop v).toArray⟩ := cut_drop (by rw [len_mk]; omega)
  simp only [wipeD, wNx, wSeq_p, seqE_nx, seqE_rt, seqE_bk, seqE_ct, seqE_ex, wIf, wRet, wRetN, wDrop, wAsg, wBrk, wCnt, wVar, wGet, wC, wOp, wUn, wCB, wNil, wCons, wTest, wAndT, wOrT, wNotT, wAndV, wOrV, wNotV, wIfE, wChain, wTup, wLst, wLstO, wCall, wMeth, wFld, wFst, wCv, wProp, wMake, wSl, wNo, wSome, intK, isBl, gN, gT, gCons', gNil', wSub, wAug, wPar, wBM, wIsT, wFor, wLc, wLcO, wYes, wiSeq, wiStr, wiRng1, wiRng2, wiZip, wFz, frz_lst, frz_tup, at1_0, at2_0, at2_1, at3_0, at3_1, at3_2, at4_0, at4_1, at4_2, at4_3, at5_0, at5_1, at5_2, at5_3, at5_4, seqOf_put, ED.xc, rIxD, rLenD, rIsD, rIntCD, rStrCD, rListD, rListO, rTupD, rAddD, rIntD, rInt0D, rEqD, rIsND, rNegD, rSlD, seqOf_lst, seqOf_tup, optK_some, insK_same, tyN_non, tyN_bl, tyN_int, tyN_str, tyN_tup, tyN_lst, tyN_dct, List.getElem?_cons_zero, List.getElem?_cons_succ, List.set_cons_zero, List.set_cons_succ, List.length_cons, List.length_nil, isB_NoneType_bool, isB_NoneType_int, isB_NoneType_str, isB_NoneType_tuple, isB_NoneType_list, isB_NoneType_dict, isB_bool_bool, isB_bool_int, isB_bool_str, isB_bool_tuple, isB_bool_list, isB_bool_dict, isB_int_bool, isB_int_int, isB_int_str, isB_int_tuple, isB_int_list, isB_int_dict, isB_str_bool, isB_str_int, isB_str_str, isB_str_tuple, isB_str_list, isB_str_dict, isB_tuple_bool, isB_tuple_int, isB_tuple_str, isB_tuple_tuple, isB_tuple_list, isB_tuple_dict, isB_list_bool, isB_list_int, isB_list_str, isB_list_tuple, isB_list_list, isB_list_dict, isB_dict_bool, isB_dict_int, isB_dict_str, isB_dict_tuple, isB_dict_list, isB_dict_dict, isC_bool, isC_int, isC_str, isC_tuple, isC_list, isC_dict, isA_list_tuple, isQ_NoneType, isQ_bool, isQ_int, isQ_str, isQ_tuple, isQ_list, isQ_dict, true_and, and_true, ↓reduceIte, Bool.not_true, Bool.not_false, Bool.false_eq_true, Bool.true_xor, Bool.false_xor, c1]
  refine ⟨by rw [len_mk]; omega, pull_b A g1 (by omega) (by omega) fun ev hev N2 g2 _ => ?_⟩
  refine ⟨by omega, ?_⟩
  exact words_c2 A (at' := v) (ev := ev) g2 hst hsl (by omega) hcs hnd h5 q
theorem words_c0 (A : Ad) {b : Addr} {M N : Mem} {E : ED} {L : Str} (hL : L = L36) {cs : List Nat} {s1 s3 s5 s6 s7 s8 s9 s10 : Option D} (hb : Bgd M b N)
    (hcs : ∀ c ∈ cs, c ∈ L36.cps.toList) (hnd : cs.Nodup) (h5 : cs.length ≤ 30)
    (q : ∀ ws, WordsOk cs.length ws → ∀ N', Bgd M b N' → E.rt (.lst (ws.map D.str)) N') :
    wb__law_words_c0 A E [some (.ref b), s1, some (.str L), s3, some (.lst (cs.map sg)), s5, s6, s7, s8, s9, s10] N := by
  simp only [wb__law_words_c0, wipeD, wNx, wSeq_p, seqE_nx, seqE_rt, seqE_bk, seqE_ct, seqE_ex, wIf, wRet, wRetN, wDrop, wAsg, wBrk, wCnt, wVar, wGet, wC, wOp, wUn, wCB, wNil, wCons, wTest, wAndT, wOrT, wNotT, wAndV, wOrV, wNotV, wIfE, wChain, wTup, wLst, wLstO, wCall, wMeth, wFld, wFst, wCv, wProp, wMake, wSl, wNo, wSome, intK, isBl, gN, gT, gCons', gNil', wSub, wAug, wPar, wBM, wIsT, wFor, wLc, wLcO, wYes, wiSeq, wiStr, wiRng1, wiRng2, wiZip, wFz, frz_lst, frz_tup, at1_0, at2_0, at2_1, at3_0, at3_1, at3_2, at4_0, at4_1, at4_2, at4_3, at5_0, at5_1, at5_2, at5_3, at5_4, seqOf_put, ED.xc, rIxD, rLenD, rIsD, rIntCD, rStrCD, rListD, rListO, rTupD, rAddD, rIntD, rInt0D, rEqD, rIsND, rNegD, rSlD, seqOf_lst, seqOf_tup, optK_some, insK_same, tyN_non, tyN_bl, tyN_int, tyN_str, tyN_tup, tyN_lst, tyN_dct, List.getElem?_cons_zero, List.getElem?_cons_succ, List.set_cons_zero, List.set_cons_succ, List.length_cons, List.length_nil, isB_NoneType_bool, isB_NoneType_int, isB_NoneType_str, isB_NoneType_tuple, isB_NoneType_list, isB_NoneType_dict, isB_bool_bool, isB_bool_int, isB_bool_str, isB_bool_tuple, isB_bool_list, isB_bool_dict, isB_int_bool, isB_int_int, isB_int_str, isB_int_tuple, isB_int_list, isB_int_dict, isB_str_bool, isB_str_int, isB_str_str, isB_str_tuple, isB_str_list, isB_str_dict, isB_tuple_bool, isB_tuple_int, isB_tuple_str, isB_tuple_tuple, isB_tuple_list, isB_tuple_dict, isB_list_bool, isB_list_int, isB_list_str, isB_list_tuple, isB_list_list, isB_list_dict, isB_dict_bool, isB_dict_int, isB_dict_str, isB_dict_tuple, isB_dict_list, isB_dict_dict, isC_bool, isC_int, isC_str, isC_tuple, isC_list, isC_dict, isA_list_tuple, isQ_NoneType, isQ_bool, isQ_int, isQ_str, isQ_tuple, isQ_list, isQ_dict, true_and, and_true, ↓reduceIte, Bool.not_true, Bool.not_false, Bool.false_eq_true, Bool.true_xor, Bool.false_xor, tyD]
  refine pull_b A hb (by omega) (by omega) fun v hv N1 g1 _ => ?_
  refine ⟨⟨by omega, by omega⟩, stems_b A (L := L) (n := 36) g1 (by rw [hL]; decide +kernel) (by decide) (by decide) (fun _ => rfl) (fun _ => rfl) _ (by rw [rng_len]; omega) fun ls N2 l1 l2 g2 => ?_⟩
  rw [rng_len] at l1
  simp only [rJoinD, strs_sg, optK_some, join_sgs]
  have e0 : (("" : Str)).length = 0 := by decide +kernel
  refine ⟨by rw [sum_sg, e0]; omega, ?_⟩
  exact words_c1 A (stem := ls) g2 (by rw [← hL]; exact l2) (by omega) hcs hnd h5 q
theorem words_c3 (A : Ad) {b : Addr} {M : Mem} {E : ED} {L : Str} {many : Int} {o : MO} {s3 s4 s5 s6 s7 s8 s9 s10 : Option D} (hb : M b = some o) (g : Bg o) (hL : L = L36) (m1 : 1 ≤ many) (m5 : many ≤ 30)
    (q : ∀ ws, WordsOk many.toNat ws → ∀ N' al, M al = none → (∃ o' u, Bg o' ∧ N' = mput (mput M al u) b o') → E.rt (.lst (ws.map D.str)) N') :
    wb__law_words_c3 A E [some (.ref b), some (.int many), some (.str L), s3, s4, s5, s6, s7, s8, s9, s10] M := by
  have e36 : L.cps.toList.length = 36 := by rw [hL]; exact l36_len
  have end_ : L.cps.toList.Nodup := by rw [hL]; exact l36_nd
  simp only [wb__law_words_c3, wSeq_p, seqE_nx, seqE_rt, wAsg, wLcO, wiStr, wVar, wGet, List.getElem?_cons_zero, List.getElem?_cons_succ, wipeD, List.set_cons_zero, List.set_cons_succ]
  refine signs_b (by rw [← cps_len, e36]; decide) (fun _ => rfl) fun al hal => ?_
  have hab : al ≠ b := fun e => by subst e; rw [hal] at hb; cases hb
  simp only [wLc, wiRng1, wCons, wNil, wVar, wGet, gN, List.getElem?_cons_zero, List.getElem?_cons_succ, wipeD, List.set_cons_zero, List.set_cons_succ]
  refine ⟨⟨by omega, by omega⟩, pops A (M := mput M al (.lst (L.cps.toList.map sg))) hab (bgd_rfl (by rw [mput_ne hab.symm]; exact hb) g) mput_same end_ (by rw [e36]; decide) (fun _ => rfl) (fun _ => rfl) _ (by rw [rng_len, e36]; omega) fun cs ls' N hcl hcn hcm hN => ?_⟩
  rw [rng_len] at hcl
  obtain ⟨o1, u1, g1, rfl⟩ := hN
  refine words_c0 A (M := mput (mput (mput M al (.lst (L.cps.toList.map sg))) b o1) al u1) hL (bgd_rfl (by rw [mput_ne hab.symm, mput_same]) g1) (by rw [← hL]; exact hcm) hcn (by omega) fun ws n1 N' hN' => ?_
  obtain ⟨o2, g2, rfl⟩ := hN'
  refine q ws (by rw [← hcl]; exact n1) _ al hal ⟨o2, u1, g2, ?_⟩
  funext c
  by_cases e : c = b
  · subst e; rw [mput_same, mput_same]
  · rw [mput_ne e, mput_ne e]
    by_cases e2 : c = al
    · subst e2; rw [mput_same, mput_same]
    · rw [mput_ne e2, mput_ne e, mput_ne e2, mput_ne e2]
theorem rd__law_words (A : Ad) : ∀ ds M Q Xc, sp__law_words A ds M Q Xc → ds.length = P__law_words.length ∧ RD (wb__law_words A) Q Xc (startD N__law_words ds) M := by
  rintro _ M Q Xc ⟨b, many, o, rfl, hb, g, m1, m5, q⟩
  refine ⟨rfl, ?_⟩
  rw [st__law_words]
  simp only [RD, wb__law_words, wSeq_p, seqE_nx, wAsg, wC, gN, List.set_cons_zero, List.set_cons_succ]
  refine words_c3 A (L := Str.ofString "abcdefghijklmnopqrstuvwxyz0123456789") hb g (by decide +kernel) m1 m5 fun ws n1 N' al hal hN => ?_
  obtain ⟨o', u, g', rfl⟩ := hN
  exact fin_own hal (fun e => by subst e; rw [hal] at hb; cases hb) (q ws n1 o' g')
theorem ok__law_words {P : Program} {w : World} {K : PySem.W.Frag} {mg : Str → Option Value} {base : Heap} {A : Ad} (T : Txt K mg A) : FnJ P w K mg base 2 A.f__law_words (sp__law_words A) :=
  FnJ.mkAt T.d__law_words sc__law_words (fun cdv R outer s H E hr tk => bd__law_words T cdv R outer s H E hr tk) (rd__law_words A)
/-! ### the ground, the shape -/
structure GrOk (nf ns : Int) (fs ss ws : List Str) : Prop where
  f : NamesOk fs
  s : NamesOk ss
  w : WordsOk 5 ws
  o : OwnOk fs
  fl : (fs.length : Int) ≤ nf
  sl : (ss.length : Int) ≤ ns
def grD (fs ss ws : List Str) : D := .tup [.lst (fs.map D.str), .lst (ss.map D.str), .lst (ws.map D.str)]
def sp__law_ground (A : Ad) : SpD := fun ds M Q _ => ∃ b nf ns o, ds = [.ref b, .int nf, .int ns] ∧ M b = some o ∧ Bg o ∧ 1 ≤ nf ∧ nf ≤ 5 ∧ 1 ≤ ns ∧ ns ≤ 5 ∧ ∀ fs ss ws, GrOk nf ns fs ss ws → ∀ o', Bg o' → Q (grD fs ss ws) (mput M b o')
def wb__law_ground (A : Ad) : WS :=
  (wRet (wTup (wCons (wCall (sp__law_stems A) (wCons (wVar 0) (wCons (wOp rAddD (wC (.int 1)) (wCall (sp__law_pull A) (wCons (wVar 0) (wCons (wVar 1) wNil)))) (wCons (wC (.int 8)) wNil)))) (wCons (wCall (sp__law_stems A) (wCons (wVar 0) (wCons (wOp rAddD (wC (.int 1)) (wCall (sp__law_pull A) (wCons (wVar 0) (wCons (wVar 2) wNil)))) (wCons (wC (.int 8)) wNil)))) (wCons (wCall (sp__law_words A) (wCons (wVar 0) (wCons (wC (.int 5)) wNil))) wNil)))))
theorem bd__law_ground {P : Program} {w : World} {K : PySem.W.Frag} {mg : Str → Option Value} {base : Heap} {A : Ad} (T : Txt K mg A) (cdv : Value) (R : Around) (outer : List Env) (s : Shared) (H : Hp) (E : XK) (hr : Room 2 (R.deeper (envOfC "_law_ground" (defScope s__law_ground) s.heap.objs.size A.f__law_ground cdv)))
    (tk : Takes (cxOf (L2.CX P w) P w K mg base N__law_ground "_law_ground" (defScope s__law_ground) A.f__law_ground cdv R outer s H E) (WD E)) : JSs (cxOf (L2.CX P w) P w K mg base N__law_ground "_law_ground" (defScope s__law_ground) A.f__law_ground cdv R outer s H E) (WD E) (defBody s__law_ground) (wb__law_ground A) :=
  (js_one (js_ret (j_tup (j_cons (j_call (ok__law_stems T) hr (by decide) T.g__law_stems tk (j_cons (jv 0) (j_cons (j_op od_add j_int (j_call (ok__law_pull T) hr (by decide) T.g__law_pull tk (j_cons (jv 0) (j_cons (jv 1) j_nil)))) (j_cons j_int j_nil)))) (j_cons (j_call (ok__law_stems T) hr (by decide) T.g__law_stems tk (j_cons (jv 0) (j_cons (j_op od_add j_int (j_call (ok__law_pull T) hr (by decide) T.g__law_pull tk (j_cons (jv 0) (j_cons (jv 2) j_nil)))) (j_cons j_int j_nil)))) (j_cons (j_call (ok__law_words T) hr (by decide) T.g__law_words tk (j_cons (jv 0) (j_cons j_int j_nil))) j_nil))))))
theorem rd__law_ground (A : Ad) : ∀ ds M Q Xc, sp__law_ground A ds M Q Xc → ds.length = P__law_ground.length ∧ RD (wb__law_ground A) Q Xc (startD N__law_ground ds) M := by
  rintro _ M Q Xc ⟨b, nf, ns, o, rfl, hb, g, f1, f5, s1, s5, q⟩
  refine ⟨rfl, ?_⟩
  rw [st__law_ground]
  have big := sizeLine_big
  simp only [RD, wb__law_ground, wipeD, wNx, wSeq_p, seqE_nx, seqE_rt, seqE_bk, seqE_ct, seqE_ex, wIf, wRet, wRetN, wDrop, wAsg, wBrk, wCnt, wVar, wGet, wC, wOp, wUn, wCB, wNil, wCons, wTest, wAndT, wOrT, wNotT, wAndV, wOrV, wNotV, wIfE, wChain, wTup, wLst, wLstO, wCall, wMeth, wFld, wFst, wCv, wProp, wMake, wSl, wNo, wSome, intK, isBl, gN, gT, gCons', gNil', wSub, wAug, wPar, wBM, wIsT, wFor, wLc, wLcO, wYes, wiSeq, wiStr, wiRng1, wiRng2, wiZip, wFz, frz_lst, frz_tup, at1_0, at2_0, at2_1, at3_0, at3_1, at3_2, at4_0, at4_1, at4_2, at4_3, at5_0, at5_1, at5_2, at5_3, at5_4, seqOf_put, ED.xc, rIxD, rLenD, rIsD, rIntCD, rStrCD, rListD, rListO, rTupD, rAddD, rIntD, rInt0D, rEqD, rIsND, rNegD, rSlD, seqOf_lst, seqOf_tup, optK_some, insK_same, tyN_non, tyN_bl, tyN_int, tyN_str, tyN_tup, tyN_lst, tyN_dct, List.getElem?_cons_zero, List.getElem?_cons_succ, List.set_cons_zero, List.set_cons_succ, List.length_cons, List.length_nil, isB_NoneType_bool, isB_NoneType_int, isB_NoneType_str, isB_NoneType_tuple, isB_NoneType_list, isB_NoneType_dict, isB_bool_bool, isB_bool_int, isB_bool_str, isB_bool_tuple, isB_bool_list, isB_bool_dict, isB_int_bool, isB_int_int, isB_int_str, isB_int_tuple, isB_int_list, isB_int_dict, isB_str_bool, isB_str_int, isB_str_str, isB_str_tuple, isB_str_list, isB_str_dict, isB_tuple_bool, isB_tuple_int, isB_tuple_str, isB_tuple_tuple, isB_tuple_list, isB_tuple_dict, isB_list_bool, isB_list_int, isB_list_str, isB_list_tuple, isB_list_list, isB_list_dict, isB_dict_bool, isB_dict_int, isB_dict_str, isB_dict_tuple, isB_dict_list, isB_dict_dict, isC_bool, isC_int, isC_str, isC_tuple, isC_list, isC_dict, isA_list_tuple, isQ_NoneType, isQ_bool, isQ_int, isQ_str, isQ_tuple, isQ_list, isQ_dict, true_and, and_true, ↓reduceIte, Bool.not_true, Bool.not_false, Bool.false_eq_true, Bool.true_xor, Bool.false_xor]
  refine pull_of A hb g (by omega) (by omega) fun v hv o1 g1 => ?_
  refine ⟨b, _, o1, rfl, mput_same, g1, by omega, by omega, fun fs a1 a2 a3 o2 g2 => ?_⟩
  simp only [wipeD, wNx, wSeq_p, seqE_nx, seqE_rt, seqE_bk, seqE_ct, seqE_ex, wIf, wRet, wRetN, wDrop, wAsg, wBrk, wCnt, wVar, wGet, wC, wOp, wUn, wCB, wNil, wCons, wTest, wAndT, wOrT, wNotT, wAndV, wOrV, wNotV, wIfE, wChain, wTup, wLst, wLstO, wCall, wMeth, wFld, wFst, wCv, wProp, wMake, wSl, wNo, wSome, intK, isBl, gN, gT, gCons', gNil', wSub, wAug, wPar, wBM, wIsT, wFor, wLc, wLcO, wYes, wiSeq, wiStr, wiRng1, wiRng2, wiZip, wFz, frz_lst, frz_tup, at1_0, at2_0, at2_1, at3_0, at3_1, at3_2, at4_0, at4_1, at4_2, at4_3, at5_0, at5_1, at5_2, at5_3, at5_4, seqOf_put, ED.xc, rIxD, rLenD, rIsD, rIntCD, rStrCD, rListD, rListO, rTupD, rAddD, rIntD, rInt0D, rEqD, rIsND, rNegD, rSlD, seqOf_lst, seqOf_tup, optK_some, insK_same, tyN_non, tyN_bl, tyN_int, tyN_str, tyN_tup, tyN_lst, tyN_dct, List.getElem?_cons_zero, List.getElem?_cons_succ, List.set_cons_zero, List.set_cons_succ, List.length_cons, List.length_nil, isB_NoneType_bool, isB_NoneType_int, isB_NoneType_str, isB_NoneType_tuple, isB_NoneType_list, isB_NoneType_dict, isB_bool_bool, isB_bool_int, isB_bool_str, isB_bool_tuple, isB_bool_list, isB_bool_dict, isB_int_bool, isB_int_int, isB_int_str, isB_int_tuple, isB_int_list, isB_int_dict, isB_str_bool, isB_str_int, isB_str_str, isB_str_tuple, isB_str_list, isB_str_dict, isB_tuple_bool, isB_tuple_int, isB_tuple_str, isB_tuple_tuple, isB_tuple_list, isB_tuple_dict, isB_list_bool, isB_list_int, isB_list_str, isB_list_tuple, isB_list_list, isB_list_dict, isB_dict_bool, isB_dict_int, isB_dict_str, isB_dict_tuple, isB_dict_list, isB_dict_dict, isC_bool, isC_int, isC_str, isC_tuple, isC_list, isC_dict, isA_list_tuple, isQ_NoneType, isQ_bool, isQ_int, isQ_str, isQ_tuple, isQ_list, isQ_dict, true_and, and_true, ↓reduceIte, Bool.not_true, Bool.not_false, Bool.false_eq_true, Bool.true_xor, Bool.false_xor, mput_mput]
  refine pull_of A mput_same g2 (by omega) (by omega) fun v2 hv2 o3 g3 => ?_
  refine ⟨b, _, o3, rfl, mput_same, g3, by omega, by omega, fun ss b1 b2 b3 o4 g4 => ?_⟩
  simp only [wipeD, wNx, wSeq_p, seqE_nx, seqE_rt, seqE_bk, seqE_ct, seqE_ex, wIf, wRet, wRetN, wDrop, wAsg, wBrk, wCnt, wVar, wGet, wC, wOp, wUn, wCB, wNil, wCons, wTest, wAndT, wOrT, wNotT, wAndV, wOrV, wNotV, wIfE, wChain, wTup, wLst, wLstO, wCall, wMeth, wFld, wFst, wCv, wProp, wMake, wSl, wNo, wSome, intK, isBl, gN, gT, gCons', gNil', wSub, wAug, wPar, wBM, wIsT, wFor, wLc, wLcO, wYes, wiSeq, wiStr, wiRng1, wiRng2, wiZip, wFz, frz_lst, frz_tup, at1_0, at2_0, at2_1, at3_0, at3_1, at3_2, at4_0, at4_1, at4_2, at4_3, at5_0, at5_1, at5_2, at5_3, at5_4, seqOf_put, ED.xc, rIxD, rLenD, rIsD, rIntCD, rStrCD, rListD, rListO, rTupD, rAddD, rIntD, rInt0D, rEqD, rIsND, rNegD, rSlD, seqOf_lst, seqOf_tup, optK_some, insK_same, tyN_non, tyN_bl, tyN_int, tyN_str, tyN_tup, tyN_lst, tyN_dct, List.getElem?_cons_zero, List.getElem?_cons_succ, List.set_cons_zero, List.set_cons_succ, List.length_cons, List.length_nil, isB_NoneType_bool, isB_NoneType_int, isB_NoneType_str, isB_NoneType_tuple, isB_NoneType_list, isB_NoneType_dict, isB_bool_bool, isB_bool_int, isB_bool_str, isB_bool_tuple, isB_bool_list, isB_bool_dict, isB_int_bool, isB_int_int, isB_int_str, isB_int_tuple, isB_int_list, isB_int_dict, isB_str_bool, isB_str_int, isB_str_str, isB_str_tuple, isB_str_list, isB_str_dict, isB_tuple_bool, isB_tuple_int, isB_tuple_str, isB_tuple_tuple, isB_tuple_list, isB_tuple_dict, isB_list_bool, isB_list_int, isB_list_str, isB_list_tuple, isB_list_list, isB_list_dict, isB_dict_bool, isB_dict_int, isB_dict_str, isB_dict_tuple, isB_dict_list, isB_dict_dict, isC_bool, isC_int, isC_str, isC_tuple, isC_list, isC_dict, isA_list_tuple, isQ_NoneType, isQ_bool, isQ_int, isQ_str, isQ_tuple, isQ_list, isQ_dict, true_and, and_true, ↓reduceIte, Bool.not_true, Bool.not_false, Bool.false_eq_true, Bool.true_xor, Bool.false_xor, mput_mput]
  refine ⟨b, 5, o4, rfl, mput_same, g4, by omega, by omega, fun ws c1 o5 g5 => ?_⟩
  simp only [wipeD, wNx, wSeq_p, seqE_nx, seqE_rt, seqE_bk, seqE_ct, seqE_ex, wIf, wRet, wRetN, wDrop, wAsg, wBrk, wCnt, wVar, wGet, wC, wOp, wUn, wCB, wNil, wCons, wTest, wAndT, wOrT, wNotT, wAndV, wOrV, wNotV, wIfE, wChain, wTup, wLst, wLstO, wCall, wMeth, wFld, wFst, wCv, wProp, wMake, wSl, wNo, wSome, intK, isBl, gN, gT, gCons', gNil', wSub, wAug, wPar, wBM, wIsT, wFor, wLc, wLcO, wYes, wiSeq, wiStr, wiRng1, wiRng2, wiZip, wFz, frz_lst, frz_tup, at1_0, at2_0, at2_1, at3_0, at3_1, at3_2, at4_0, at4_1, at4_2, at4_3, at5_0, at5_1, at5_2, at5_3, at5_4, seqOf_put, ED.xc, rIxD, rLenD, rIsD, rIntCD, rStrCD, rListD, rListO, rTupD, rAddD, rIntD, rInt0D, rEqD, rIsND, rNegD, rSlD, seqOf_lst, seqOf_tup, optK_some, insK_same, tyN_non, tyN_bl, tyN_int, tyN_str, tyN_tup, tyN_lst, tyN_dct, List.getElem?_cons_zero, List.getElem?_cons_succ, List.set_cons_zero, List.set_cons_succ, List.length_cons, List.length_nil, isB_NoneType_bool, isB_NoneType_int, isB_NoneType_str, isB_NoneType_tuple, isB_NoneType_list, isB_NoneType_dict, isB_bool_bool, isB_bool_int, isB_bool_str, isB_bool_tuple, isB_bool_list, isB_bool_dict, isB_int_bool, isB_int_int, isB_int_str, isB_int_tuple, isB_int_list, isB_int_dict, isB_str_bool, isB_str_int, isB_str_str, isB_str_tuple, isB_str_list, isB_str_dict, isB_tuple_bool, isB_tuple_int, isB_tuple_str, isB_tuple_tuple, isB_tuple_list, isB_tuple_dict, isB_list_bool, isB_list_int, isB_list_str, isB_list_tuple, isB_list_list, isB_list_dict, isB_dict_bool, isB_dict_int, isB_dict_str, isB_dict_tuple, isB_dict_list, isB_dict_dict, isC_bool, isC_int, isC_str, isC_tuple, isC_list, isC_dict, isA_list_tuple, isQ_NoneType, isQ_bool, isQ_int, isQ_str, isQ_tuple, isQ_list, isQ_dict, true_and, and_true, ↓reduceIte, Bool.not_true, Bool.not_false, Bool.false_eq_true, Bool.true_xor, Bool.false_xor, mput_mput]
  exact ⟨by omega, fin_of (q fs ss ws ⟨a1, b1, c1, a3, by omega, by omega⟩ o5 g5)⟩
theorem ok__law_ground {P : Program} {w : World} {K : PySem.W.Frag} {mg : Str → Option Value} {base : Heap} {A : Ad} (T : Txt K mg A) : FnJ P w K mg base 3 A.f__law_ground (sp__law_ground A) :=
  FnJ.mkAt T.d__law_ground sc__law_ground (fun cdv R outer s H E hr tk => bd__law_ground T cdv R outer s H E hr tk) (rd__law_ground A)
def sp__law_shape (A : Ad) : SpD := fun ds M Q _ => ∃ fs ss ws, ds = [grD fs ss ws] ∧ NamesOk fs ∧ NamesOk ss ∧ OwnOk fs ∧ Q (shp A fs ss) M
def wb__law_shape (A : Ad) : WS :=
  (wRet (wMake A.c_Shape (sp_Shape___init__ A) (wCons (wCB rListD (wCons (wOp rIxD (wVar 0) (wC (.int 0))) wNil)) (wCons (wCB rListD (wCons (wOp rIxD (wVar 0) (wC (.int 1))) wNil)) wNil))))
theorem bd__law_shape {P : Program} {w : World} {K : PySem.W.Frag} {mg : Str → Option Value} {base : Heap} {A : Ad} (T : Txt K mg A) (cdv : Value) (R : Around) (outer : List Env) (s : Shared) (H : Hp) (E : XK) (hr : Room 5 (R.deeper (envOfC "_law_shape" (defScope s__law_shape) s.heap.objs.size A.f__law_shape cdv)))
    (tk : Takes (cxOf (L2.CX P w) P w K mg base N__law_shape "_law_shape" (defScope s__law_shape) A.f__law_shape cdv R outer s H E) (WD E)) : JSs (cxOf (L2.CX P w) P w K mg base N__law_shape "_law_shape" (defScope s__law_shape) A.f__law_shape cdv R outer s H E) (WD E) (defBody s__law_shape) (wb__law_shape A) :=
  (js_one (js_ret (j_make (C := A.c_Shape) T.mk_Shape (ok_Shape___init__ T) hr (by decide) T.g_Shape tk (j_cons (j_callTy cd_list T.n_list bo_list (j_cons (j_ix id_ix (jv 0) j_int) j_nil)) (j_cons (j_callTy cd_list T.n_list bo_list (j_cons (j_ix id_ix (jv 0) j_int) j_nil)) j_nil)))))
theorem rd__law_shape (A : Ad) : ∀ ds M Q Xc, sp__law_shape A ds M Q Xc → ds.length = P__law_shape.length ∧ RD (wb__law_shape A) Q Xc (startD N__law_shape ds) M := by
  rintro _ M Q Xc ⟨fs, ss, ws, rfl, h1, h2, h3, q⟩
  refine ⟨rfl, ?_⟩
  rw [st__law_shape]
  simp only [RD, wb__law_shape, wipeD, wNx, wSeq_p, seqE_nx, seqE_rt, seqE_bk, seqE_ct, seqE_ex, wIf, wRet, wRetN, wDrop, wAsg, wBrk, wCnt, wVar, wGet, wC, wOp, wUn, wCB, wNil, wCons, wTest, wAndT, wOrT, wNotT, wAndV, wOrV, wNotV, wIfE, wChain, wTup, wLst, wLstO, wCall, wMeth, wFld, wFst, wCv, wProp, wMake, wSl, wNo, wSome, intK, isBl, gN, gT, gCons', gNil', wSub, wAug, wPar, wBM, wIsT, wFor, wLc, wLcO, wYes, wiSeq, wiStr, wiRng1, wiRng2, wiZip, wFz, frz_lst, frz_tup, at1_0, at2_0, at2_1, at3_0, at3_1, at3_2, at4_0, at4_1, at4_2, at4_3, at5_0, at5_1, at5_2, at5_3, at5_4, seqOf_put, ED.xc, rIxD, rLenD, rIsD, rIntCD, rStrCD, rListD, rListO, rTupD, rAddD, rIntD, rInt0D, rEqD, rIsND, rNegD, rSlD, seqOf_lst, seqOf_tup, optK_some, insK_same, tyN_non, tyN_bl, tyN_int, tyN_str, tyN_tup, tyN_lst, tyN_dct, List.getElem?_cons_zero, List.getElem?_cons_succ, List.set_cons_zero, List.set_cons_succ, List.length_cons, List.length_nil, isB_NoneType_bool, isB_NoneType_int, isB_NoneType_str, isB_NoneType_tuple, isB_NoneType_list, isB_NoneType_dict, isB_bool_bool, isB_bool_int, isB_bool_str, isB_bool_tuple, isB_bool_list, isB_bool_dict, isB_int_bool, isB_int_int, isB_int_str, isB_int_tuple, isB_int_list, isB_int_dict, isB_str_bool, isB_str_int, isB_str_str, isB_str_tuple, isB_str_list, isB_str_dict, isB_tuple_bool, isB_tuple_int, isB_tuple_str, isB_tuple_tuple, isB_tuple_list, isB_tuple_dict, isB_list_bool, isB_list_int, isB_list_str, isB_list_tuple, isB_list_list, isB_list_dict, isB_dict_bool, isB_dict_int, isB_dict_str, isB_dict_tuple, isB_dict_list, isB_dict_dict, isC_bool, isC_int, isC_str, isC_tuple, isC_list, isC_dict, isA_list_tuple, isQ_NoneType, isQ_bool, isQ_int, isQ_str, isQ_tuple, isQ_list, isQ_dict, true_and, and_true, ↓reduceIte, Bool.not_true, Bool.not_false, Bool.false_eq_true, Bool.true_xor, Bool.false_xor, grD]
  intro a ha
  refine ⟨a, fs, ss, rfl, mput_same, h1, h2, h3, rfl, ?_⟩
  rw [mput_mput]
  refine fin_ins mput_same (M' := M) ha (fun c u hc => ?_) (fin_of q)
  have e : c ≠ a := fun e => by subst e; rw [ha] at hc; cases hc
  rw [mput_ne e]
  exact hc
theorem ok__law_shape {P : Program} {w : World} {K : PySem.W.Frag} {mg : Str → Option Value} {base : Heap} {A : Ad} (T : Txt K mg A) : FnJ P w K mg base 6 A.f__law_shape (sp__law_shape A) :=
  FnJ.mkAt T.d__law_shape sc__law_shape (fun cdv R outer s H E hr tk => bd__law_shape T cdv R outer s H E hr tk) (rd__law_shape A)

/-! ### rows -/
def Wd (v : D) : Prop := v = .non ∨ ∃ w, v = .str w ∧ madeOf L36 8 (.str w) = true
structure RowAt (n : Nat) (ss : List Str) (m : Int) (d : D) : Prop where
  ex : ∃ s vs, d = .tup [.int m, .str s, .tup vs] ∧ s ∈ ss ∧ vs.length = n ∧ ∀ v ∈ vs, Wd v
theorem strOk_of {x L : Str} (hL : PyData.strOk L = true) (h : allIn x L = true) : PyData.strOk x = true := by
  unfold PyData.strOk at hL ⊢
  rw [Array.all_eq_true_iff_forall_mem] at hL ⊢
  intro c hc
  exact hL c (Array.mem_def.mpr (all_in_iff.mp h c (Array.mem_def.mp hc)))
theorem made_nc {L x : Str} {n : Nat} (hL : PyData.strOk L = true) (h : madeOf L 8 (.str x) = true) : Nc (.str x) n := by
  have q := made_len h
  exact ⟨by omega, strOk_of hL q.2.2⟩
theorem okLET : PyData.strOk LET = true := by decide +kernel
theorem ok36 : PyData.strOk L36 = true := by decide +kernel
theorem Wd.nc {v : D} {n : Nat} (h : Wd v) : Nc v n := by
  rcases h with rfl | ⟨w, rfl, h⟩
  · trivial
  · exact made_nc ok36 h
theorem Wd.ok {v : D} (h : Wd v) : wordOk v = true := by
  rcases h with rfl | ⟨w, rfl, h⟩
  · rfl
  · exact h
theorem RowAt.nc {n : Nat} {ss : List Str} {m : Int} {d : D} (h : RowAt n ss m d) (hs : NamesOk ss) (hn : n < 3000) : Nc d 2 := by
  obtain ⟨s, vs, rfl, h1, h2, h3⟩ := h.ex
  refine ⟨⟨by decide, by simp⟩, trivial, made_nc okLET (hs.ok s h1), ⟨⟨by decide, by omega⟩, Ncs_iff.mpr fun v hv => (h3 v hv).nc⟩, trivial⟩
theorem RowAt.is {n : Nat} {ss : List Str} {m : Int} {d : D} (h : RowAt n ss m d) : isRow n ss d = true := by
  obtain ⟨s, vs, rfl, h1, h2, h3⟩ := h.ex
  show (true && ((ss.any fun y => decide (y = s)) && (decide (vs.length = n) && vs.all wordOk))) = true
  rw [decide_eq_true h2, List.all_eq_true.mpr fun v hv => (h3 v hv).ok, List.any_eq_true.mpr ⟨s, h1, decide_eq_true rfl⟩]
  rfl
theorem RowAt.mom {n : Nat} {ss : List Str} {m : Int} {d : D} (h : RowAt n ss m d) : momI d = m := by
  obtain ⟨s, vs, rfl, _⟩ := h.ex
  rfl
theorem RowAt.leaf {n : Nat} {ss : List Str} {m : Int} {d : D} (h : RowAt n ss m d) : isPair d = false := by
  obtain ⟨s, vs, rfl, _⟩ := h.ex
  rfl
/-- the bag stands, and may be any bag behind -/
def sp__law_row (A : Ad) : SpD := fun ds M Q _ => ∃ b fs ss ws m o nf ns, ds = [.ref b, grD fs ss ws, .int m] ∧ GrOk nf ns fs ss ws ∧ M b = some o ∧ Bg o ∧ ∀ d, RowAt fs.length ss m d → ∀ o', Bg o' → Q d (mput M b o')
def wb__law_row (A : Ad) : WS :=
  (wSeq (wAsg (wLc (wiSeq (wOp rIxD (wVar 1) (wC (.int 0)))) (gN 4) wYes (wIfE (wTest (wOp (rEqD false) (wCall (sp__law_pull A) (wCons (wVar 0) (wCons (wC (.int 3)) wNil))) (wC (.int 0)))) (wC .non) (wCall (sp__law_any A) (wCons (wVar 0) (wCons (wOp rIxD (wVar 1) (wC (.int 2))) wNil)))) [4]) (gN 3))
  (wRet (wTup (wCons (wVar 2) (wCons (wCall (sp__law_any A) (wCons (wVar 0) (wCons (wOp rIxD (wVar 1) (wC (.int 1))) wNil))) (wCons (wCB rTupD (wCons (wVar 3) wNil)) wNil))))))
theorem bd__law_row {P : Program} {w : World} {K : PySem.W.Frag} {mg : Str → Option Value} {base : Heap} {A : Ad} (T : Txt K mg A) (cdv : Value) (R : Around) (outer : List Env) (s : Shared) (H : Hp) (E : XK) (hr : Room 2 (R.deeper (envOfC "_law_row" (defScope s__law_row) s.heap.objs.size A.f__law_row cdv)))
    (tk : Takes (cxOf (L2.CX P w) P w K mg base N__law_row "_law_row" (defScope s__law_row) A.f__law_row cdv R outer s H E) (WD E)) : JSs (cxOf (L2.CX P w) P w K mg base N__law_row "_law_row" (defScope s__law_row) A.f__law_row cdv R outer s H E) (WD E) (defBody s__law_row) (wb__law_row A) :=
  (js_cons (js_setLc (own := [("_law_name", 4)]) rfl sc__law_row.nd (ji_seq (j_ix id_ix (jv 1) j_int)) (blkOk_by (own := [("_law_name", 4)]) (N := N__law_row) (sc := defScope s__law_row) (by decide +kernel)) (fun _ _ _ _ _ => (jg_name (i := 4) sc__law_row.nd)) (fun _ _ _ _ _ => jts_nil) (fun _ _ _ _ _ => (j_if (jt_cmp (od_eq hr.units) (j_call (ok__law_pull T) hr (by decide) T.g__law_pull tkF (j_cons (jv 0) (j_cons j_int j_nil))) j_int) j_non (j_call (ok__law_any T) hr (by decide) T.g__law_any tkF (j_cons (jv 0) (j_cons (j_ix id_ix (jv 1) j_int) j_nil))))))
  (js_one (js_ret (j_tup (j_cons (jv 2) (j_cons (j_call (ok__law_any T) hr (by decide) T.g__law_any tk (j_cons (jv 0) (j_cons (j_ix id_ix (jv 1) j_int) j_nil))) (j_cons (j_callTy cd_tup T.n_tuple bo_tuple (j_cons (jv 3) j_nil)) j_nil)))))))
theorem any_b (A : Ad) {b : Addr} {M N : Mem} {xs : List D} {Q : KN} {Xc : KX} (hb : Bgd M b N) (h1 : xs ≠ []) (h2 : xs.length < 900000) (q : ∀ x ∈ xs, ∀ N', Bgd M b N' → Bgd N b N' → Q x N') : sp__law_any A [.ref b, .lst xs] N Q Xc := by
  obtain ⟨o, e, g⟩ := bgd_at hb
  exact ⟨b, xs, o, rfl, e, g, h1, h2, fun x hx o' ho => q x hx _ (bgd_put hb ho) ⟨o', ho, rfl⟩⟩
theorem rd__law_row (A : Ad) : ∀ ds M Q Xc, sp__law_row A ds M Q Xc → ds.length = P__law_row.length ∧ RD (wb__law_row A) Q Xc (startD N__law_row ds) M := by
  rintro _ M Q Xc ⟨b, fs, ss, ws, m, o, nf, ns, rfl, gr, hb, g, q⟩
  refine ⟨rfl, ?_⟩
  rw [st__law_row]
  have big := sizeLine_big
  have hw : (ws.map D.str) ≠ [] := fun e => by have := gr.w.len; rw [List.map_eq_nil_iff.mp e] at this; cases this
  have hs : (ss.map D.str) ≠ [] := fun e => by have := gr.s.lo; rw [List.map_eq_nil_iff.mp e] at this; cases this
  simp only [RD, wb__law_row, wipeD, wNx, wSeq_p, seqE_nx, seqE_rt, seqE_bk, seqE_ct, seqE_ex, wIf, wRet, wRetN, wDrop, wAsg, wBrk, wCnt, wVar, wGet, wC, wOp, wUn, wCB, wNil, wCons, wTest, wAndT, wOrT, wNotT, wAndV, wOrV, wNotV, wIfE, wChain, wTup, wLst, wLstO, wCall, wMeth, wFld, wFst, wCv, wProp, wMake, wSl, wNo, wSome, intK, isBl, gN, gT, gCons', gNil', wSub, wAug, wPar, wBM, wIsT, wFor, wLc, wLcO, wYes, wiSeq, wiStr, wiRng1, wiRng2, wiZip, wFz, frz_lst, frz_tup, at1_0, at2_0, at2_1, at3_0, at3_1, at3_2, at4_0, at4_1, at4_2, at4_3, at5_0, at5_1, at5_2, at5_3, at5_4, seqOf_put, ED.xc, rIxD, rLenD, rIsD, rIntCD, rStrCD, rListD, rListO, rTupD, rAddD, rIntD, rInt0D, rEqD, rIsND, rNegD, rSlD, seqOf_lst, seqOf_tup, optK_some, insK_same, tyN_non, tyN_bl, tyN_int, tyN_str, tyN_tup, tyN_lst, tyN_dct, List.getElem?_cons_zero, List.getElem?_cons_succ, List.set_cons_zero, List.set_cons_succ, List.length_cons, List.length_nil, isB_NoneType_bool, isB_NoneType_int, isB_NoneType_str, isB_NoneType_tuple, isB_NoneType_list, isB_NoneType_dict, isB_bool_bool, isB_bool_int, isB_bool_str, isB_bool_tuple, isB_bool_list, isB_bool_dict, isB_int_bool, isB_int_int, isB_int_str, isB_int_tuple, isB_int_list, isB_int_dict, isB_str_bool, isB_str_int, isB_str_str, isB_str_tuple, isB_str_list, isB_str_dict, isB_tuple_bool, isB_tuple_int, isB_tuple_str, isB_tuple_tuple, isB_tuple_list, isB_tuple_dict, isB_list_bool, isB_list_int, isB_list_str, isB_list_tuple, isB_list_list, isB_list_dict, isB_dict_bool, isB_dict_int, isB_dict_str, isB_dict_tuple, isB_dict_list, isB_dict_dict, isC_bool, isC_int, isC_str, isC_tuple, isC_list, isC_dict, isA_list_tuple, isQ_NoneType, isQ_bool, isQ_int, isQ_str, isQ_tuple, isQ_list, isQ_dict, true_and, and_true, ↓reduceIte, Bool.not_true, Bool.not_false, Bool.false_eq_true, Bool.true_xor, Bool.false_xor, grD]
  refine lcR_ind (fun its acc N => acc.length + its.length = fs.length ∧ (∀ v ∈ acc, Wd v) ∧ Bgd M b N) ?_ ?_ (fs.map D.str) [] M ⟨by simp, by simp, bgd_rfl hb g⟩
  · rintro acc N ⟨l, hv, hN⟩
    refine any_b A hN hs (by rw [List.length_map]; have := gr.s.hi; omega) fun x hx N2 hN2 _ => ?_
    obtain ⟨s, hs', rfl⟩ := List.mem_map.mp hx
    refine ⟨by omega, ?_⟩
    obtain ⟨o2, g2, rfl⟩ := hN2
    exact fin_of (q _ ⟨s, acc, rfl, hs', by simpa using l, hv⟩ o2 g2)
  · rintro d its acc N R hR ⟨l, hv, hN⟩
    rw [List.length_cons] at l
    have := gr.f.hi
    simp only [wipeD, wNx, wSeq_p, seqE_nx, seqE_rt, seqE_bk, seqE_ct, seqE_ex, wIf, wRet, wRetN, wDrop, wAsg, wBrk, wCnt, wVar, wGet, wC, wOp, wUn, wCB, wNil, wCons, wTest, wAndT, wOrT, wNotT, wAndV, wOrV, wNotV, wIfE, wChain, wTup, wLst, wLstO, wCall, wMeth, wFld, wFst, wCv, wProp, wMake, wSl, wNo, wSome, intK, isBl, gN, gT, gCons', gNil', wSub, wAug, wPar, wBM, wIsT, wFor, wLc, wLcO, wYes, wiSeq, wiStr, wiRng1, wiRng2, wiZip, wFz, frz_lst, frz_tup, at1_0, at2_0, at2_1, at3_0, at3_1, at3_2, at4_0, at4_1, at4_2, at4_3, at5_0, at5_1, at5_2, at5_3, at5_4, seqOf_put, ED.xc, rIxD, rLenD, rIsD, rIntCD, rStrCD, rListD, rListO, rTupD, rAddD, rIntD, rInt0D, rEqD, rIsND, rNegD, rSlD, seqOf_lst, seqOf_tup, optK_some, insK_same, tyN_non, tyN_bl, tyN_int, tyN_str, tyN_tup, tyN_lst, tyN_dct, List.getElem?_cons_zero, List.getElem?_cons_succ, List.set_cons_zero, List.set_cons_succ, List.length_cons, List.length_nil, isB_NoneType_bool, isB_NoneType_int, isB_NoneType_str, isB_NoneType_tuple, isB_NoneType_list, isB_NoneType_dict, isB_bool_bool, isB_bool_int, isB_bool_str, isB_bool_tuple, isB_bool_list, isB_bool_dict, isB_int_bool, isB_int_int, isB_int_str, isB_int_tuple, isB_int_list, isB_int_dict, isB_str_bool, isB_str_int, isB_str_str, isB_str_tuple, isB_str_list, isB_str_dict, isB_tuple_bool, isB_tuple_int, isB_tuple_str, isB_tuple_tuple, isB_tuple_list, isB_tuple_dict, isB_list_bool, isB_list_int, isB_list_str, isB_list_tuple, isB_list_list, isB_list_dict, isB_dict_bool, isB_dict_int, isB_dict_str, isB_dict_tuple, isB_dict_list, isB_dict_dict, isC_bool, isC_int, isC_str, isC_tuple, isC_list, isC_dict, isA_list_tuple, isQ_NoneType, isQ_bool, isQ_int, isQ_str, isQ_tuple, isQ_list, isQ_dict, true_and, and_true, ↓reduceIte, Bool.not_true, Bool.not_false, Bool.false_eq_true, Bool.true_xor, Bool.false_xor]
    refine pull_b A hN (by omega) (by omega) fun v hv2 N2 hN2 _ => ?_
    by_cases h0 : (v : Int) = 0
    · simp only [h0, decide_true, wipeD, wNx, wSeq_p, seqE_nx, seqE_rt, seqE_bk, seqE_ct, seqE_ex, wIf, wRet, wRetN, wDrop, wAsg, wBrk, wCnt, wVar, wGet, wC, wOp, wUn, wCB, wNil, wCons, wTest, wAndT, wOrT, wNotT, wAndV, wOrV, wNotV, wIfE, wChain, wTup, wLst, wLstO, wCall, wMeth, wFld, wFst, wCv, wProp, wMake, wSl, wNo, wSome, intK, isBl, gN, gT, gCons', gNil', wSub, wAug, wPar, wBM, wIsT, wFor, wLc, wLcO, wYes, wiSeq, wiStr, wiRng1, wiRng2, wiZip, wFz, frz_lst, frz_tup, at1_0, at2_0, at2_1, at3_0, at3_1, at3_2, at4_0, at4_1, at4_2, at4_3, at5_0, at5_1, at5_2, at5_3, at5_4, seqOf_put, ED.xc, rIxD, rLenD, rIsD, rIntCD, rStrCD, rListD, rListO, rTupD, rAddD, rIntD, rInt0D, rEqD, rIsND, rNegD, rSlD, seqOf_lst, seqOf_tup, optK_some, insK_same, tyN_non, tyN_bl, tyN_int, tyN_str, tyN_tup, tyN_lst, tyN_dct, List.getElem?_cons_zero, List.getElem?_cons_succ, List.set_cons_zero, List.set_cons_succ, List.length_cons, List.length_nil, isB_NoneType_bool, isB_NoneType_int, isB_NoneType_str, isB_NoneType_tuple, isB_NoneType_list, isB_NoneType_dict, isB_bool_bool, isB_bool_int, isB_bool_str, isB_bool_tuple, isB_bool_list, isB_bool_dict, isB_int_bool, isB_int_int, isB_int_str, isB_int_tuple, isB_int_list, isB_int_dict, isB_str_bool, isB_str_int, isB_str_str, isB_str_tuple, isB_str_list, isB_str_dict, isB_tuple_bool, isB_tuple_int, isB_tuple_str, isB_tuple_tuple, isB_tuple_list, isB_tuple_dict, isB_list_bool, isB_list_int, isB_list_str, isB_list_tuple, isB_list_list, isB_list_dict, isB_dict_bool, isB_dict_int, isB_dict_str, isB_dict_tuple, isB_dict_list, isB_dict_dict, isC_bool, isC_int, isC_str, isC_tuple, isC_list, isC_dict, isA_list_tuple, isQ_NoneType, isQ_bool, isQ_int, isQ_str, isQ_tuple, isQ_list, isQ_dict, true_and, and_true, ↓reduceIte, Bool.not_true, Bool.not_false, Bool.false_eq_true, Bool.true_xor, Bool.false_xor]
      refine ⟨by omega, hR _ _ ⟨by rw [List.length_append, List.length_singleton]; omega, fun z hz => ?_, hN2⟩⟩
      rcases List.mem_append.mp hz with hz | hz
      · exact hv z hz
      · rw [List.mem_singleton.mp hz]; exact .inl rfl
    · simp only [h0, decide_false, wipeD, wNx, wSeq_p, seqE_nx, seqE_rt, seqE_bk, seqE_ct, seqE_ex, wIf, wRet, wRetN, wDrop, wAsg, wBrk, wCnt, wVar, wGet, wC, wOp, wUn, wCB, wNil, wCons, wTest, wAndT, wOrT, wNotT, wAndV, wOrV, wNotV, wIfE, wChain, wTup, wLst, wLstO, wCall, wMeth, wFld, wFst, wCv, wProp, wMake, wSl, wNo, wSome, intK, isBl, gN, gT, gCons', gNil', wSub, wAug, wPar, wBM, wIsT, wFor, wLc, wLcO, wYes, wiSeq, wiStr, wiRng1, wiRng2, wiZip, wFz, frz_lst, frz_tup, at1_0, at2_0, at2_1, at3_0, at3_1, at3_2, at4_0, at4_1, at4_2, at4_3, at5_0, at5_1, at5_2, at5_3, at5_4, seqOf_put, ED.xc, rIxD, rLenD, rIsD, rIntCD, rStrCD, rListD, rListO, rTupD, rAddD, rIntD, rInt0D, rEqD, rIsND, rNegD, rSlD, seqOf_lst, seqOf_tup, optK_some, insK_same, tyN_non, tyN_bl, tyN_int, tyN_str, tyN_tup, tyN_lst, tyN_dct, List.getElem?_cons_zero, List.getElem?_cons_succ, List.set_cons_zero, List.set_cons_succ, List.length_cons, List.length_nil, isB_NoneType_bool, isB_NoneType_int, isB_NoneType_str, isB_NoneType_tuple, isB_NoneType_list, isB_NoneType_dict, isB_bool_bool, isB_bool_int, isB_bool_str, isB_bool_tuple, isB_bool_list, isB_bool_dict, isB_int_bool, isB_int_int, isB_int_str, isB_int_tuple, isB_int_list, isB_int_dict, isB_str_bool, isB_str_int, isB_str_str, isB_str_tuple, isB_str_list, isB_str_dict, isB_tuple_bool, isB_tuple_int, isB_tuple_str, isB_tuple_tuple, isB_tuple_list, isB_tuple_dict, isB_list_bool, isB_list_int, isB_list_str, isB_list_tuple, isB_list_list, isB_list_dict, isB_dict_bool, isB_dict_int, isB_dict_str, isB_dict_tuple, isB_dict_list, isB_dict_dict, isC_bool, isC_int, isC_str, isC_tuple, isC_list, isC_dict, isA_list_tuple, isQ_NoneType, isQ_bool, isQ_int, isQ_str, isQ_tuple, isQ_list, isQ_dict, true_and, and_true, ↓reduceIte, Bool.not_true, Bool.not_false, Bool.false_eq_true, Bool.true_xor, Bool.false_xor]
      refine any_b A hN2 hw (by rw [List.length_map, gr.w.len]; omega) fun x hx N3 hN3 _ => ?_
      obtain ⟨w, hw', rfl⟩ := List.mem_map.mp hx
      refine ⟨by omega, hR _ _ ⟨by rw [List.length_append, List.length_singleton]; omega, fun z hz => ?_, hN3⟩⟩
      rcases List.mem_append.mp hz with hz | hz
      · exact hv z hz
      · rw [List.mem_singleton.mp hz]; exact .inr ⟨w, rfl, gr.w.ok w hw'⟩
theorem ok__law_row {P : Program} {w : World} {K : PySem.W.Frag} {mg : Str → Option Value} {base : Heap} {A : Ad} (T : Txt K mg A) : FnJ P w K mg base 3 A.f__law_row (sp__law_row A) :=
  FnJ.mkAt T.d__law_row sc__law_row (fun cdv R outer s H E hr tk => bd__law_row T cdv R outer s H E hr tk) (rd__law_row A)
/-- some rows: of unlike moments near one another -/
structure RowsOk (n : Nat) (ss : List Str) (many : Nat) (rows : List D) : Prop where
  len : rows.length = many
  row : ∀ d ∈ rows, RowAt n ss (momI d) d
  nd : (rows.map momI).Nodup
  near : ∃ base : Int, -(10 ^ 29) ≤ base ∧ base ≤ 10 ^ 29 ∧ ∀ d ∈ rows, base < momI d ∧ momI d ≤ base + 3 * many
/-! ### trees -/
theorem leaf_flat {xs : List D} (h : ∀ x ∈ xs, isPair x = false) : xs.flatMap leavesD = xs := by
  induction xs with
  | nil => rfl
  | cons x xs ih =>
    rw [List.flatMap_cons, leaves_one (h x List.mem_cons_self), ih fun y hy => h y (List.mem_cons_of_mem _ hy)]
    rfl

end DL.K09
namespace DL.K09
open PySem PySem.Spec PyProof.Rows L2 RZ
/-! ### conditions -/
def sp_head (A : Ad) : SpD := fun ds M Q _ => ∃ w cs p, ds = [.tup (.str w :: cs), p] ∧ Q (.str w) M
def wb_head (A : Ad) : WS :=
  (wSeq (wIf (wOrT (wNotT (wTest (wCB rIsD (wCons (wVar 0) (wCons (wC (.ty "tuple")) wNil))))) (wOrT (wTest (wOp (rEqD false) (wCB rLenD (wCons (wVar 0) wNil)) (wC (.int 0)))) (wNotT (wTest (wCB rIsD (wCons (wOp rIxD (wVar 0) (wC (.int 0))) (wCons (wC (.ty "str")) wNil)))))))
  wNever
  wNx)
  (wRet (wOp rIxD (wVar 0) (wC (.int 0)))))
theorem bd_head {P : Program} {w : World} {K : PySem.W.Frag} {mg : Str → Option Value} {base : Heap} {A : Ad} (T : Txt K mg A) (cdv : Value) (R : Around) (outer : List Env) (s : Shared) (H : Hp) (E : XK) (hr : Room 0 (R.deeper (envOfC "head" (defScope s_head) s.heap.objs.size A.f_head cdv)))
    (tk : Takes (cxOf (L2.CX P w) P w K mg base N_head "head" (defScope s_head) A.f_head cdv R outer s H E) (WD E)) : JSs (cxOf (L2.CX P w) P w K mg base N_head "head" (defScope s_head) A.f_head cdv R outer s H E) (WD E) (defBody s_head) (wb_head A) :=
  (js_cons (js_if (jt_bool (jt_or (jt_not (jt_val (j_callB cd_isi T.n_isinstance bo_isinstance (j_cons (jv 0) (j_cons (j_bltn T.n_tuple bo_tuple) j_nil))))) (jt_or (jt_cmp (od_eq hr.units) (j_callB cd_len T.n_len bo_len (j_cons (jv 0) j_nil)) j_int) (jt_or1 (jt_not (jt_val (j_callB cd_isi T.n_isinstance bo_isinstance (j_cons (j_ix id_ix (jv 0) j_int) (j_cons (j_bltn T.n_str bo_str) j_nil)))))))))
  jss_never
  js_nil)
  (js_one (js_ret (j_ix id_ix (jv 0) j_int))))
theorem rd_head (A : Ad) : ∀ ds M Q Xc, sp_head A ds M Q Xc → ds.length = P_head.length ∧ RD (wb_head A) Q Xc (startD N_head ds) M := by
  rintro _ M Q Xc ⟨w, cs, p, rfl, q⟩
  refine ⟨rfl, ?_⟩
  rw [st_head]
  simp only [RD, wb_head, ↓pVar, ↓pGet, ↓pC, ↓pOp, ↓pUn, ↓pCB, ↓pNil, ↓pCons, ↓pTest, ↓pBl, ↓pAndT, ↓pOrT, ↓pNotT, ↓pAndV, ↓pOrV, ↓pNotV, ↓pIfE, ↓pTup, ↓pLst, ↓pLstO, ↓pCall, ↓pMeth, ↓pFld, ↓pProp, ↓pMake, ↓pCv, ↓pSl, ↓pNo, ↓pSome, ↓pIntK, ↓pN, ↓pT, ↓pGC, ↓pGN, ↓pIf, ↓pRet, ↓pRetN, ↓pDrop, ↓pAsg, ↓pNx, ↓pBrk, ↓pCnt, ↓pNever, ↓pSub, ↓pAug, ↓pPar, ↓pParK, ↓pBM, ↓pFor, ↓pLc, ↓pLcO, ↓pYes, ↓piSeq, ↓piStr, ↓pStrK, ↓piRng1, ↓pRng1K, ↓piRng2, ↓pRng2K, ↓piEnum, ↓pEnumK, ↓piZip, ↓pZipL, ↓pZipT, ↓pFz, ↓pLenSet, ↓pIsT, ↓rIx_lst, ↓rIx_tup, ↓rIx_ref, ↓rIx_str, ↓rLen_str, ↓rLen_lst, ↓rLen_tup, ↓rLen_ref, ↓rIs_p, ↓rInt_int, ↓rInt_bl, ↓rStr_int, ↓rList_p, ↓rListO_p, ↓rTup_p, ↓rAdd_int, ↓rAdd_str, ↓rAdd_tup, ↓rAdd_lst, ↓rIntD_p, ↓rInt0_p, ↓rEq_int, ↓rEq_str, ↓rEq_bl, ↓rEq_lst, ↓rEq_tup, ↓rIsN_non, ↓rIsN_bl, ↓rIsN_int, ↓rIsN_str, ↓rIsN_tup, ↓rIsN_lst, ↓rNeg_p, ↓rSl_str, ↓rSl_tup, ↓rSl_lst, ↓rSl_scr, ↓rRep_p, ↓pOptK, ↓pChain, ↓pIfT, ↓pCallK, ↓pDzip, ↓pDzipK, ↓pDzipO, ↓pDzipKO, ↓rIsB_bl, ↓rDix_str, ↓rDix_int, ↓rIn_tup, ↓rIn_lst, ↓rEq_ns, ↓rEq_sn, ↓rRepT_p, ↓rAll_f, ↓rAll_t, ↓wSeq_p, ↓seqE_nx, ↓reduceIte, at_0, at_1, at_2, at_3, cut_1, cut_2, dl_0_0, dl_0_1, dl_0_2, dl_0_3, dl_0_4, dl_0_5, dl_1_0, dl_1_1, dl_1_2, dl_1_3, dl_1_4, dl_1_5, dl_2_0, dl_2_1, dl_2_2, dl_2_3, dl_2_4, dl_2_5, dl_3_0, dl_3_1, dl_3_2, dl_3_3, dl_3_4, dl_3_5, dl_4_0, dl_4_1, dl_4_2, dl_4_3, dl_4_4, dl_4_5, dn_1_0, dn_2_0, dn_2_1, dn_3_0, dn_3_1, dn_3_2, dn_4_0, dn_4_1, dn_4_2, dn_4_3, seqE_rt, seqE_bk, seqE_ct, seqE_ex, wipeD, frz_lst, frz_tup, at1_0, at2_0, at2_1, at3_0, at3_1, at3_2, at4_0, at4_1, at4_2, at4_3, at5_0, at5_1, at5_2, at5_3, at5_4, seqOf_put, seqOf_lst, seqOf_tup, insK_same, tyN_non, tyN_bl, tyN_int, tyN_str, tyN_tup, tyN_lst, tyN_dct, List.getElem?_cons_zero, List.getElem?_cons_succ, List.set_cons_zero, List.set_cons_succ, List.length_cons, List.length_nil, isB_NoneType_bool, isB_NoneType_int, isB_NoneType_str, isB_NoneType_tuple, isB_NoneType_list, isB_NoneType_dict, isB_bool_bool, isB_bool_int, isB_bool_str, isB_bool_tuple, isB_bool_list, isB_bool_dict, isB_int_bool, isB_int_int, isB_int_str, isB_int_tuple, isB_int_list, isB_int_dict, isB_str_bool, isB_str_int, isB_str_str, isB_str_tuple, isB_str_list, isB_str_dict, isB_tuple_bool, isB_tuple_int, isB_tuple_str, isB_tuple_tuple, isB_tuple_list, isB_tuple_dict, isB_list_bool, isB_list_int, isB_list_str, isB_list_tuple, isB_list_list, isB_list_dict, isB_dict_bool, isB_dict_int, isB_dict_str, isB_dict_tuple, isB_dict_list, isB_dict_dict, isC_bool, isC_int, isC_str, isC_tuple, isC_list, isC_dict, isA_list_tuple, isQ_NoneType, isQ_bool, isQ_int, isQ_str, isQ_tuple, isQ_list, isQ_dict, true_and, and_true, Bool.not_true, Bool.not_false, Bool.false_eq_true, Bool.true_xor, Bool.false_xor]
  exact fin_of q
theorem ok_head {P : Program} {w : World} {K : PySem.W.Frag} {mg : Str → Option Value} {base : Heap} {A : Ad} (T : Txt K mg A) : FnJ P w K mg base 1 A.f_head (sp_head A) :=
  FnJ.mkAt T.d_head sc_head (fun cdv R outer s H E hr tk => bd_head T cdv R outer s H E hr tk) (rd_head A)
theorem inD_flat {d : D} (h : pl d = true) : ∀ ss : List Str, inD d (ss.map D.str) = strIn ss d
  | [] => by cases d <;> rfl
  | y :: ss => by
    show (deq (.str y) d || inD d (ss.map D.str)) = _
    rw [inD_flat h ss]
    cases d <;> try exact absurd h Bool.false_ne_true
    case str x =>
      rw [deq_str]
      rfl
    all_goals rfl
def sp_is_field (A : Ad) : SpD := fun ds M Q _ => ∃ fs ss d, ds = [shp A fs ss, d] ∧ pl d = true ∧ Q (.bl (strIn fs d)) M
def wb_is_field (A : Ad) : WS :=
  (wRet (wAndV (wCB rIsD (wCons (wVar 1) (wCons (wC (.ty "str")) wNil))) (wOp (rInD false) (wVar 1) (wProp A.c_Shape ns_Shape (sp_Shape_fields A) (wVar 0)))))
theorem bd_is_field {P : Program} {w : World} {K : PySem.W.Frag} {mg : Str → Option Value} {base : Heap} {A : Ad} (T : Txt K mg A) (cdv : Value) (R : Around) (outer : List Env) (s : Shared) (H : Hp) (E : XK) (hr : Room 2 (R.deeper (envOfC "is_field" (defScope s_is_field) s.heap.objs.size A.f_is_field cdv)))
    (tk : Takes (cxOf (L2.CX P w) P w K mg base N_is_field "is_field" (defScope s_is_field) A.f_is_field cdv R outer s H E) (WD E)) : JSs (cxOf (L2.CX P w) P w K mg base N_is_field "is_field" (defScope s_is_field) A.f_is_field cdv R outer s H E) (WD E) (defBody s_is_field) (wb_is_field A) :=
  (js_one (js_ret (j_and (j_callB cd_isi T.n_isinstance bo_isinstance (j_cons (jv 1) (j_cons (j_bltn T.n_str bo_str) j_nil))) (j_one (j_cmp od_in (jv 1) (j_prop (C := A.c_Shape) (ns := ns_Shape) (jv 0) T.cl_Shape T.p_Shape_fields (ok_Shape_fields T) hr (by decide)))))))
theorem rd_is_field (A : Ad) : ∀ ds M Q Xc, sp_is_field A ds M Q Xc → ds.length = P_is_field.length ∧ RD (wb_is_field A) Q Xc (startD N_is_field ds) M := by
  rintro _ M Q Xc ⟨fs, ss, d, rfl, hp, q⟩
  refine ⟨rfl, ?_⟩
  rw [st_is_field]
  cases d <;> try exact absurd hp Bool.false_ne_true
  case str x =>
    simp only [RD, wb_is_field, ↓pVar, ↓pGet, ↓pC, ↓pOp, ↓pUn, ↓pCB, ↓pNil, ↓pCons, ↓pTest, ↓pBl, ↓pAndT, ↓pOrT, ↓pNotT, ↓pAndV, ↓pOrV, ↓pNotV, ↓pIfE, ↓pTup, ↓pLst, ↓pLstO, ↓pCall, ↓pMeth, ↓pFld, ↓pProp, ↓pMake, ↓pCv, ↓pSl, ↓pNo, ↓pSome, ↓pIntK, ↓pN, ↓pT, ↓pGC, ↓pGN, ↓pIf, ↓pRet, ↓pRetN, ↓pDrop, ↓pAsg, ↓pNx, ↓pBrk, ↓pCnt, ↓pNever, ↓pSub, ↓pAug, ↓pPar, ↓pParK, ↓pBM, ↓pFor, ↓pLc, ↓pLcO, ↓pYes, ↓piSeq, ↓piStr, ↓pStrK, ↓piRng1, ↓pRng1K, ↓piRng2, ↓pRng2K, ↓piEnum, ↓pEnumK, ↓piZip, ↓pZipL, ↓pZipT, ↓pFz, ↓pLenSet, ↓pIsT, ↓rIx_lst, ↓rIx_tup, ↓rIx_ref, ↓rIx_str, ↓rLen_str, ↓rLen_lst, ↓rLen_tup, ↓rLen_ref, ↓rIs_p, ↓rInt_int, ↓rInt_bl, ↓rStr_int, ↓rList_p, ↓rListO_p, ↓rTup_p, ↓rAdd_int, ↓rAdd_str, ↓rAdd_tup, ↓rAdd_lst, ↓rIntD_p, ↓rInt0_p, ↓rEq_int, ↓rEq_str, ↓rEq_bl, ↓rEq_lst, ↓rEq_tup, ↓rIsN_non, ↓rIsN_bl, ↓rIsN_int, ↓rIsN_str, ↓rIsN_tup, ↓rIsN_lst, ↓rNeg_p, ↓rSl_str, ↓rSl_tup, ↓rSl_lst, ↓rSl_scr, ↓rRep_p, ↓pOptK, ↓pChain, ↓pIfT, ↓pCallK, ↓pDzip, ↓pDzipK, ↓pDzipO, ↓pDzipKO, ↓rIsB_bl, ↓rDix_str, ↓rDix_int, ↓rIn_tup, ↓rIn_lst, ↓rEq_ns, ↓rEq_sn, ↓rRepT_p, ↓rAll_f, ↓rAll_t, ↓wSeq_p, ↓seqE_nx, ↓reduceIte, at_0, at_1, at_2, at_3, cut_1, cut_2, dl_0_0, dl_0_1, dl_0_2, dl_0_3, dl_0_4, dl_0_5, dl_1_0, dl_1_1, dl_1_2, dl_1_3, dl_1_4, dl_1_5, dl_2_0, dl_2_1, dl_2_2, dl_2_3, dl_2_4, dl_2_5, dl_3_0, dl_3_1, dl_3_2, dl_3_3, dl_3_4, dl_3_5, dl_4_0, dl_4_1, dl_4_2, dl_4_3, dl_4_4, dl_4_5, dn_1_0, dn_2_0, dn_2_1, dn_3_0, dn_3_1, dn_3_2, dn_4_0, dn_4_1, dn_4_2, dn_4_3, seqE_rt, seqE_bk, seqE_ct, seqE_ex, wipeD, frz_lst, frz_tup, at1_0, at2_0, at2_1, at3_0, at3_1, at3_2, at4_0, at4_1, at4_2, at4_3, at5_0, at5_1, at5_2, at5_3, at5_4, seqOf_put, seqOf_lst, seqOf_tup, insK_same, tyN_non, tyN_bl, tyN_int, tyN_str, tyN_tup, tyN_lst, tyN_dct, List.getElem?_cons_zero, List.getElem?_cons_succ, List.set_cons_zero, List.set_cons_succ, List.length_cons, List.length_nil, isB_NoneType_bool, isB_NoneType_int, isB_NoneType_str, isB_NoneType_tuple, isB_NoneType_list, isB_NoneType_dict, isB_bool_bool, isB_bool_int, isB_bool_str, isB_bool_tuple, isB_bool_list, isB_bool_dict, isB_int_bool, isB_int_int, isB_int_str, isB_int_tuple, isB_int_list, isB_int_dict, isB_str_bool, isB_str_int, isB_str_str, isB_str_tuple, isB_str_list, isB_str_dict, isB_tuple_bool, isB_tuple_int, isB_tuple_str, isB_tuple_tuple, isB_tuple_list, isB_tuple_dict, isB_list_bool, isB_list_int, isB_list_str, isB_list_tuple, isB_list_list, isB_list_dict, isB_dict_bool, isB_dict_int, isB_dict_str, isB_dict_tuple, isB_dict_list, isB_dict_dict, isC_bool, isC_int, isC_str, isC_tuple, isC_list, isC_dict, isA_list_tuple, isQ_NoneType, isQ_bool, isQ_int, isQ_str, isQ_tuple, isQ_list, isQ_dict, true_and, and_true, Bool.not_true, Bool.not_false, Bool.false_eq_true, Bool.true_xor, Bool.false_xor, shp]
    refine ⟨fs, ss, rfl, ?_⟩
    simp only [↓pVar, ↓pGet, ↓pC, ↓pOp, ↓pUn, ↓pCB, ↓pNil, ↓pCons, ↓pTest, ↓pBl, ↓pAndT, ↓pOrT, ↓pNotT, ↓pAndV, ↓pOrV, ↓pNotV, ↓pIfE, ↓pTup, ↓pLst, ↓pLstO, ↓pCall, ↓pMeth, ↓pFld, ↓pProp, ↓pMake, ↓pCv, ↓pSl, ↓pNo, ↓pSome, ↓pIntK, ↓pN, ↓pT, ↓pGC, ↓pGN, ↓pIf, ↓pRet, ↓pRetN, ↓pDrop, ↓pAsg, ↓pNx, ↓pBrk, ↓pCnt, ↓pNever, ↓pSub, ↓pAug, ↓pPar, ↓pParK, ↓pBM, ↓pFor, ↓pLc, ↓pLcO, ↓pYes, ↓piSeq, ↓piStr, ↓pStrK, ↓piRng1, ↓pRng1K, ↓piRng2, ↓pRng2K, ↓piEnum, ↓pEnumK, ↓piZip, ↓pZipL, ↓pZipT, ↓pFz, ↓pLenSet, ↓pIsT, ↓rIx_lst, ↓rIx_tup, ↓rIx_ref, ↓rIx_str, ↓rLen_str, ↓rLen_lst, ↓rLen_tup, ↓rLen_ref, ↓rIs_p, ↓rInt_int, ↓rInt_bl, ↓rStr_int, ↓rList_p, ↓rListO_p, ↓rTup_p, ↓rAdd_int, ↓rAdd_str, ↓rAdd_tup, ↓rAdd_lst, ↓rIntD_p, ↓rInt0_p, ↓rEq_int, ↓rEq_str, ↓rEq_bl, ↓rEq_lst, ↓rEq_tup, ↓rIsN_non, ↓rIsN_bl, ↓rIsN_int, ↓rIsN_str, ↓rIsN_tup, ↓rIsN_lst, ↓rNeg_p, ↓rSl_str, ↓rSl_tup, ↓rSl_lst, ↓rSl_scr, ↓rRep_p, ↓pOptK, ↓pChain, ↓pIfT, ↓pCallK, ↓pDzip, ↓pDzipK, ↓pDzipO, ↓pDzipKO, ↓rIsB_bl, ↓rDix_str, ↓rDix_int, ↓rIn_tup, ↓rIn_lst, ↓rEq_ns, ↓rEq_sn, ↓rRepT_p, ↓rAll_f, ↓rAll_t, ↓wSeq_p, ↓seqE_nx, ↓reduceIte, at_0, at_1, at_2, at_3, cut_1, cut_2, dl_0_0, dl_0_1, dl_0_2, dl_0_3, dl_0_4, dl_0_5, dl_1_0, dl_1_1, dl_1_2, dl_1_3, dl_1_4, dl_1_5, dl_2_0, dl_2_1, dl_2_2, dl_2_3, dl_2_4, dl_2_5, dl_3_0, dl_3_1, dl_3_2, dl_3_3, dl_3_4, dl_3_5, dl_4_0, dl_4_1, dl_4_2, dl_4_3, dl_4_4, dl_4_5, dn_1_0, dn_2_0, dn_2_1, dn_3_0, dn_3_1, dn_3_2, dn_4_0, dn_4_1, dn_4_2, dn_4_3, seqE_rt, seqE_bk, seqE_ct, seqE_ex, wipeD, frz_lst, frz_tup, at1_0, at2_0, at2_1, at3_0, at3_1, at3_2, at4_0, at4_1, at4_2, at4_3, at5_0, at5_1, at5_2, at5_3, at5_4, seqOf_put, seqOf_lst, seqOf_tup, insK_same, tyN_non, tyN_bl, tyN_int, tyN_str, tyN_tup, tyN_lst, tyN_dct, List.getElem?_cons_zero, List.getElem?_cons_succ, List.set_cons_zero, List.set_cons_succ, List.length_cons, List.length_nil, isB_NoneType_bool, isB_NoneType_int, isB_NoneType_str, isB_NoneType_tuple, isB_NoneType_list, isB_NoneType_dict, isB_bool_bool, isB_bool_int, isB_bool_str, isB_bool_tuple, isB_bool_list, isB_bool_dict, isB_int_bool, isB_int_int, isB_int_str, isB_int_tuple, isB_int_list, isB_int_dict, isB_str_bool, isB_str_int, isB_str_str, isB_str_tuple, isB_str_list, isB_str_dict, isB_tuple_bool, isB_tuple_int, isB_tuple_str, isB_tuple_tuple, isB_tuple_list, isB_tuple_dict, isB_list_bool, isB_list_int, isB_list_str, isB_list_tuple, isB_list_list, isB_list_dict, isB_dict_bool, isB_dict_int, isB_dict_str, isB_dict_tuple, isB_dict_list, isB_dict_dict, isC_bool, isC_int, isC_str, isC_tuple, isC_list, isC_dict, isA_list_tuple, isQ_NoneType, isQ_bool, isQ_int, isQ_str, isQ_tuple, isQ_list, isQ_dict, true_and, and_true, Bool.not_true, Bool.not_false, Bool.false_eq_true, Bool.true_xor, Bool.false_xor, inD_flat hp]
    exact ⟨rfl, flat_map fs, fin_of q⟩
  all_goals simp only [RD, wb_is_field, ↓pVar, ↓pGet, ↓pC, ↓pOp, ↓pUn, ↓pCB, ↓pNil, ↓pCons, ↓pTest, ↓pBl, ↓pAndT, ↓pOrT, ↓pNotT, ↓pAndV, ↓pOrV, ↓pNotV, ↓pIfE, ↓pTup, ↓pLst, ↓pLstO, ↓pCall, ↓pMeth, ↓pFld, ↓pProp, ↓pMake, ↓pCv, ↓pSl, ↓pNo, ↓pSome, ↓pIntK, ↓pN, ↓pT, ↓pGC, ↓pGN, ↓pIf, ↓pRet, ↓pRetN, ↓pDrop, ↓pAsg, ↓pNx, ↓pBrk, ↓pCnt, ↓pNever, ↓pSub, ↓pAug, ↓pPar, ↓pParK, ↓pBM, ↓pFor, ↓pLc, ↓pLcO, ↓pYes, ↓piSeq, ↓piStr, ↓pStrK, ↓piRng1, ↓pRng1K, ↓piRng2, ↓pRng2K, ↓piEnum, ↓pEnumK, ↓piZip, ↓pZipL, ↓pZipT, ↓pFz, ↓pLenSet, ↓pIsT, ↓rIx_lst, ↓rIx_tup, ↓rIx_ref, ↓rIx_str, ↓rLen_str, ↓rLen_lst, ↓rLen_tup, ↓rLen_ref, ↓rIs_p, ↓rInt_int, ↓rInt_bl, ↓rStr_int, ↓rList_p, ↓rListO_p, ↓rTup_p, ↓rAdd_int, ↓rAdd_str, ↓rAdd_tup, ↓rAdd_lst, ↓rIntD_p, ↓rInt0_p, ↓rEq_int, ↓rEq_str, ↓rEq_bl, ↓rEq_lst, ↓rEq_tup, ↓rIsN_non, ↓rIsN_bl, ↓rIsN_int, ↓rIsN_str, ↓rIsN_tup, ↓rIsN_lst, ↓rNeg_p, ↓rSl_str, ↓rSl_tup, ↓rSl_lst, ↓rSl_scr, ↓rRep_p, ↓pOptK, ↓pChain, ↓pIfT, ↓pCallK, ↓pDzip, ↓pDzipK, ↓pDzipO, ↓pDzipKO, ↓rIsB_bl, ↓rDix_str, ↓rDix_int, ↓rIn_tup, ↓rIn_lst, ↓rEq_ns, ↓rEq_sn, ↓rRepT_p, ↓rAll_f, ↓rAll_t, ↓wSeq_p, ↓seqE_nx, ↓reduceIte, at_0, at_1, at_2, at_3, cut_1, cut_2, dl_0_0, dl_0_1, dl_0_2, dl_0_3, dl_0_4, dl_0_5, dl_1_0, dl_1_1, dl_1_2, dl_1_3, dl_1_4, dl_1_5, dl_2_0, dl_2_1, dl_2_2, dl_2_3, dl_2_4, dl_2_5, dl_3_0, dl_3_1, dl_3_2, dl_3_3, dl_3_4, dl_3_5, dl_4_0, dl_4_1, dl_4_2, dl_4_3, dl_4_4, dl_4_5, dn_1_0, dn_2_0, dn_2_1, dn_3_0, dn_3_1, dn_3_2, dn_4_0, dn_4_1, dn_4_2, dn_4_3, seqE_rt, seqE_bk, seqE_ct, seqE_ex, wipeD, frz_lst, frz_tup, at1_0, at2_0, at2_1, at3_0, at3_1, at3_2, at4_0, at4_1, at4_2, at4_3, at5_0, at5_1, at5_2, at5_3, at5_4, seqOf_put, seqOf_lst, seqOf_tup, insK_same, tyN_non, tyN_bl, tyN_int, tyN_str, tyN_tup, tyN_lst, tyN_dct, List.getElem?_cons_zero, List.getElem?_cons_succ, List.set_cons_zero, List.set_cons_succ, List.length_cons, List.length_nil, isB_NoneType_bool, isB_NoneType_int, isB_NoneType_str, isB_NoneType_tuple, isB_NoneType_list, isB_NoneType_dict, isB_bool_bool, isB_bool_int, isB_bool_str, isB_bool_tuple, isB_bool_list, isB_bool_dict, isB_int_bool, isB_int_int, isB_int_str, isB_int_tuple, isB_int_list, isB_int_dict, isB_str_bool, isB_str_int, isB_str_str, isB_str_tuple, isB_str_list, isB_str_dict, isB_tuple_bool, isB_tuple_int, isB_tuple_str, isB_tuple_tuple, isB_tuple_list, isB_tuple_dict, isB_list_bool, isB_list_int, isB_list_str, isB_list_tuple, isB_list_list, isB_list_dict, isB_dict_bool, isB_dict_int, isB_dict_str, isB_dict_tuple, isB_dict_list, isB_dict_dict, isC_bool, isC_int, isC_str, isC_tuple, isC_list, isC_dict, isA_list_tuple, isQ_NoneType, isQ_bool, isQ_int, isQ_str, isQ_tuple, isQ_list, isQ_dict, true_and, and_true, Bool.not_true, Bool.not_false, Bool.false_eq_true, Bool.true_xor, Bool.false_xor, shp]
  all_goals exact fin_of q
theorem ok_is_field {P : Program} {w : World} {K : PySem.W.Frag} {mg : Str → Option Value} {base : Heap} {A : Ad} (T : Txt K mg A) : FnJ P w K mg base 3 A.f_is_field (sp_is_field A) :=
  FnJ.mkAt T.d_is_field sc_is_field (fun cdv R outer s H E hr tk => bd_is_field T cdv R outer s H E hr tk) (rd_is_field A)
/-- whether a tuple, a word with more behind it, is a condition without others inside -/
def isSimple (fs ss held : List Str) (w : Str) (cs : List D) : Bool :=
  if w = "any" then decide (cs.length = 0)
  else if w = "from" then match cs with
    | [c] => strIn ss c && decide (("source" : Str) ∈ held)
    | _ => false
  else if w = "has" then match cs with
    | [c] => strIn fs c && strIn held c
    | _ => false
  else if w = "is" then match cs with
    | [c, v] => strIn fs c && (strIn held c && madeOf L36 8 v)
    | _ => false
  else false
theorem any_mem {x : Str} {ss : List Str} : (ss.any fun y => decide (y = x)) = decide (x ∈ ss) := by
  rw [Bool.eq_iff_iff, List.any_eq_true, decide_eq_true_iff]
  exact ⟨fun ⟨y, h, e⟩ => of_decide_eq_true e ▸ h, fun h => ⟨x, h, decide_eq_true rfl⟩⟩
theorem strIn_str {x : Str} {ss : List Str} : strIn ss (.str x) = decide (x ∈ ss) := any_mem
theorem flatD_pl {d : D} (h : flatD d = true) : pl d = true := by cases d <;> first | rfl | cases h
def sp_is_simple (A : Ad) : SpD := fun ds M Q _ => ∃ fs ss held w cs, ds = [shp A fs ss, .tup (.str w :: cs), .tup (held.map D.str)] ∧ (∀ c ∈ cs, flatD c = true) ∧ (∀ c ∈ cs, short c) ∧ Q (.bl (isSimple fs ss held w cs)) M
def wb_is_simple (A : Ad) : WS :=
  (wSeq (wIf (wTest (wOp (rEqD false) (wOp rIxD (wVar 1) (wC (.int 0))) (wC (.str "any"))))
  (wRet (wOp (rEqD false) (wCB rLenD (wCons (wVar 1) wNil)) (wC (.int 1))))
  wNx)
  (wSeq (wIf (wTest (wOp (rEqD false) (wOp rIxD (wVar 1) (wC (.int 0))) (wC (.str "from"))))
  (wRet (wAndV (wOp (rEqD false) (wCB rLenD (wCons (wVar 1) wNil)) (wC (.int 2))) (wAndV (wOp (rInD false) (wOp rIxD (wVar 1) (wC (.int 1))) (wProp A.c_Shape ns_Shape (sp_Shape_sources A) (wVar 0))) (wOp (rInD false) (wC (.str "source")) (wVar 2)))))
  wNx)
  (wSeq (wIf (wTest (wOp (rEqD false) (wOp rIxD (wVar 1) (wC (.int 0))) (wC (.str "has"))))
  (wRet (wAndV (wOp (rEqD false) (wCB rLenD (wCons (wVar 1) wNil)) (wC (.int 2))) (wAndV (wCall (sp_is_field A) (wCons (wVar 0) (wCons (wOp rIxD (wVar 1) (wC (.int 1))) wNil))) (wOp (rInD false) (wOp rIxD (wVar 1) (wC (.int 1))) (wVar 2)))))
  wNx)
  (wSeq (wIf (wOrT (wTest (wOp (rEqD true) (wOp rIxD (wVar 1) (wC (.int 0))) (wC (.str "is")))) (wOrT (wTest (wOp (rEqD true) (wCB rLenD (wCons (wVar 1) wNil)) (wC (.int 3)))) (wNotT (wTest (wCall (sp_is_field A) (wCons (wVar 0) (wCons (wOp rIxD (wVar 1) (wC (.int 1))) wNil)))))))
  (wRet (wC (.bl false)))
  wNx)
  (wRet (wAndV (wOp (rInD false) (wOp rIxD (wVar 1) (wC (.int 1))) (wVar 2)) (wCall (sp_is_plain_word A) (wCons (wOp rIxD (wVar 1) (wC (.int 2))) wNil))))))))
theorem bd_is_simple {P : Program} {w : World} {K : PySem.W.Frag} {mg : Str → Option Value} {base : Heap} {A : Ad} (T : Txt K mg A) (cdv : Value) (R : Around) (outer : List Env) (s : Shared) (H : Hp) (E : XK) (hr : Room 3 (R.deeper (envOfC "is_simple" (defScope s_is_simple) s.heap.objs.size A.f_is_simple cdv)))
    (tk : Takes (cxOf (L2.CX P w) P w K mg base N_is_simple "is_simple" (defScope s_is_simple) A.f_is_simple cdv R outer s H E) (WD E)) : JSs (cxOf (L2.CX P w) P w K mg base N_is_simple "is_simple" (defScope s_is_simple) A.f_is_simple cdv R outer s H E) (WD E) (defBody s_is_simple) (wb_is_simple A) :=
  (js_cons (js_if (jt_cmp (od_eq hr.units) (j_ix id_ix (jv 1) j_int) j_str)
  (js_one (js_ret (j_cmp (od_eq hr.units) (j_callB cd_len T.n_len bo_len (j_cons (jv 1) j_nil)) j_int)))
  js_nil)
  (js_cons (js_if (jt_cmp (od_eq hr.units) (j_ix id_ix (jv 1) j_int) j_str)
  (js_one (js_ret (j_and (j_cmp (od_eq hr.units) (j_callB cd_len T.n_len bo_len (j_cons (jv 1) j_nil)) j_int) (j_and (j_cmp od_in (j_ix id_ix (jv 1) j_int) (j_prop (C := A.c_Shape) (ns := ns_Shape) (jv 0) T.cl_Shape T.p_Shape_sources (ok_Shape_sources T) hr (by decide))) (j_one (j_cmp od_in j_str (jv 2)))))))
  js_nil)
  (js_cons (js_if (jt_cmp (od_eq hr.units) (j_ix id_ix (jv 1) j_int) j_str)
  (js_one (js_ret (j_and (j_cmp (od_eq hr.units) (j_callB cd_len T.n_len bo_len (j_cons (jv 1) j_nil)) j_int) (j_and (j_call (ok_is_field T) hr (by decide) T.g_is_field tk (j_cons (jv 0) (j_cons (j_ix id_ix (jv 1) j_int) j_nil))) (j_one (j_cmp od_in (j_ix id_ix (jv 1) j_int) (jv 2)))))))
  js_nil)
  (js_cons (js_if (jt_bool (jt_or (jt_cmp (od_ne hr.units) (j_ix id_ix (jv 1) j_int) j_str) (jt_or (jt_cmp (od_ne hr.units) (j_callB cd_len T.n_len bo_len (j_cons (jv 1) j_nil)) j_int) (jt_or1 (jt_not (jt_val (j_call (ok_is_field T) hr (by decide) T.g_is_field tk (j_cons (jv 0) (j_cons (j_ix id_ix (jv 1) j_int) j_nil)))))))))
  (js_one (js_ret j_bl))
  js_nil)
  (js_one (js_ret (j_and (j_cmp od_in (j_ix id_ix (jv 1) j_int) (jv 2)) (j_one (j_call (ok_is_plain_word T) hr (by decide) T.g_is_plain_word tk (j_cons (j_ix id_ix (jv 1) j_int) j_nil))))))))))
theorem rd_is_simple (A : Ad) : ∀ ds M Q Xc, sp_is_simple A ds M Q Xc → ds.length = P_is_simple.length ∧ RD (wb_is_simple A) Q Xc (startD N_is_simple ds) M := by
  rintro _ M Q Xc ⟨fs, ss, held, w, cs, rfl, hf, hs, q⟩
  refine ⟨rfl, ?_⟩
  rw [st_is_simple]
  simp only [RD, wb_is_simple, ↓pVar, ↓pGet, ↓pC, ↓pOp, ↓pUn, ↓pCB, ↓pNil, ↓pCons, ↓pTest, ↓pBl, ↓pAndT, ↓pOrT, ↓pNotT, ↓pAndV, ↓pOrV, ↓pNotV, ↓pIfE, ↓pTup, ↓pLst, ↓pLstO, ↓pCall, ↓pMeth, ↓pFld, ↓pProp, ↓pMake, ↓pCv, ↓pSl, ↓pNo, ↓pSome, ↓pIntK, ↓pN, ↓pT, ↓pGC, ↓pGN, ↓pIf, ↓pRet, ↓pRetN, ↓pDrop, ↓pAsg, ↓pNx, ↓pBrk, ↓pCnt, ↓pNever, ↓pSub, ↓pAug, ↓pPar, ↓pParK, ↓pBM, ↓pFor, ↓pLc, ↓pLcO, ↓pYes, ↓piSeq, ↓piStr, ↓pStrK, ↓piRng1, ↓pRng1K, ↓piRng2, ↓pRng2K, ↓piEnum, ↓pEnumK, ↓piZip, ↓pZipL, ↓pZipT, ↓pFz, ↓pLenSet, ↓pIsT, ↓rIx_lst, ↓rIx_tup, ↓rIx_ref, ↓rIx_str, ↓rLen_str, ↓rLen_lst, ↓rLen_tup, ↓rLen_ref, ↓rIs_p, ↓rInt_int, ↓rInt_bl, ↓rStr_int, ↓rList_p, ↓rListO_p, ↓rTup_p, ↓rAdd_int, ↓rAdd_str, ↓rAdd_tup, ↓rAdd_lst, ↓rIntD_p, ↓rInt0_p, ↓rEq_int, ↓rEq_str, ↓rEq_bl, ↓rEq_lst, ↓rEq_tup, ↓rIsN_non, ↓rIsN_bl, ↓rIsN_int, ↓rIsN_str, ↓rIsN_tup, ↓rIsN_lst, ↓rNeg_p, ↓rSl_str, ↓rSl_tup, ↓rSl_lst, ↓rSl_scr, ↓rRep_p, ↓pOptK, ↓pChain, ↓pIfT, ↓pCallK, ↓pDzip, ↓pDzipK, ↓pDzipO, ↓pDzipKO, ↓rIsB_bl, ↓rDix_str, ↓rDix_int, ↓rIn_tup, ↓rIn_lst, ↓rEq_ns, ↓rEq_sn, ↓rRepT_p, ↓rAll_f, ↓rAll_t, ↓wSeq_p, ↓seqE_nx, ↓reduceIte, at_0, at_1, at_2, at_3, cut_1, cut_2, dl_0_0, dl_0_1, dl_0_2, dl_0_3, dl_0_4, dl_0_5, dl_1_0, dl_1_1, dl_1_2, dl_1_3, dl_1_4, dl_1_5, dl_2_0, dl_2_1, dl_2_2, dl_2_3, dl_2_4, dl_2_5, dl_3_0, dl_3_1, dl_3_2, dl_3_3, dl_3_4, dl_3_5, dl_4_0, dl_4_1, dl_4_2, dl_4_3, dl_4_4, dl_4_5, dn_1_0, dn_2_0, dn_2_1, dn_3_0, dn_3_1, dn_3_2, dn_4_0, dn_4_1, dn_4_2, dn_4_3, seqE_rt, seqE_bk, seqE_ct, seqE_ex, wipeD, frz_lst, frz_tup, at1_0, at2_0, at2_1, at3_0, at3_1, at3_2, at4_0, at4_1, at4_2, at4_3, at5_0, at5_1, at5_2, at5_3, at5_4, seqOf_put, seqOf_lst, seqOf_tup, insK_same, tyN_non, tyN_bl, tyN_int, tyN_str, tyN_tup, tyN_lst, tyN_dct, List.getElem?_cons_zero, List.getElem?_cons_succ, List.set_cons_zero, List.set_cons_succ, List.length_cons, List.length_nil, isB_NoneType_bool, isB_NoneType_int, isB_NoneType_str, isB_NoneType_tuple, isB_NoneType_list, isB_NoneType_dict, isB_bool_bool, isB_bool_int, isB_bool_str, isB_bool_tuple, isB_bool_list, isB_bool_dict, isB_int_bool, isB_int_int, isB_int_str, isB_int_tuple, isB_int_list, isB_int_dict, isB_str_bool, isB_str_int, isB_str_str, isB_str_tuple, isB_str_list, isB_str_dict, isB_tuple_bool, isB_tuple_int, isB_tuple_str, isB_tuple_tuple, isB_tuple_list, isB_tuple_dict, isB_list_bool, isB_list_int, isB_list_str, isB_list_tuple, isB_list_list, isB_list_dict, isB_dict_bool, isB_dict_int, isB_dict_str, isB_dict_tuple, isB_dict_list, isB_dict_dict, isC_bool, isC_int, isC_str, isC_tuple, isC_list, isC_dict, isA_list_tuple, isQ_NoneType, isQ_bool, isQ_int, isQ_str, isQ_tuple, isQ_list, isQ_dict, true_and, and_true, Bool.not_true, Bool.not_false, Bool.false_eq_true, Bool.true_xor, Bool.false_xor, shp]
  have hp : ∀ c ∈ cs, pl c = true := fun c hc => flatD_pl (hf c hc)
  unfold isSimple at q
  by_cases h1 : w = "any"
  · rw [if_pos h1] at q
    have e : decide (((cs.length + 1 : Nat) : Int) = 1) = decide (cs.length = 0) := by rw [decide_eq_decide]; omega
    rw [decide_eq_true h1, if_pos rfl, e]
    exact fin_of q
  rw [if_neg h1] at q
  rw [decide_eq_false h1, if_neg Bool.false_ne_true]
  by_cases h2 : w = "from"
  · rw [if_pos h2] at q
    rw [decide_eq_true h2, if_pos rfl]
    rcases cs with _ | ⟨c, _ | ⟨c2, r⟩⟩
    · exact fin_of q
    · have hc : pl c = true := hp c List.mem_cons_self
      have fc : flatD c = true := hf c List.mem_cons_self
      simp only [↓pVar, ↓pGet, ↓pC, ↓pOp, ↓pUn, ↓pCB, ↓pNil, ↓pCons, ↓pTest, ↓pBl, ↓pAndT, ↓pOrT, ↓pNotT, ↓pAndV, ↓pOrV, ↓pNotV, ↓pIfE, ↓pTup, ↓pLst, ↓pLstO, ↓pCall, ↓pMeth, ↓pFld, ↓pProp, ↓pMake, ↓pCv, ↓pSl, ↓pNo, ↓pSome, ↓pIntK, ↓pN, ↓pT, ↓pGC, ↓pGN, ↓pIf, ↓pRet, ↓pRetN, ↓pDrop, ↓pAsg, ↓pNx, ↓pBrk, ↓pCnt, ↓pNever, ↓pSub, ↓pAug, ↓pPar, ↓pParK, ↓pBM, ↓pFor, ↓pLc, ↓pLcO, ↓pYes, ↓piSeq, ↓piStr, ↓pStrK, ↓piRng1, ↓pRng1K, ↓piRng2, ↓pRng2K, ↓piEnum, ↓pEnumK, ↓piZip, ↓pZipL, ↓pZipT, ↓pFz, ↓pLenSet, ↓pIsT, ↓rIx_lst, ↓rIx_tup, ↓rIx_ref, ↓rIx_str, ↓rLen_str, ↓rLen_lst, ↓rLen_tup, ↓rLen_ref, ↓rIs_p, ↓rInt_int, ↓rInt_bl, ↓rStr_int, ↓rList_p, ↓rListO_p, ↓rTup_p, ↓rAdd_int, ↓rAdd_str, ↓rAdd_tup, ↓rAdd_lst, ↓rIntD_p, ↓rInt0_p, ↓rEq_int, ↓rEq_str, ↓rEq_bl, ↓rEq_lst, ↓rEq_tup, ↓rIsN_non, ↓rIsN_bl, ↓rIsN_int, ↓rIsN_str, ↓rIsN_tup, ↓rIsN_lst, ↓rNeg_p, ↓rSl_str, ↓rSl_tup, ↓rSl_lst, ↓rSl_scr, ↓rRep_p, ↓pOptK, ↓pChain, ↓pIfT, ↓pCallK, ↓pDzip, ↓pDzipK, ↓pDzipO, ↓pDzipKO, ↓rIsB_bl, ↓rDix_str, ↓rDix_int, ↓rIn_tup, ↓rIn_lst, ↓rEq_ns, ↓rEq_sn, ↓rRepT_p, ↓rAll_f, ↓rAll_t, ↓wSeq_p, ↓seqE_nx, ↓reduceIte, at_0, at_1, at_2, at_3, cut_1, cut_2, dl_0_0, dl_0_1, dl_0_2, dl_0_3, dl_0_4, dl_0_5, dl_1_0, dl_1_1, dl_1_2, dl_1_3, dl_1_4, dl_1_5, dl_2_0, dl_2_1, dl_2_2, dl_2_3, dl_2_4, dl_2_5, dl_3_0, dl_3_1, dl_3_2, dl_3_3, dl_3_4, dl_3_5, dl_4_0, dl_4_1, dl_4_2, dl_4_3, dl_4_4, dl_4_5, dn_1_0, dn_2_0, dn_2_1, dn_3_0, dn_3_1, dn_3_2, dn_4_0, dn_4_1, dn_4_2, dn_4_3, seqE_rt, seqE_bk, seqE_ct, seqE_ex, wipeD, frz_lst, frz_tup, at1_0, at2_0, at2_1, at3_0, at3_1, at3_2, at4_0, at4_1, at4_2, at4_3, at5_0, at5_1, at5_2, at5_3, at5_4, seqOf_put, seqOf_lst, seqOf_tup, insK_same, tyN_non, tyN_bl, tyN_int, tyN_str, tyN_tup, tyN_lst, tyN_dct, List.getElem?_cons_zero, List.getElem?_cons_succ, List.set_cons_zero, List.set_cons_succ, List.length_cons, List.length_nil, isB_NoneType_bool, isB_NoneType_int, isB_NoneType_str, isB_NoneType_tuple, isB_NoneType_list, isB_NoneType_dict, isB_bool_bool, isB_bool_int, isB_bool_str, isB_bool_tuple, isB_bool_list, isB_bool_dict, isB_int_bool, isB_int_int, isB_int_str, isB_int_tuple, isB_int_list, isB_int_dict, isB_str_bool, isB_str_int, isB_str_str, isB_str_tuple, isB_str_list, isB_str_dict, isB_tuple_bool, isB_tuple_int, isB_tuple_str, isB_tuple_tuple, isB_tuple_list, isB_tuple_dict, isB_list_bool, isB_list_int, isB_list_str, isB_list_tuple, isB_list_list, isB_list_dict, isB_dict_bool, isB_dict_int, isB_dict_str, isB_dict_tuple, isB_dict_list, isB_dict_dict, isC_bool, isC_int, isC_str, isC_tuple, isC_list, isC_dict, isA_list_tuple, isQ_NoneType, isQ_bool, isQ_int, isQ_str, isQ_tuple, isQ_list, isQ_dict, true_and, and_true, Bool.not_true, Bool.not_false, Bool.false_eq_true, Bool.true_xor, Bool.false_xor]
      refine ⟨fs, ss, rfl, ?_⟩
      simp only [↓pVar, ↓pGet, ↓pC, ↓pOp, ↓pUn, ↓pCB, ↓pNil, ↓pCons, ↓pTest, ↓pBl, ↓pAndT, ↓pOrT, ↓pNotT, ↓pAndV, ↓pOrV, ↓pNotV, ↓pIfE, ↓pTup, ↓pLst, ↓pLstO, ↓pCall, ↓pMeth, ↓pFld, ↓pProp, ↓pMake, ↓pCv, ↓pSl, ↓pNo, ↓pSome, ↓pIntK, ↓pN, ↓pT, ↓pGC, ↓pGN, ↓pIf, ↓pRet, ↓pRetN, ↓pDrop, ↓pAsg, ↓pNx, ↓pBrk, ↓pCnt, ↓pNever, ↓pSub, ↓pAug, ↓pPar, ↓pParK, ↓pBM, ↓pFor, ↓pLc, ↓pLcO, ↓pYes, ↓piSeq, ↓piStr, ↓pStrK, ↓piRng1, ↓pRng1K, ↓piRng2, ↓pRng2K, ↓piEnum, ↓pEnumK, ↓piZip, ↓pZipL, ↓pZipT, ↓pFz, ↓pLenSet, ↓pIsT, ↓rIx_lst, ↓rIx_tup, ↓rIx_ref, ↓rIx_str, ↓rLen_str, ↓rLen_lst, ↓rLen_tup, ↓rLen_ref, ↓rIs_p, ↓rInt_int, ↓rInt_bl, ↓rStr_int, ↓rList_p, ↓rListO_p, ↓rTup_p, ↓rAdd_int, ↓rAdd_str, ↓rAdd_tup, ↓rAdd_lst, ↓rIntD_p, ↓rInt0_p, ↓rEq_int, ↓rEq_str, ↓rEq_bl, ↓rEq_lst, ↓rEq_tup, ↓rIsN_non, ↓rIsN_bl, ↓rIsN_int, ↓rIsN_str, ↓rIsN_tup, ↓rIsN_lst, ↓rNeg_p, ↓rSl_str, ↓rSl_tup, ↓rSl_lst, ↓rSl_scr, ↓rRep_p, ↓pOptK, ↓pChain, ↓pIfT, ↓pCallK, ↓pDzip, ↓pDzipK, ↓pDzipO, ↓pDzipKO, ↓rIsB_bl, ↓rDix_str, ↓rDix_int, ↓rIn_tup, ↓rIn_lst, ↓rEq_ns, ↓rEq_sn, ↓rRepT_p, ↓rAll_f, ↓rAll_t, ↓wSeq_p, ↓seqE_nx, ↓reduceIte, at_0, at_1, at_2, at_3, cut_1, cut_2, dl_0_0, dl_0_1, dl_0_2, dl_0_3, dl_0_4, dl_0_5, dl_1_0, dl_1_1, dl_1_2, dl_1_3, dl_1_4, dl_1_5, dl_2_0, dl_2_1, dl_2_2, dl_2_3, dl_2_4, dl_2_5, dl_3_0, dl_3_1, dl_3_2, dl_3_3, dl_3_4, dl_3_5, dl_4_0, dl_4_1, dl_4_2, dl_4_3, dl_4_4, dl_4_5, dn_1_0, dn_2_0, dn_2_1, dn_3_0, dn_3_1, dn_3_2, dn_4_0, dn_4_1, dn_4_2, dn_4_3, seqE_rt, seqE_bk, seqE_ct, seqE_ex, wipeD, frz_lst, frz_tup, at1_0, at2_0, at2_1, at3_0, at3_1, at3_2, at4_0, at4_1, at4_2, at4_3, at5_0, at5_1, at5_2, at5_3, at5_4, seqOf_put, seqOf_lst, seqOf_tup, insK_same, tyN_non, tyN_bl, tyN_int, tyN_str, tyN_tup, tyN_lst, tyN_dct, List.getElem?_cons_zero, List.getElem?_cons_succ, List.set_cons_zero, List.set_cons_succ, List.length_cons, List.length_nil, isB_NoneType_bool, isB_NoneType_int, isB_NoneType_str, isB_NoneType_tuple, isB_NoneType_list, isB_NoneType_dict, isB_bool_bool, isB_bool_int, isB_bool_str, isB_bool_tuple, isB_bool_list, isB_bool_dict, isB_int_bool, isB_int_int, isB_int_str, isB_int_tuple, isB_int_list, isB_int_dict, isB_str_bool, isB_str_int, isB_str_str, isB_str_tuple, isB_str_list, isB_str_dict, isB_tuple_bool, isB_tuple_int, isB_tuple_str, isB_tuple_tuple, isB_tuple_list, isB_tuple_dict, isB_list_bool, isB_list_int, isB_list_str, isB_list_tuple, isB_list_list, isB_list_dict, isB_dict_bool, isB_dict_int, isB_dict_str, isB_dict_tuple, isB_dict_list, isB_dict_dict, isC_bool, isC_int, isC_str, isC_tuple, isC_list, isC_dict, isA_list_tuple, isQ_NoneType, isQ_bool, isQ_int, isQ_str, isQ_tuple, isQ_list, isQ_dict, true_and, and_true, Bool.not_true, Bool.not_false, Bool.false_eq_true, Bool.true_xor, Bool.false_xor, inD_flat hc, inD_flat (d := .str "source") rfl]
      refine ⟨fc, flat_map ss, ?_⟩
      cases hb : strIn ss c with
      | false =>
        simp only [hb, Bool.false_and] at q
        exact fin_of q
      | true =>
        simp only [hb, Bool.true_and] at q
        simp only [↓pVar, ↓pGet, ↓pC, ↓pOp, ↓pUn, ↓pCB, ↓pNil, ↓pCons, ↓pTest, ↓pBl, ↓pAndT, ↓pOrT, ↓pNotT, ↓pAndV, ↓pOrV, ↓pNotV, ↓pIfE, ↓pTup, ↓pLst, ↓pLstO, ↓pCall, ↓pMeth, ↓pFld, ↓pProp, ↓pMake, ↓pCv, ↓pSl, ↓pNo, ↓pSome, ↓pIntK, ↓pN, ↓pT, ↓pGC, ↓pGN, ↓pIf, ↓pRet, ↓pRetN, ↓pDrop, ↓pAsg, ↓pNx, ↓pBrk, ↓pCnt, ↓pNever, ↓pSub, ↓pAug, ↓pPar, ↓pParK, ↓pBM, ↓pFor, ↓pLc, ↓pLcO, ↓pYes, ↓piSeq, ↓piStr, ↓pStrK, ↓piRng1, ↓pRng1K, ↓piRng2, ↓pRng2K, ↓piEnum, ↓pEnumK, ↓piZip, ↓pZipL, ↓pZipT, ↓pFz, ↓pLenSet, ↓pIsT, ↓rIx_lst, ↓rIx_tup, ↓rIx_ref, ↓rIx_str, ↓rLen_str, ↓rLen_lst, ↓rLen_tup, ↓rLen_ref, ↓rIs_p, ↓rInt_int, ↓rInt_bl, ↓rStr_int, ↓rList_p, ↓rListO_p, ↓rTup_p, ↓rAdd_int, ↓rAdd_str, ↓rAdd_tup, ↓rAdd_lst, ↓rIntD_p, ↓rInt0_p, ↓rEq_int, ↓rEq_str, ↓rEq_bl, ↓rEq_lst, ↓rEq_tup, ↓rIsN_non, ↓rIsN_bl, ↓rIsN_int, ↓rIsN_str, ↓rIsN_tup, ↓rIsN_lst, ↓rNeg_p, ↓rSl_str, ↓rSl_tup, ↓rSl_lst, ↓rSl_scr, ↓rRep_p, ↓pOptK, ↓pChain, ↓pIfT, ↓pCallK, ↓pDzip, ↓pDzipK, ↓pDzipO, ↓pDzipKO, ↓rIsB_bl, ↓rDix_str, ↓rDix_int, ↓rIn_tup, ↓rIn_lst, ↓rEq_ns, ↓rEq_sn, ↓rRepT_p, ↓rAll_f, ↓rAll_t, ↓wSeq_p, ↓seqE_nx, ↓reduceIte, at_0, at_1, at_2, at_3, cut_1, cut_2, dl_0_0, dl_0_1, dl_0_2, dl_0_3, dl_0_4, dl_0_5, dl_1_0, dl_1_1, dl_1_2, dl_1_3, dl_1_4, dl_1_5, dl_2_0, dl_2_1, dl_2_2, dl_2_3, dl_2_4, dl_2_5, dl_3_0, dl_3_1, dl_3_2, dl_3_3, dl_3_4, dl_3_5, dl_4_0, dl_4_1, dl_4_2, dl_4_3, dl_4_4, dl_4_5, dn_1_0, dn_2_0, dn_2_1, dn_3_0, dn_3_1, dn_3_2, dn_4_0, dn_4_1, dn_4_2, dn_4_3, seqE_rt, seqE_bk, seqE_ct, seqE_ex, wipeD, frz_lst, frz_tup, at1_0, at2_0, at2_1, at3_0, at3_1, at3_2, at4_0, at4_1, at4_2, at4_3, at5_0, at5_1, at5_2, at5_3, at5_4, seqOf_put, seqOf_lst, seqOf_tup, insK_same, tyN_non, tyN_bl, tyN_int, tyN_str, tyN_tup, tyN_lst, tyN_dct, List.getElem?_cons_zero, List.getElem?_cons_succ, List.set_cons_zero, List.set_cons_succ, List.length_cons, List.length_nil, isB_NoneType_bool, isB_NoneType_int, isB_NoneType_str, isB_NoneType_tuple, isB_NoneType_list, isB_NoneType_dict, isB_bool_bool, isB_bool_int, isB_bool_str, isB_bool_tuple, isB_bool_list, isB_bool_dict, isB_int_bool, isB_int_int, isB_int_str, isB_int_tuple, isB_int_list, isB_int_dict, isB_str_bool, isB_str_int, isB_str_str, isB_str_tuple, isB_str_list, isB_str_dict, isB_tuple_bool, isB_tuple_int, isB_tuple_str, isB_tuple_tuple, isB_tuple_list, isB_tuple_dict, isB_list_bool, isB_list_int, isB_list_str, isB_list_tuple, isB_list_list, isB_list_dict, isB_dict_bool, isB_dict_int, isB_dict_str, isB_dict_tuple, isB_dict_list, isB_dict_dict, isC_bool, isC_int, isC_str, isC_tuple, isC_list, isC_dict, isA_list_tuple, isQ_NoneType, isQ_bool, isQ_int, isQ_str, isQ_tuple, isQ_list, isQ_dict, true_and, and_true, Bool.not_true, Bool.not_false, Bool.false_eq_true, Bool.true_xor, Bool.false_xor, strIn_str]
        exact ⟨rfl, flat_map held, fin_of q⟩
    · simp only [↓pVar, ↓pGet, ↓pC, ↓pOp, ↓pUn, ↓pCB, ↓pNil, ↓pCons, ↓pTest, ↓pBl, ↓pAndT, ↓pOrT, ↓pNotT, ↓pAndV, ↓pOrV, ↓pNotV, ↓pIfE, ↓pTup, ↓pLst, ↓pLstO, ↓pCall, ↓pMeth, ↓pFld, ↓pProp, ↓pMake, ↓pCv, ↓pSl, ↓pNo, ↓pSome, ↓pIntK, ↓pN, ↓pT, ↓pGC, ↓pGN, ↓pIf, ↓pRet, ↓pRetN, ↓pDrop, ↓pAsg, ↓pNx, ↓pBrk, ↓pCnt, ↓pNever, ↓pSub, ↓pAug, ↓pPar, ↓pParK, ↓pBM, ↓pFor, ↓pLc, ↓pLcO, ↓pYes, ↓piSeq, ↓piStr, ↓pStrK, ↓piRng1, ↓pRng1K, ↓piRng2, ↓pRng2K, ↓piEnum, ↓pEnumK, ↓piZip, ↓pZipL, ↓pZipT, ↓pFz, ↓pLenSet, ↓pIsT, ↓rIx_lst, ↓rIx_tup, ↓rIx_ref, ↓rIx_str, ↓rLen_str, ↓rLen_lst, ↓rLen_tup, ↓rLen_ref, ↓rIs_p, ↓rInt_int, ↓rInt_bl, ↓rStr_int, ↓rList_p, ↓rListO_p, ↓rTup_p, ↓rAdd_int, ↓rAdd_str, ↓rAdd_tup, ↓rAdd_lst, ↓rIntD_p, ↓rInt0_p, ↓rEq_int, ↓rEq_str, ↓rEq_bl, ↓rEq_lst, ↓rEq_tup, ↓rIsN_non, ↓rIsN_bl, ↓rIsN_int, ↓rIsN_str, ↓rIsN_tup, ↓rIsN_lst, ↓rNeg_p, ↓rSl_str, ↓rSl_tup, ↓rSl_lst, ↓rSl_scr, ↓rRep_p, ↓pOptK, ↓pChain, ↓pIfT, ↓pCallK, ↓pDzip, ↓pDzipK, ↓pDzipO, ↓pDzipKO, ↓rIsB_bl, ↓rDix_str, ↓rDix_int, ↓rIn_tup, ↓rIn_lst, ↓rEq_ns, ↓rEq_sn, ↓rRepT_p, ↓rAll_f, ↓rAll_t, ↓wSeq_p, ↓seqE_nx, ↓reduceIte, at_0, at_1, at_2, at_3, cut_1, cut_2, dl_0_0, dl_0_1, dl_0_2, dl_0_3, dl_0_4, dl_0_5, dl_1_0, dl_1_1, dl_1_2, dl_1_3, dl_1_4, dl_1_5, dl_2_0, dl_2_1, dl_2_2, dl_2_3, dl_2_4, dl_2_5, dl_3_0, dl_3_1, dl_3_2, dl_3_3, dl_3_4, dl_3_5, dl_4_0, dl_4_1, dl_4_2, dl_4_3, dl_4_4, dl_4_5, dn_1_0, dn_2_0, dn_2_1, dn_3_0, dn_3_1, dn_3_2, dn_4_0, dn_4_1, dn_4_2, dn_4_3, seqE_rt, seqE_bk, seqE_ct, seqE_ex, wipeD, frz_lst, frz_tup, at1_0, at2_0, at2_1, at3_0, at3_1, at3_2, at4_0, at4_1, at4_2, at4_3, at5_0, at5_1, at5_2, at5_3, at5_4, seqOf_put, seqOf_lst, seqOf_tup, insK_same, tyN_non, tyN_bl, tyN_int, tyN_str, tyN_tup, tyN_lst, tyN_dct, List.getElem?_cons_zero, List.getElem?_cons_succ, List.set_cons_zero, List.set_cons_succ, List.length_cons, List.length_nil, isB_NoneType_bool, isB_NoneType_int, isB_NoneType_str, isB_NoneType_tuple, isB_NoneType_list, isB_NoneType_dict, isB_bool_bool, isB_bool_int, isB_bool_str, isB_bool_tuple, isB_bool_list, isB_bool_dict, isB_int_bool, isB_int_int, isB_int_str, isB_int_tuple, isB_int_list, isB_int_dict, isB_str_bool, isB_str_int, isB_str_str, isB_str_tuple, isB_str_list, isB_str_dict, isB_tuple_bool, isB_tuple_int, isB_tuple_str, isB_tuple_tuple, isB_tuple_list, isB_tuple_dict, isB_list_bool, isB_list_int, isB_list_str, isB_list_tuple, isB_list_list, isB_list_dict, isB_dict_bool, isB_dict_int, isB_dict_str, isB_dict_tuple, isB_dict_list, isB_dict_dict, isC_bool, isC_int, isC_str, isC_tuple, isC_list, isC_dict, isA_list_tuple, isQ_NoneType, isQ_bool, isQ_int, isQ_str, isQ_tuple, isQ_list, isQ_dict, true_and, and_true, Bool.not_true, Bool.not_false, Bool.false_eq_true, Bool.true_xor, Bool.false_xor]
      exact fin_of q
  rw [if_neg h2] at q
  rw [decide_eq_false h2, if_neg Bool.false_ne_true]
  by_cases h3 : w = "has"
  · rw [if_pos h3] at q
    rw [decide_eq_true h3, if_pos rfl]
    rcases cs with _ | ⟨c, _ | ⟨c2, r⟩⟩
    · exact fin_of q
    · have hc : pl c = true := hp c List.mem_cons_self
      have fc : flatD c = true := hf c List.mem_cons_self
      simp only [↓pVar, ↓pGet, ↓pC, ↓pOp, ↓pUn, ↓pCB, ↓pNil, ↓pCons, ↓pTest, ↓pBl, ↓pAndT, ↓pOrT, ↓pNotT, ↓pAndV, ↓pOrV, ↓pNotV, ↓pIfE, ↓pTup, ↓pLst, ↓pLstO, ↓pCall, ↓pMeth, ↓pFld, ↓pProp, ↓pMake, ↓pCv, ↓pSl, ↓pNo, ↓pSome, ↓pIntK, ↓pN, ↓pT, ↓pGC, ↓pGN, ↓pIf, ↓pRet, ↓pRetN, ↓pDrop, ↓pAsg, ↓pNx, ↓pBrk, ↓pCnt, ↓pNever, ↓pSub, ↓pAug, ↓pPar, ↓pParK, ↓pBM, ↓pFor, ↓pLc, ↓pLcO, ↓pYes, ↓piSeq, ↓piStr, ↓pStrK, ↓piRng1, ↓pRng1K, ↓piRng2, ↓pRng2K, ↓piEnum, ↓pEnumK, ↓piZip, ↓pZipL, ↓pZipT, ↓pFz, ↓pLenSet, ↓pIsT, ↓rIx_lst, ↓rIx_tup, ↓rIx_ref, ↓rIx_str, ↓rLen_str, ↓rLen_lst, ↓rLen_tup, ↓rLen_ref, ↓rIs_p, ↓rInt_int, ↓rInt_bl, ↓rStr_int, ↓rList_p, ↓rListO_p, ↓rTup_p, ↓rAdd_int, ↓rAdd_str, ↓rAdd_tup, ↓rAdd_lst, ↓rIntD_p, ↓rInt0_p, ↓rEq_int, ↓rEq_str, ↓rEq_bl, ↓rEq_lst, ↓rEq_tup, ↓rIsN_non, ↓rIsN_bl, ↓rIsN_int, ↓rIsN_str, ↓rIsN_tup, ↓rIsN_lst, ↓rNeg_p, ↓rSl_str, ↓rSl_tup, ↓rSl_lst, ↓rSl_scr, ↓rRep_p, ↓pOptK, ↓pChain, ↓pIfT, ↓pCallK, ↓pDzip, ↓pDzipK, ↓pDzipO, ↓pDzipKO, ↓rIsB_bl, ↓rDix_str, ↓rDix_int, ↓rIn_tup, ↓rIn_lst, ↓rEq_ns, ↓rEq_sn, ↓rRepT_p, ↓rAll_f, ↓rAll_t, ↓wSeq_p, ↓seqE_nx, ↓reduceIte, at_0, at_1, at_2, at_3, cut_1, cut_2, dl_0_0, dl_0_1, dl_0_2, dl_0_3, dl_0_4, dl_0_5, dl_1_0, dl_1_1, dl_1_2, dl_1_3, dl_1_4, dl_1_5, dl_2_0, dl_2_1, dl_2_2, dl_2_3, dl_2_4, dl_2_5, dl_3_0, dl_3_1, dl_3_2, dl_3_3, dl_3_4, dl_3_5, dl_4_0, dl_4_1, dl_4_2, dl_4_3, dl_4_4, dl_4_5, dn_1_0, dn_2_0, dn_2_1, dn_3_0, dn_3_1, dn_3_2, dn_4_0, dn_4_1, dn_4_2, dn_4_3, seqE_rt, seqE_bk, seqE_ct, seqE_ex, wipeD, frz_lst, frz_tup, at1_0, at2_0, at2_1, at3_0, at3_1, at3_2, at4_0, at4_1, at4_2, at4_3, at5_0, at5_1, at5_2, at5_3, at5_4, seqOf_put, seqOf_lst, seqOf_tup, insK_same, tyN_non, tyN_bl, tyN_int, tyN_str, tyN_tup, tyN_lst, tyN_dct, List.getElem?_cons_zero, List.getElem?_cons_succ, List.set_cons_zero, List.set_cons_succ, List.length_cons, List.length_nil, isB_NoneType_bool, isB_NoneType_int, isB_NoneType_str, isB_NoneType_tuple, isB_NoneType_list, isB_NoneType_dict, isB_bool_bool, isB_bool_int, isB_bool_str, isB_bool_tuple, isB_bool_list, isB_bool_dict, isB_int_bool, isB_int_int, isB_int_str, isB_int_tuple, isB_int_list, isB_int_dict, isB_str_bool, isB_str_int, isB_str_str, isB_str_tuple, isB_str_list, isB_str_dict, isB_tuple_bool, isB_tuple_int, isB_tuple_str, isB_tuple_tuple, isB_tuple_list, isB_tuple_dict, isB_list_bool, isB_list_int, isB_list_str, isB_list_tuple, isB_list_list, isB_list_dict, isB_dict_bool, isB_dict_int, isB_dict_str, isB_dict_tuple, isB_dict_list, isB_dict_dict, isC_bool, isC_int, isC_str, isC_tuple, isC_list, isC_dict, isA_list_tuple, isQ_NoneType, isQ_bool, isQ_int, isQ_str, isQ_tuple, isQ_list, isQ_dict, true_and, and_true, Bool.not_true, Bool.not_false, Bool.false_eq_true, Bool.true_xor, Bool.false_xor]
      refine ⟨fs, ss, c, rfl, hc, ?_⟩
      simp only [↓pVar, ↓pGet, ↓pC, ↓pOp, ↓pUn, ↓pCB, ↓pNil, ↓pCons, ↓pTest, ↓pBl, ↓pAndT, ↓pOrT, ↓pNotT, ↓pAndV, ↓pOrV, ↓pNotV, ↓pIfE, ↓pTup, ↓pLst, ↓pLstO, ↓pCall, ↓pMeth, ↓pFld, ↓pProp, ↓pMake, ↓pCv, ↓pSl, ↓pNo, ↓pSome, ↓pIntK, ↓pN, ↓pT, ↓pGC, ↓pGN, ↓pIf, ↓pRet, ↓pRetN, ↓pDrop, ↓pAsg, ↓pNx, ↓pBrk, ↓pCnt, ↓pNever, ↓pSub, ↓pAug, ↓pPar, ↓pParK, ↓pBM, ↓pFor, ↓pLc, ↓pLcO, ↓pYes, ↓piSeq, ↓piStr, ↓pStrK, ↓piRng1, ↓pRng1K, ↓piRng2, ↓pRng2K, ↓piEnum, ↓pEnumK, ↓piZip, ↓pZipL, ↓pZipT, ↓pFz, ↓pLenSet, ↓pIsT, ↓rIx_lst, ↓rIx_tup, ↓rIx_ref, ↓rIx_str, ↓rLen_str, ↓rLen_lst, ↓rLen_tup, ↓rLen_ref, ↓rIs_p, ↓rInt_int, ↓rInt_bl, ↓rStr_int, ↓rList_p, ↓rListO_p, ↓rTup_p, ↓rAdd_int, ↓rAdd_str, ↓rAdd_tup, ↓rAdd_lst, ↓rIntD_p, ↓rInt0_p, ↓rEq_int, ↓rEq_str, ↓rEq_bl, ↓rEq_lst, ↓rEq_tup, ↓rIsN_non, ↓rIsN_bl, ↓rIsN_int, ↓rIsN_str, ↓rIsN_tup, ↓rIsN_lst, ↓rNeg_p, ↓rSl_str, ↓rSl_tup, ↓rSl_lst, ↓rSl_scr, ↓rRep_p, ↓pOptK, ↓pChain, ↓pIfT, ↓pCallK, ↓pDzip, ↓pDzipK, ↓pDzipO, ↓pDzipKO, ↓rIsB_bl, ↓rDix_str, ↓rDix_int, ↓rIn_tup, ↓rIn_lst, ↓rEq_ns, ↓rEq_sn, ↓rRepT_p, ↓rAll_f, ↓rAll_t, ↓wSeq_p, ↓seqE_nx, ↓reduceIte, at_0, at_1, at_2, at_3, cut_1, cut_2, dl_0_0, dl_0_1, dl_0_2, dl_0_3, dl_0_4, dl_0_5, dl_1_0, dl_1_1, dl_1_2, dl_1_3, dl_1_4, dl_1_5, dl_2_0, dl_2_1, dl_2_2, dl_2_3, dl_2_4, dl_2_5, dl_3_0, dl_3_1, dl_3_2, dl_3_3, dl_3_4, dl_3_5, dl_4_0, dl_4_1, dl_4_2, dl_4_3, dl_4_4, dl_4_5, dn_1_0, dn_2_0, dn_2_1, dn_3_0, dn_3_1, dn_3_2, dn_4_0, dn_4_1, dn_4_2, dn_4_3, seqE_rt, seqE_bk, seqE_ct, seqE_ex, wipeD, frz_lst, frz_tup, at1_0, at2_0, at2_1, at3_0, at3_1, at3_2, at4_0, at4_1, at4_2, at4_3, at5_0, at5_1, at5_2, at5_3, at5_4, seqOf_put, seqOf_lst, seqOf_tup, insK_same, tyN_non, tyN_bl, tyN_int, tyN_str, tyN_tup, tyN_lst, tyN_dct, List.getElem?_cons_zero, List.getElem?_cons_succ, List.set_cons_zero, List.set_cons_succ, List.length_cons, List.length_nil, isB_NoneType_bool, isB_NoneType_int, isB_NoneType_str, isB_NoneType_tuple, isB_NoneType_list, isB_NoneType_dict, isB_bool_bool, isB_bool_int, isB_bool_str, isB_bool_tuple, isB_bool_list, isB_bool_dict, isB_int_bool, isB_int_int, isB_int_str, isB_int_tuple, isB_int_list, isB_int_dict, isB_str_bool, isB_str_int, isB_str_str, isB_str_tuple, isB_str_list, isB_str_dict, isB_tuple_bool, isB_tuple_int, isB_tuple_str, isB_tuple_tuple, isB_tuple_list, isB_tuple_dict, isB_list_bool, isB_list_int, isB_list_str, isB_list_tuple, isB_list_list, isB_list_dict, isB_dict_bool, isB_dict_int, isB_dict_str, isB_dict_tuple, isB_dict_list, isB_dict_dict, isC_bool, isC_int, isC_str, isC_tuple, isC_list, isC_dict, isA_list_tuple, isQ_NoneType, isQ_bool, isQ_int, isQ_str, isQ_tuple, isQ_list, isQ_dict, true_and, and_true, Bool.not_true, Bool.not_false, Bool.false_eq_true, Bool.true_xor, Bool.false_xor, inD_flat hc]
      cases hb : strIn fs c with
      | false =>
        simp only [hb, Bool.false_and] at q
        exact fin_of q
      | true =>
        simp only [hb, Bool.true_and] at q
        simp only [↓pVar, ↓pGet, ↓pC, ↓pOp, ↓pUn, ↓pCB, ↓pNil, ↓pCons, ↓pTest, ↓pBl, ↓pAndT, ↓pOrT, ↓pNotT, ↓pAndV, ↓pOrV, ↓pNotV, ↓pIfE, ↓pTup, ↓pLst, ↓pLstO, ↓pCall, ↓pMeth, ↓pFld, ↓pProp, ↓pMake, ↓pCv, ↓pSl, ↓pNo, ↓pSome, ↓pIntK, ↓pN, ↓pT, ↓pGC, ↓pGN, ↓pIf, ↓pRet, ↓pRetN, ↓pDrop, ↓pAsg, ↓pNx, ↓pBrk, ↓pCnt, ↓pNever, ↓pSub, ↓pAug, ↓pPar, ↓pParK, ↓pBM, ↓pFor, ↓pLc, ↓pLcO, ↓pYes, ↓piSeq, ↓piStr, ↓pStrK, ↓piRng1, ↓pRng1K, ↓piRng2, ↓pRng2K, ↓piEnum, ↓pEnumK, ↓piZip, ↓pZipL, ↓pZipT, ↓pFz, ↓pLenSet, ↓pIsT, ↓rIx_lst, ↓rIx_tup, ↓rIx_ref, ↓rIx_str, ↓rLen_str, ↓rLen_lst, ↓rLen_tup, ↓rLen_ref, ↓rIs_p, ↓rInt_int, ↓rInt_bl, ↓rStr_int, ↓rList_p, ↓rListO_p, ↓rTup_p, ↓rAdd_int, ↓rAdd_str, ↓rAdd_tup, ↓rAdd_lst, ↓rIntD_p, ↓rInt0_p, ↓rEq_int, ↓rEq_str, ↓rEq_bl, ↓rEq_lst, ↓rEq_tup, ↓rIsN_non, ↓rIsN_bl, ↓rIsN_int, ↓rIsN_str, ↓rIsN_tup, ↓rIsN_lst, ↓rNeg_p, ↓rSl_str, ↓rSl_tup, ↓rSl_lst, ↓rSl_scr, ↓rRep_p, ↓pOptK, ↓pChain, ↓pIfT, ↓pCallK, ↓pDzip, ↓pDzipK, ↓pDzipO, ↓pDzipKO, ↓rIsB_bl, ↓rDix_str, ↓rDix_int, ↓rIn_tup, ↓rIn_lst, ↓rEq_ns, ↓rEq_sn, ↓rRepT_p, ↓rAll_f, ↓rAll_t, ↓wSeq_p, ↓seqE_nx, ↓reduceIte, at_0, at_1, at_2, at_3, cut_1, cut_2, dl_0_0, dl_0_1, dl_0_2, dl_0_3, dl_0_4, dl_0_5, dl_1_0, dl_1_1, dl_1_2, dl_1_3, dl_1_4, dl_1_5, dl_2_0, dl_2_1, dl_2_2, dl_2_3, dl_2_4, dl_2_5, dl_3_0, dl_3_1, dl_3_2, dl_3_3, dl_3_4, dl_3_5, dl_4_0, dl_4_1, dl_4_2, dl_4_3, dl_4_4, dl_4_5, dn_1_0, dn_2_0, dn_2_1, dn_3_0, dn_3_1, dn_3_2, dn_4_0, dn_4_1, dn_4_2, dn_4_3, seqE_rt, seqE_bk, seqE_ct, seqE_ex, wipeD, frz_lst, frz_tup, at1_0, at2_0, at2_1, at3_0, at3_1, at3_2, at4_0, at4_1, at4_2, at4_3, at5_0, at5_1, at5_2, at5_3, at5_4, seqOf_put, seqOf_lst, seqOf_tup, insK_same, tyN_non, tyN_bl, tyN_int, tyN_str, tyN_tup, tyN_lst, tyN_dct, List.getElem?_cons_zero, List.getElem?_cons_succ, List.set_cons_zero, List.set_cons_succ, List.length_cons, List.length_nil, isB_NoneType_bool, isB_NoneType_int, isB_NoneType_str, isB_NoneType_tuple, isB_NoneType_list, isB_NoneType_dict, isB_bool_bool, isB_bool_int, isB_bool_str, isB_bool_tuple, isB_bool_list, isB_bool_dict, isB_int_bool, isB_int_int, isB_int_str, isB_int_tuple, isB_int_list, isB_int_dict, isB_str_bool, isB_str_int, isB_str_str, isB_str_tuple, isB_str_list, isB_str_dict, isB_tuple_bool, isB_tuple_int, isB_tuple_str, isB_tuple_tuple, isB_tuple_list, isB_tuple_dict, isB_list_bool, isB_list_int, isB_list_str, isB_list_tuple, isB_list_list, isB_list_dict, isB_dict_bool, isB_dict_int, isB_dict_str, isB_dict_tuple, isB_dict_list, isB_dict_dict, isC_bool, isC_int, isC_str, isC_tuple, isC_list, isC_dict, isA_list_tuple, isQ_NoneType, isQ_bool, isQ_int, isQ_str, isQ_tuple, isQ_list, isQ_dict, true_and, and_true, Bool.not_true, Bool.not_false, Bool.false_eq_true, Bool.true_xor, Bool.false_xor]
        exact ⟨fc, flat_map held, fin_of q⟩
    · simp only [↓pVar, ↓pGet, ↓pC, ↓pOp, ↓pUn, ↓pCB, ↓pNil, ↓pCons, ↓pTest, ↓pBl, ↓pAndT, ↓pOrT, ↓pNotT, ↓pAndV, ↓pOrV, ↓pNotV, ↓pIfE, ↓pTup, ↓pLst, ↓pLstO, ↓pCall, ↓pMeth, ↓pFld, ↓pProp, ↓pMake, ↓pCv, ↓pSl, ↓pNo, ↓pSome, ↓pIntK, ↓pN, ↓pT, ↓pGC, ↓pGN, ↓pIf, ↓pRet, ↓pRetN, ↓pDrop, ↓pAsg, ↓pNx, ↓pBrk, ↓pCnt, ↓pNever, ↓pSub, ↓pAug, ↓pPar, ↓pParK, ↓pBM, ↓pFor, ↓pLc, ↓pLcO, ↓pYes, ↓piSeq, ↓piStr, ↓pStrK, ↓piRng1, ↓pRng1K, ↓piRng2, ↓pRng2K, ↓piEnum, ↓pEnumK, ↓piZip, ↓pZipL, ↓pZipT, ↓pFz, ↓pLenSet, ↓pIsT, ↓rIx_lst, ↓rIx_tup, ↓rIx_ref, ↓rIx_str, ↓rLen_str, ↓rLen_lst, ↓rLen_tup, ↓rLen_ref, ↓rIs_p, ↓rInt_int, ↓rInt_bl, ↓rStr_int, ↓rList_p, ↓rListO_p, ↓rTup_p, ↓rAdd_int, ↓rAdd_str, ↓rAdd_tup, ↓rAdd_lst, ↓rIntD_p, ↓rInt0_p, ↓rEq_int, ↓rEq_str, ↓rEq_bl, ↓rEq_lst, ↓rEq_tup, ↓rIsN_non, ↓rIsN_bl, ↓rIsN_int, ↓rIsN_str, ↓rIsN_tup, ↓rIsN_lst, ↓rNeg_p, ↓rSl_str, ↓rSl_tup, ↓rSl_lst, ↓rSl_scr, ↓rRep_p, ↓pOptK, ↓pChain, ↓pIfT, ↓pCallK, ↓pDzip, ↓pDzipK, ↓pDzipO, ↓pDzipKO, ↓rIsB_bl, ↓rDix_str, ↓rDix_int, ↓rIn_tup, ↓rIn_lst, ↓rEq_ns, ↓rEq_sn, ↓rRepT_p, ↓rAll_f, ↓rAll_t, ↓wSeq_p, ↓seqE_nx, ↓reduceIte, at_0, at_1, at_2, at_3, cut_1, cut_2, dl_0_0, dl_0_1, dl_0_2, dl_0_3, dl_0_4, dl_0_5, dl_1_0, dl_1_1, dl_1_2, dl_1_3, dl_1_4, dl_1_5, dl_2_0, dl_2_1, dl_2_2, dl_2_3, dl_2_4, dl_2_5, dl_3_0, dl_3_1, dl_3_2, dl_3_3, dl_3_4, dl_3_5, dl_4_0, dl_4_1, dl_4_2, dl_4_3, dl_4_4, dl_4_5, dn_1_0, dn_2_0, dn_2_1, dn_3_0, dn_3_1, dn_3_2, dn_4_0, dn_4_1, dn_4_2, dn_4_3, seqE_rt, seqE_bk, seqE_ct, seqE_ex, wipeD, frz_lst, frz_tup, at1_0, at2_0, at2_1, at3_0, at3_1, at3_2, at4_0, at4_1, at4_2, at4_3, at5_0, at5_1, at5_2, at5_3, at5_4, seqOf_put, seqOf_lst, seqOf_tup, insK_same, tyN_non, tyN_bl, tyN_int, tyN_str, tyN_tup, tyN_lst, tyN_dct, List.getElem?_cons_zero, List.getElem?_cons_succ, List.set_cons_zero, List.set_cons_succ, List.length_cons, List.length_nil, isB_NoneType_bool, isB_NoneType_int, isB_NoneType_str, isB_NoneType_tuple, isB_NoneType_list, isB_NoneType_dict, isB_bool_bool, isB_bool_int, isB_bool_str, isB_bool_tuple, isB_bool_list, isB_bool_dict, isB_int_bool, isB_int_int, isB_int_str, isB_int_tuple, isB_int_list, isB_int_dict, isB_str_bool, isB_str_int, isB_str_str, isB_str_tuple, isB_str_list, isB_str_dict, isB_tuple_bool, isB_tuple_int, isB_tuple_str, isB_tuple_tuple, isB_tuple_list, isB_tuple_dict, isB_list_bool, isB_list_int, isB_list_str, isB_list_tuple, isB_list_list, isB_list_dict, isB_dict_bool, isB_dict_int, isB_dict_str, isB_dict_tuple, isB_dict_list, isB_dict_dict, isC_bool, isC_int, isC_str, isC_tuple, isC_list, isC_dict, isA_list_tuple, isQ_NoneType, isQ_bool, isQ_int, isQ_str, isQ_tuple, isQ_list, isQ_dict, true_and, and_true, Bool.not_true, Bool.not_false, Bool.false_eq_true, Bool.true_xor, Bool.false_xor]
      exact fin_of q
  rw [if_neg h3] at q
  rw [decide_eq_false h3, if_neg Bool.false_ne_true]
  by_cases h4 : w = "is"
  · rw [if_pos h4] at q
    rw [decide_eq_true h4]
    rcases cs with _ | ⟨c, _ | ⟨v, _ | ⟨c2, r⟩⟩⟩
    · exact fin_of q
    · simp only [↓pVar, ↓pGet, ↓pC, ↓pOp, ↓pUn, ↓pCB, ↓pNil, ↓pCons, ↓pTest, ↓pBl, ↓pAndT, ↓pOrT, ↓pNotT, ↓pAndV, ↓pOrV, ↓pNotV, ↓pIfE, ↓pTup, ↓pLst, ↓pLstO, ↓pCall, ↓pMeth, ↓pFld, ↓pProp, ↓pMake, ↓pCv, ↓pSl, ↓pNo, ↓pSome, ↓pIntK, ↓pN, ↓pT, ↓pGC, ↓pGN, ↓pIf, ↓pRet, ↓pRetN, ↓pDrop, ↓pAsg, ↓pNx, ↓pBrk, ↓pCnt, ↓pNever, ↓pSub, ↓pAug, ↓pPar, ↓pParK, ↓pBM, ↓pFor, ↓pLc, ↓pLcO, ↓pYes, ↓piSeq, ↓piStr, ↓pStrK, ↓piRng1, ↓pRng1K, ↓piRng2, ↓pRng2K, ↓piEnum, ↓pEnumK, ↓piZip, ↓pZipL, ↓pZipT, ↓pFz, ↓pLenSet, ↓pIsT, ↓rIx_lst, ↓rIx_tup, ↓rIx_ref, ↓rIx_str, ↓rLen_str, ↓rLen_lst, ↓rLen_tup, ↓rLen_ref, ↓rIs_p, ↓rInt_int, ↓rInt_bl, ↓rStr_int, ↓rList_p, ↓rListO_p, ↓rTup_p, ↓rAdd_int, ↓rAdd_str, ↓rAdd_tup, ↓rAdd_lst, ↓rIntD_p, ↓rInt0_p, ↓rEq_int, ↓rEq_str, ↓rEq_bl, ↓rEq_lst, ↓rEq_tup, ↓rIsN_non, ↓rIsN_bl, ↓rIsN_int, ↓rIsN_str, ↓rIsN_tup, ↓rIsN_lst, ↓rNeg_p, ↓rSl_str, ↓rSl_tup, ↓rSl_lst, ↓rSl_scr, ↓rRep_p, ↓pOptK, ↓pChain, ↓pIfT, ↓pCallK, ↓pDzip, ↓pDzipK, ↓pDzipO, ↓pDzipKO, ↓rIsB_bl, ↓rDix_str, ↓rDix_int, ↓rIn_tup, ↓rIn_lst, ↓rEq_ns, ↓rEq_sn, ↓rRepT_p, ↓rAll_f, ↓rAll_t, ↓wSeq_p, ↓seqE_nx, ↓reduceIte, at_0, at_1, at_2, at_3, cut_1, cut_2, dl_0_0, dl_0_1, dl_0_2, dl_0_3, dl_0_4, dl_0_5, dl_1_0, dl_1_1, dl_1_2, dl_1_3, dl_1_4, dl_1_5, dl_2_0, dl_2_1, dl_2_2, dl_2_3, dl_2_4, dl_2_5, dl_3_0, dl_3_1, dl_3_2, dl_3_3, dl_3_4, dl_3_5, dl_4_0, dl_4_1, dl_4_2, dl_4_3, dl_4_4, dl_4_5, dn_1_0, dn_2_0, dn_2_1, dn_3_0, dn_3_1, dn_3_2, dn_4_0, dn_4_1, dn_4_2, dn_4_3, seqE_rt, seqE_bk, seqE_ct, seqE_ex, wipeD, frz_lst, frz_tup, at1_0, at2_0, at2_1, at3_0, at3_1, at3_2, at4_0, at4_1, at4_2, at4_3, at5_0, at5_1, at5_2, at5_3, at5_4, seqOf_put, seqOf_lst, seqOf_tup, insK_same, tyN_non, tyN_bl, tyN_int, tyN_str, tyN_tup, tyN_lst, tyN_dct, List.getElem?_cons_zero, List.getElem?_cons_succ, List.set_cons_zero, List.set_cons_succ, List.length_cons, List.length_nil, isB_NoneType_bool, isB_NoneType_int, isB_NoneType_str, isB_NoneType_tuple, isB_NoneType_list, isB_NoneType_dict, isB_bool_bool, isB_bool_int, isB_bool_str, isB_bool_tuple, isB_bool_list, isB_bool_dict, isB_int_bool, isB_int_int, isB_int_str, isB_int_tuple, isB_int_list, isB_int_dict, isB_str_bool, isB_str_int, isB_str_str, isB_str_tuple, isB_str_list, isB_str_dict, isB_tuple_bool, isB_tuple_int, isB_tuple_str, isB_tuple_tuple, isB_tuple_list, isB_tuple_dict, isB_list_bool, isB_list_int, isB_list_str, isB_list_tuple, isB_list_list, isB_list_dict, isB_dict_bool, isB_dict_int, isB_dict_str, isB_dict_tuple, isB_dict_list, isB_dict_dict, isC_bool, isC_int, isC_str, isC_tuple, isC_list, isC_dict, isA_list_tuple, isQ_NoneType, isQ_bool, isQ_int, isQ_str, isQ_tuple, isQ_list, isQ_dict, true_and, and_true, Bool.not_true, Bool.not_false, Bool.false_eq_true, Bool.true_xor, Bool.false_xor]
      exact fin_of q
    · have hc : pl c = true := hp c List.mem_cons_self
      have fc : flatD c = true := hf c List.mem_cons_self
      have hv : pl v = true := hp v (List.mem_cons_of_mem _ List.mem_cons_self)
      have sv : short v := hs v (List.mem_cons_of_mem _ List.mem_cons_self)
      simp only [↓pVar, ↓pGet, ↓pC, ↓pOp, ↓pUn, ↓pCB, ↓pNil, ↓pCons, ↓pTest, ↓pBl, ↓pAndT, ↓pOrT, ↓pNotT, ↓pAndV, ↓pOrV, ↓pNotV, ↓pIfE, ↓pTup, ↓pLst, ↓pLstO, ↓pCall, ↓pMeth, ↓pFld, ↓pProp, ↓pMake, ↓pCv, ↓pSl, ↓pNo, ↓pSome, ↓pIntK, ↓pN, ↓pT, ↓pGC, ↓pGN, ↓pIf, ↓pRet, ↓pRetN, ↓pDrop, ↓pAsg, ↓pNx, ↓pBrk, ↓pCnt, ↓pNever, ↓pSub, ↓pAug, ↓pPar, ↓pParK, ↓pBM, ↓pFor, ↓pLc, ↓pLcO, ↓pYes, ↓piSeq, ↓piStr, ↓pStrK, ↓piRng1, ↓pRng1K, ↓piRng2, ↓pRng2K, ↓piEnum, ↓pEnumK, ↓piZip, ↓pZipL, ↓pZipT, ↓pFz, ↓pLenSet, ↓pIsT, ↓rIx_lst, ↓rIx_tup, ↓rIx_ref, ↓rIx_str, ↓rLen_str, ↓rLen_lst, ↓rLen_tup, ↓rLen_ref, ↓rIs_p, ↓rInt_int, ↓rInt_bl, ↓rStr_int, ↓rList_p, ↓rListO_p, ↓rTup_p, ↓rAdd_int, ↓rAdd_str, ↓rAdd_tup, ↓rAdd_lst, ↓rIntD_p, ↓rInt0_p, ↓rEq_int, ↓rEq_str, ↓rEq_bl, ↓rEq_lst, ↓rEq_tup, ↓rIsN_non, ↓rIsN_bl, ↓rIsN_int, ↓rIsN_str, ↓rIsN_tup, ↓rIsN_lst, ↓rNeg_p, ↓rSl_str, ↓rSl_tup, ↓rSl_lst, ↓rSl_scr, ↓rRep_p, ↓pOptK, ↓pChain, ↓pIfT, ↓pCallK, ↓pDzip, ↓pDzipK, ↓pDzipO, ↓pDzipKO, ↓rIsB_bl, ↓rDix_str, ↓rDix_int, ↓rIn_tup, ↓rIn_lst, ↓rEq_ns, ↓rEq_sn, ↓rRepT_p, ↓rAll_f, ↓rAll_t, ↓wSeq_p, ↓seqE_nx, ↓reduceIte, at_0, at_1, at_2, at_3, cut_1, cut_2, dl_0_0, dl_0_1, dl_0_2, dl_0_3, dl_0_4, dl_0_5, dl_1_0, dl_1_1, dl_1_2, dl_1_3, dl_1_4, dl_1_5, dl_2_0, dl_2_1, dl_2_2, dl_2_3, dl_2_4, dl_2_5, dl_3_0, dl_3_1, dl_3_2, dl_3_3, dl_3_4, dl_3_5, dl_4_0, dl_4_1, dl_4_2, dl_4_3, dl_4_4, dl_4_5, dn_1_0, dn_2_0, dn_2_1, dn_3_0, dn_3_1, dn_3_2, dn_4_0, dn_4_1, dn_4_2, dn_4_3, seqE_rt, seqE_bk, seqE_ct, seqE_ex, wipeD, frz_lst, frz_tup, at1_0, at2_0, at2_1, at3_0, at3_1, at3_2, at4_0, at4_1, at4_2, at4_3, at5_0, at5_1, at5_2, at5_3, at5_4, seqOf_put, seqOf_lst, seqOf_tup, insK_same, tyN_non, tyN_bl, tyN_int, tyN_str, tyN_tup, tyN_lst, tyN_dct, List.getElem?_cons_zero, List.getElem?_cons_succ, List.set_cons_zero, List.set_cons_succ, List.length_cons, List.length_nil, isB_NoneType_bool, isB_NoneType_int, isB_NoneType_str, isB_NoneType_tuple, isB_NoneType_list, isB_NoneType_dict, isB_bool_bool, isB_bool_int, isB_bool_str, isB_bool_tuple, isB_bool_list, isB_bool_dict, isB_int_bool, isB_int_int, isB_int_str, isB_int_tuple, isB_int_list, isB_int_dict, isB_str_bool, isB_str_int, isB_str_str, isB_str_tuple, isB_str_list, isB_str_dict, isB_tuple_bool, isB_tuple_int, isB_tuple_str, isB_tuple_tuple, isB_tuple_list, isB_tuple_dict, isB_list_bool, isB_list_int, isB_list_str, isB_list_tuple, isB_list_list, isB_list_dict, isB_dict_bool, isB_dict_int, isB_dict_str, isB_dict_tuple, isB_dict_list, isB_dict_dict, isC_bool, isC_int, isC_str, isC_tuple, isC_list, isC_dict, isA_list_tuple, isQ_NoneType, isQ_bool, isQ_int, isQ_str, isQ_tuple, isQ_list, isQ_dict, true_and, and_true, Bool.not_true, Bool.not_false, Bool.false_eq_true, Bool.true_xor, Bool.false_xor]
      refine ⟨fs, ss, c, rfl, hc, ?_⟩
      simp only [↓pVar, ↓pGet, ↓pC, ↓pOp, ↓pUn, ↓pCB, ↓pNil, ↓pCons, ↓pTest, ↓pBl, ↓pAndT, ↓pOrT, ↓pNotT, ↓pAndV, ↓pOrV, ↓pNotV, ↓pIfE, ↓pTup, ↓pLst, ↓pLstO, ↓pCall, ↓pMeth, ↓pFld, ↓pProp, ↓pMake, ↓pCv, ↓pSl, ↓pNo, ↓pSome, ↓pIntK, ↓pN, ↓pT, ↓pGC, ↓pGN, ↓pIf, ↓pRet, ↓pRetN, ↓pDrop, ↓pAsg, ↓pNx, ↓pBrk, ↓pCnt, ↓pNever, ↓pSub, ↓pAug, ↓pPar, ↓pParK, ↓pBM, ↓pFor, ↓pLc, ↓pLcO, ↓pYes, ↓piSeq, ↓piStr, ↓pStrK, ↓piRng1, ↓pRng1K, ↓piRng2, ↓pRng2K, ↓piEnum, ↓pEnumK, ↓piZip, ↓pZipL, ↓pZipT, ↓pFz, ↓pLenSet, ↓pIsT, ↓rIx_lst, ↓rIx_tup, ↓rIx_ref, ↓rIx_str, ↓rLen_str, ↓rLen_lst, ↓rLen_tup, ↓rLen_ref, ↓rIs_p, ↓rInt_int, ↓rInt_bl, ↓rStr_int, ↓rList_p, ↓rListO_p, ↓rTup_p, ↓rAdd_int, ↓rAdd_str, ↓rAdd_tup, ↓rAdd_lst, ↓rIntD_p, ↓rInt0_p, ↓rEq_int, ↓rEq_str, ↓rEq_bl, ↓rEq_lst, ↓rEq_tup, ↓rIsN_non, ↓rIsN_bl, ↓rIsN_int, ↓rIsN_str, ↓rIsN_tup, ↓rIsN_lst, ↓rNeg_p, ↓rSl_str, ↓rSl_tup, ↓rSl_lst, ↓rSl_scr, ↓rRep_p, ↓pOptK, ↓pChain, ↓pIfT, ↓pCallK, ↓pDzip, ↓pDzipK, ↓pDzipO, ↓pDzipKO, ↓rIsB_bl, ↓rDix_str, ↓rDix_int, ↓rIn_tup, ↓rIn_lst, ↓rEq_ns, ↓rEq_sn, ↓rRepT_p, ↓rAll_f, ↓rAll_t, ↓wSeq_p, ↓seqE_nx, ↓reduceIte, at_0, at_1, at_2, at_3, cut_1, cut_2, dl_0_0, dl_0_1, dl_0_2, dl_0_3, dl_0_4, dl_0_5, dl_1_0, dl_1_1, dl_1_2, dl_1_3, dl_1_4, dl_1_5, dl_2_0, dl_2_1, dl_2_2, dl_2_3, dl_2_4, dl_2_5, dl_3_0, dl_3_1, dl_3_2, dl_3_3, dl_3_4, dl_3_5, dl_4_0, dl_4_1, dl_4_2, dl_4_3, dl_4_4, dl_4_5, dn_1_0, dn_2_0, dn_2_1, dn_3_0, dn_3_1, dn_3_2, dn_4_0, dn_4_1, dn_4_2, dn_4_3, seqE_rt, seqE_bk, seqE_ct, seqE_ex, wipeD, frz_lst, frz_tup, at1_0, at2_0, at2_1, at3_0, at3_1, at3_2, at4_0, at4_1, at4_2, at4_3, at5_0, at5_1, at5_2, at5_3, at5_4, seqOf_put, seqOf_lst, seqOf_tup, insK_same, tyN_non, tyN_bl, tyN_int, tyN_str, tyN_tup, tyN_lst, tyN_dct, List.getElem?_cons_zero, List.getElem?_cons_succ, List.set_cons_zero, List.set_cons_succ, List.length_cons, List.length_nil, isB_NoneType_bool, isB_NoneType_int, isB_NoneType_str, isB_NoneType_tuple, isB_NoneType_list, isB_NoneType_dict, isB_bool_bool, isB_bool_int, isB_bool_str, isB_bool_tuple, isB_bool_list, isB_bool_dict, isB_int_bool, isB_int_int, isB_int_str, isB_int_tuple, isB_int_list, isB_int_dict, isB_str_bool, isB_str_int, isB_str_str, isB_str_tuple, isB_str_list, isB_str_dict, isB_tuple_bool, isB_tuple_int, isB_tuple_str, isB_tuple_tuple, isB_tuple_list, isB_tuple_dict, isB_list_bool, isB_list_int, isB_list_str, isB_list_tuple, isB_list_list, isB_list_dict, isB_dict_bool, isB_dict_int, isB_dict_str, isB_dict_tuple, isB_dict_list, isB_dict_dict, isC_bool, isC_int, isC_str, isC_tuple, isC_list, isC_dict, isA_list_tuple, isQ_NoneType, isQ_bool, isQ_int, isQ_str, isQ_tuple, isQ_list, isQ_dict, true_and, and_true, Bool.not_true, Bool.not_false, Bool.false_eq_true, Bool.true_xor, Bool.false_xor, inD_flat hc]
      cases hb : strIn fs c with
      | false =>
        simp only [hb, Bool.false_and] at q
        simp only [↓pVar, ↓pGet, ↓pC, ↓pOp, ↓pUn, ↓pCB, ↓pNil, ↓pCons, ↓pTest, ↓pBl, ↓pAndT, ↓pOrT, ↓pNotT, ↓pAndV, ↓pOrV, ↓pNotV, ↓pIfE, ↓pTup, ↓pLst, ↓pLstO, ↓pCall, ↓pMeth, ↓pFld, ↓pProp, ↓pMake, ↓pCv, ↓pSl, ↓pNo, ↓pSome, ↓pIntK, ↓pN, ↓pT, ↓pGC, ↓pGN, ↓pIf, ↓pRet, ↓pRetN, ↓pDrop, ↓pAsg, ↓pNx, ↓pBrk, ↓pCnt, ↓pNever, ↓pSub, ↓pAug, ↓pPar, ↓pParK, ↓pBM, ↓pFor, ↓pLc, ↓pLcO, ↓pYes, ↓piSeq, ↓piStr, ↓pStrK, ↓piRng1, ↓pRng1K, ↓piRng2, ↓pRng2K, ↓piEnum, ↓pEnumK, ↓piZip, ↓pZipL, ↓pZipT, ↓pFz, ↓pLenSet, ↓pIsT, ↓rIx_lst, ↓rIx_tup, ↓rIx_ref, ↓rIx_str, ↓rLen_str, ↓rLen_lst, ↓rLen_tup, ↓rLen_ref, ↓rIs_p, ↓rInt_int, ↓rInt_bl, ↓rStr_int, ↓rList_p, ↓rListO_p, ↓rTup_p, ↓rAdd_int, ↓rAdd_str, ↓rAdd_tup, ↓rAdd_lst, ↓rIntD_p, ↓rInt0_p, ↓rEq_int, ↓rEq_str, ↓rEq_bl, ↓rEq_lst, ↓rEq_tup, ↓rIsN_non, ↓rIsN_bl, ↓rIsN_int, ↓rIsN_str, ↓rIsN_tup, ↓rIsN_lst, ↓rNeg_p, ↓rSl_str, ↓rSl_tup, ↓rSl_lst, ↓rSl_scr, ↓rRep_p, ↓pOptK, ↓pChain, ↓pIfT, ↓pCallK, ↓pDzip, ↓pDzipK, ↓pDzipO, ↓pDzipKO, ↓rIsB_bl, ↓rDix_str, ↓rDix_int, ↓rIn_tup, ↓rIn_lst, ↓rEq_ns, ↓rEq_sn, ↓rRepT_p, ↓rAll_f, ↓rAll_t, ↓wSeq_p, ↓seqE_nx, ↓reduceIte, at_0, at_1, at_2, at_3, cut_1, cut_2, dl_0_0, dl_0_1, dl_0_2, dl_0_3, dl_0_4, dl_0_5, dl_1_0, dl_1_1, dl_1_2, dl_1_3, dl_1_4, dl_1_5, dl_2_0, dl_2_1, dl_2_2, dl_2_3, dl_2_4, dl_2_5, dl_3_0, dl_3_1, dl_3_2, dl_3_3, dl_3_4, dl_3_5, dl_4_0, dl_4_1, dl_4_2, dl_4_3, dl_4_4, dl_4_5, dn_1_0, dn_2_0, dn_2_1, dn_3_0, dn_3_1, dn_3_2, dn_4_0, dn_4_1, dn_4_2, dn_4_3, seqE_rt, seqE_bk, seqE_ct, seqE_ex, wipeD, frz_lst, frz_tup, at1_0, at2_0, at2_1, at3_0, at3_1, at3_2, at4_0, at4_1, at4_2, at4_3, at5_0, at5_1, at5_2, at5_3, at5_4, seqOf_put, seqOf_lst, seqOf_tup, insK_same, tyN_non, tyN_bl, tyN_int, tyN_str, tyN_tup, tyN_lst, tyN_dct, List.getElem?_cons_zero, List.getElem?_cons_succ, List.set_cons_zero, List.set_cons_succ, List.length_cons, List.length_nil, isB_NoneType_bool, isB_NoneType_int, isB_NoneType_str, isB_NoneType_tuple, isB_NoneType_list, isB_NoneType_dict, isB_bool_bool, isB_bool_int, isB_bool_str, isB_bool_tuple, isB_bool_list, isB_bool_dict, isB_int_bool, isB_int_int, isB_int_str, isB_int_tuple, isB_int_list, isB_int_dict, isB_str_bool, isB_str_int, isB_str_str, isB_str_tuple, isB_str_list, isB_str_dict, isB_tuple_bool, isB_tuple_int, isB_tuple_str, isB_tuple_tuple, isB_tuple_list, isB_tuple_dict, isB_list_bool, isB_list_int, isB_list_str, isB_list_tuple, isB_list_list, isB_list_dict, isB_dict_bool, isB_dict_int, isB_dict_str, isB_dict_tuple, isB_dict_list, isB_dict_dict, isC_bool, isC_int, isC_str, isC_tuple, isC_list, isC_dict, isA_list_tuple, isQ_NoneType, isQ_bool, isQ_int, isQ_str, isQ_tuple, isQ_list, isQ_dict, true_and, and_true, Bool.not_true, Bool.not_false, Bool.false_eq_true, Bool.true_xor, Bool.false_xor]
        exact fin_of q
      | true =>
        simp only [hb, Bool.true_and] at q
        simp only [↓pVar, ↓pGet, ↓pC, ↓pOp, ↓pUn, ↓pCB, ↓pNil, ↓pCons, ↓pTest, ↓pBl, ↓pAndT, ↓pOrT, ↓pNotT, ↓pAndV, ↓pOrV, ↓pNotV, ↓pIfE, ↓pTup, ↓pLst, ↓pLstO, ↓pCall, ↓pMeth, ↓pFld, ↓pProp, ↓pMake, ↓pCv, ↓pSl, ↓pNo, ↓pSome, ↓pIntK, ↓pN, ↓pT, ↓pGC, ↓pGN, ↓pIf, ↓pRet, ↓pRetN, ↓pDrop, ↓pAsg, ↓pNx, ↓pBrk, ↓pCnt, ↓pNever, ↓pSub, ↓pAug, ↓pPar, ↓pParK, ↓pBM, ↓pFor, ↓pLc, ↓pLcO, ↓pYes, ↓piSeq, ↓piStr, ↓pStrK, ↓piRng1, ↓pRng1K, ↓piRng2, ↓pRng2K, ↓piEnum, ↓pEnumK, ↓piZip, ↓pZipL, ↓pZipT, ↓pFz, ↓pLenSet, ↓pIsT, ↓rIx_lst, ↓rIx_tup, ↓rIx_ref, ↓rIx_str, ↓rLen_str, ↓rLen_lst, ↓rLen_tup, ↓rLen_ref, ↓rIs_p, ↓rInt_int, ↓rInt_bl, ↓rStr_int, ↓rList_p, ↓rListO_p, ↓rTup_p, ↓rAdd_int, ↓rAdd_str, ↓rAdd_tup, ↓rAdd_lst, ↓rIntD_p, ↓rInt0_p, ↓rEq_int, ↓rEq_str, ↓rEq_bl, ↓rEq_lst, ↓rEq_tup, ↓rIsN_non, ↓rIsN_bl, ↓rIsN_int, ↓rIsN_str, ↓rIsN_tup, ↓rIsN_lst, ↓rNeg_p, ↓rSl_str, ↓rSl_tup, ↓rSl_lst, ↓rSl_scr, ↓rRep_p, ↓pOptK, ↓pChain, ↓pIfT, ↓pCallK, ↓pDzip, ↓pDzipK, ↓pDzipO, ↓pDzipKO, ↓rIsB_bl, ↓rDix_str, ↓rDix_int, ↓rIn_tup, ↓rIn_lst, ↓rEq_ns, ↓rEq_sn, ↓rRepT_p, ↓rAll_f, ↓rAll_t, ↓wSeq_p, ↓seqE_nx, ↓reduceIte, at_0, at_1, at_2, at_3, cut_1, cut_2, dl_0_0, dl_0_1, dl_0_2, dl_0_3, dl_0_4, dl_0_5, dl_1_0, dl_1_1, dl_1_2, dl_1_3, dl_1_4, dl_1_5, dl_2_0, dl_2_1, dl_2_2, dl_2_3, dl_2_4, dl_2_5, dl_3_0, dl_3_1, dl_3_2, dl_3_3, dl_3_4, dl_3_5, dl_4_0, dl_4_1, dl_4_2, dl_4_3, dl_4_4, dl_4_5, dn_1_0, dn_2_0, dn_2_1, dn_3_0, dn_3_1, dn_3_2, dn_4_0, dn_4_1, dn_4_2, dn_4_3, seqE_rt, seqE_bk, seqE_ct, seqE_ex, wipeD, frz_lst, frz_tup, at1_0, at2_0, at2_1, at3_0, at3_1, at3_2, at4_0, at4_1, at4_2, at4_3, at5_0, at5_1, at5_2, at5_3, at5_4, seqOf_put, seqOf_lst, seqOf_tup, insK_same, tyN_non, tyN_bl, tyN_int, tyN_str, tyN_tup, tyN_lst, tyN_dct, List.getElem?_cons_zero, List.getElem?_cons_succ, List.set_cons_zero, List.set_cons_succ, List.length_cons, List.length_nil, isB_NoneType_bool, isB_NoneType_int, isB_NoneType_str, isB_NoneType_tuple, isB_NoneType_list, isB_NoneType_dict, isB_bool_bool, isB_bool_int, isB_bool_str, isB_bool_tuple, isB_bool_list, isB_bool_dict, isB_int_bool, isB_int_int, isB_int_str, isB_int_tuple, isB_int_list, isB_int_dict, isB_str_bool, isB_str_int, isB_str_str, isB_str_tuple, isB_str_list, isB_str_dict, isB_tuple_bool, isB_tuple_int, isB_tuple_str, isB_tuple_tuple, isB_tuple_list, isB_tuple_dict, isB_list_bool, isB_list_int, isB_list_str, isB_list_tuple, isB_list_list, isB_list_dict, isB_dict_bool, isB_dict_int, isB_dict_str, isB_dict_tuple, isB_dict_list, isB_dict_dict, isC_bool, isC_int, isC_str, isC_tuple, isC_list, isC_dict, isA_list_tuple, isQ_NoneType, isQ_bool, isQ_int, isQ_str, isQ_tuple, isQ_list, isQ_dict, true_and, and_true, Bool.not_true, Bool.not_false, Bool.false_eq_true, Bool.true_xor, Bool.false_xor]
        refine ⟨fc, flat_map held, ?_⟩
        cases hb2 : strIn held c with
        | false =>
          simp only [hb2, Bool.false_and] at q
          simp only [↓pVar, ↓pGet, ↓pC, ↓pOp, ↓pUn, ↓pCB, ↓pNil, ↓pCons, ↓pTest, ↓pBl, ↓pAndT, ↓pOrT, ↓pNotT, ↓pAndV, ↓pOrV, ↓pNotV, ↓pIfE, ↓pTup, ↓pLst, ↓pLstO, ↓pCall, ↓pMeth, ↓pFld, ↓pProp, ↓pMake, ↓pCv, ↓pSl, ↓pNo, ↓pSome, ↓pIntK, ↓pN, ↓pT, ↓pGC, ↓pGN, ↓pIf, ↓pRet, ↓pRetN, ↓pDrop, ↓pAsg, ↓pNx, ↓pBrk, ↓pCnt, ↓pNever, ↓pSub, ↓pAug, ↓pPar, ↓pParK, ↓pBM, ↓pFor, ↓pLc, ↓pLcO, ↓pYes, ↓piSeq, ↓piStr, ↓pStrK, ↓piRng1, ↓pRng1K, ↓piRng2, ↓pRng2K, ↓piEnum, ↓pEnumK, ↓piZip, ↓pZipL, ↓pZipT, ↓pFz, ↓pLenSet, ↓pIsT, ↓rIx_lst, ↓rIx_tup, ↓rIx_ref, ↓rIx_str, ↓rLen_str, ↓rLen_lst, ↓rLen_tup, ↓rLen_ref, ↓rIs_p, ↓rInt_int, ↓rInt_bl, ↓rStr_int, ↓rList_p, ↓rListO_p, ↓rTup_p, ↓rAdd_int, ↓rAdd_str, ↓rAdd_tup, ↓rAdd_lst, ↓rIntD_p, ↓rInt0_p, ↓rEq_int, ↓rEq_str, ↓rEq_bl, ↓rEq_lst, ↓rEq_tup, ↓rIsN_non, ↓rIsN_bl, ↓rIsN_int, ↓rIsN_str, ↓rIsN_tup, ↓rIsN_lst, ↓rNeg_p, ↓rSl_str, ↓rSl_tup, ↓rSl_lst, ↓rSl_scr, ↓rRep_p, ↓pOptK, ↓pChain, ↓pIfT, ↓pCallK, ↓pDzip, ↓pDzipK, ↓pDzipO, ↓pDzipKO, ↓rIsB_bl, ↓rDix_str, ↓rDix_int, ↓rIn_tup, ↓rIn_lst, ↓rEq_ns, ↓rEq_sn, ↓rRepT_p, ↓rAll_f, ↓rAll_t, ↓wSeq_p, ↓seqE_nx, ↓reduceIte, at_0, at_1, at_2, at_3, cut_1, cut_2, dl_0_0, dl_0_1, dl_0_2, dl_0_3, dl_0_4, dl_0_5, dl_1_0, dl_1_1, dl_1_2, dl_1_3, dl_1_4, dl_1_5, dl_2_0, dl_2_1, dl_2_2, dl_2_3, dl_2_4, dl_2_5, dl_3_0, dl_3_1, dl_3_2, dl_3_3, dl_3_4, dl_3_5, dl_4_0, dl_4_1, dl_4_2, dl_4_3, dl_4_4, dl_4_5, dn_1_0, dn_2_0, dn_2_1, dn_3_0, dn_3_1, dn_3_2, dn_4_0, dn_4_1, dn_4_2, dn_4_3, seqE_rt, seqE_bk, seqE_ct, seqE_ex, wipeD, frz_lst, frz_tup, at1_0, at2_0, at2_1, at3_0, at3_1, at3_2, at4_0, at4_1, at4_2, at4_3, at5_0, at5_1, at5_2, at5_3, at5_4, seqOf_put, seqOf_lst, seqOf_tup, insK_same, tyN_non, tyN_bl, tyN_int, tyN_str, tyN_tup, tyN_lst, tyN_dct, List.getElem?_cons_zero, List.getElem?_cons_succ, List.set_cons_zero, List.set_cons_succ, List.length_cons, List.length_nil, isB_NoneType_bool, isB_NoneType_int, isB_NoneType_str, isB_NoneType_tuple, isB_NoneType_list, isB_NoneType_dict, isB_bool_bool, isB_bool_int, isB_bool_str, isB_bool_tuple, isB_bool_list, isB_bool_dict, isB_int_bool, isB_int_int, isB_int_str, isB_int_tuple, isB_int_list, isB_int_dict, isB_str_bool, isB_str_int, isB_str_str, isB_str_tuple, isB_str_list, isB_str_dict, isB_tuple_bool, isB_tuple_int, isB_tuple_str, isB_tuple_tuple, isB_tuple_list, isB_tuple_dict, isB_list_bool, isB_list_int, isB_list_str, isB_list_tuple, isB_list_list, isB_list_dict, isB_dict_bool, isB_dict_int, isB_dict_str, isB_dict_tuple, isB_dict_list, isB_dict_dict, isC_bool, isC_int, isC_str, isC_tuple, isC_list, isC_dict, isA_list_tuple, isQ_NoneType, isQ_bool, isQ_int, isQ_str, isQ_tuple, isQ_list, isQ_dict, true_and, and_true, Bool.not_true, Bool.not_false, Bool.false_eq_true, Bool.true_xor, Bool.false_xor]
          exact fin_of q
        | true =>
          simp only [hb2, Bool.true_and] at q
          simp only [↓pVar, ↓pGet, ↓pC, ↓pOp, ↓pUn, ↓pCB, ↓pNil, ↓pCons, ↓pTest, ↓pBl, ↓pAndT, ↓pOrT, ↓pNotT, ↓pAndV, ↓pOrV, ↓pNotV, ↓pIfE, ↓pTup, ↓pLst, ↓pLstO, ↓pCall, ↓pMeth, ↓pFld, ↓pProp, ↓pMake, ↓pCv, ↓pSl, ↓pNo, ↓pSome, ↓pIntK, ↓pN, ↓pT, ↓pGC, ↓pGN, ↓pIf, ↓pRet, ↓pRetN, ↓pDrop, ↓pAsg, ↓pNx, ↓pBrk, ↓pCnt, ↓pNever, ↓pSub, ↓pAug, ↓pPar, ↓pParK, ↓pBM, ↓pFor, ↓pLc, ↓pLcO, ↓pYes, ↓piSeq, ↓piStr, ↓pStrK, ↓piRng1, ↓pRng1K, ↓piRng2, ↓pRng2K, ↓piEnum, ↓pEnumK, ↓piZip, ↓pZipL, ↓pZipT, ↓pFz, ↓pLenSet, ↓pIsT, ↓rIx_lst, ↓rIx_tup, ↓rIx_ref, ↓rIx_str, ↓rLen_str, ↓rLen_lst, ↓rLen_tup, ↓rLen_ref, ↓rIs_p, ↓rInt_int, ↓rInt_bl, ↓rStr_int, ↓rList_p, ↓rListO_p, ↓rTup_p, ↓rAdd_int, ↓rAdd_str, ↓rAdd_tup, ↓rAdd_lst, ↓rIntD_p, ↓rInt0_p, ↓rEq_int, ↓rEq_str, ↓rEq_bl, ↓rEq_lst, ↓rEq_tup, ↓rIsN_non, ↓rIsN_bl, ↓rIsN_int, ↓rIsN_str, ↓rIsN_tup, ↓rIsN_lst, ↓rNeg_p, ↓rSl_str, ↓rSl_tup, ↓rSl_lst, ↓rSl_scr, ↓rRep_p, ↓pOptK, ↓pChain, ↓pIfT, ↓pCallK, ↓pDzip, ↓pDzipK, ↓pDzipO, ↓pDzipKO, ↓rIsB_bl, ↓rDix_str, ↓rDix_int, ↓rIn_tup, ↓rIn_lst, ↓rEq_ns, ↓rEq_sn, ↓rRepT_p, ↓rAll_f, ↓rAll_t, ↓wSeq_p, ↓seqE_nx, ↓reduceIte, at_0, at_1, at_2, at_3, cut_1, cut_2, dl_0_0, dl_0_1, dl_0_2, dl_0_3, dl_0_4, dl_0_5, dl_1_0, dl_1_1, dl_1_2, dl_1_3, dl_1_4, dl_1_5, dl_2_0, dl_2_1, dl_2_2, dl_2_3, dl_2_4, dl_2_5, dl_3_0, dl_3_1, dl_3_2, dl_3_3, dl_3_4, dl_3_5, dl_4_0, dl_4_1, dl_4_2, dl_4_3, dl_4_4, dl_4_5, dn_1_0, dn_2_0, dn_2_1, dn_3_0, dn_3_1, dn_3_2, dn_4_0, dn_4_1, dn_4_2, dn_4_3, seqE_rt, seqE_bk, seqE_ct, seqE_ex, wipeD, frz_lst, frz_tup, at1_0, at2_0, at2_1, at3_0, at3_1, at3_2, at4_0, at4_1, at4_2, at4_3, at5_0, at5_1, at5_2, at5_3, at5_4, seqOf_put, seqOf_lst, seqOf_tup, insK_same, tyN_non, tyN_bl, tyN_int, tyN_str, tyN_tup, tyN_lst, tyN_dct, List.getElem?_cons_zero, List.getElem?_cons_succ, List.set_cons_zero, List.set_cons_succ, List.length_cons, List.length_nil, isB_NoneType_bool, isB_NoneType_int, isB_NoneType_str, isB_NoneType_tuple, isB_NoneType_list, isB_NoneType_dict, isB_bool_bool, isB_bool_int, isB_bool_str, isB_bool_tuple, isB_bool_list, isB_bool_dict, isB_int_bool, isB_int_int, isB_int_str, isB_int_tuple, isB_int_list, isB_int_dict, isB_str_bool, isB_str_int, isB_str_str, isB_str_tuple, isB_str_list, isB_str_dict, isB_tuple_bool, isB_tuple_int, isB_tuple_str, isB_tuple_tuple, isB_tuple_list, isB_tuple_dict, isB_list_bool, isB_list_int, isB_list_str, isB_list_tuple, isB_list_list, isB_list_dict, isB_dict_bool, isB_dict_int, isB_dict_str, isB_dict_tuple, isB_dict_list, isB_dict_dict, isC_bool, isC_int, isC_str, isC_tuple, isC_list, isC_dict, isA_list_tuple, isQ_NoneType, isQ_bool, isQ_int, isQ_str, isQ_tuple, isQ_list, isQ_dict, true_and, and_true, Bool.not_true, Bool.not_false, Bool.false_eq_true, Bool.true_xor, Bool.false_xor]
          exact ⟨v, rfl, hv, sv, fin_of q⟩
    · simp only [↓pVar, ↓pGet, ↓pC, ↓pOp, ↓pUn, ↓pCB, ↓pNil, ↓pCons, ↓pTest, ↓pBl, ↓pAndT, ↓pOrT, ↓pNotT, ↓pAndV, ↓pOrV, ↓pNotV, ↓pIfE, ↓pTup, ↓pLst, ↓pLstO, ↓pCall, ↓pMeth, ↓pFld, ↓pProp, ↓pMake, ↓pCv, ↓pSl, ↓pNo, ↓pSome, ↓pIntK, ↓pN, ↓pT, ↓pGC, ↓pGN, ↓pIf, ↓pRet, ↓pRetN, ↓pDrop, ↓pAsg, ↓pNx, ↓pBrk, ↓pCnt, ↓pNever, ↓pSub, ↓pAug, ↓pPar, ↓pParK, ↓pBM, ↓pFor, ↓pLc, ↓pLcO, ↓pYes, ↓piSeq, ↓piStr, ↓pStrK, ↓piRng1, ↓pRng1K, ↓piRng2, ↓pRng2K, ↓piEnum, ↓pEnumK, ↓piZip, ↓pZipL, ↓pZipT, ↓pFz, ↓pLenSet, ↓pIsT, ↓rIx_lst, ↓rIx_tup, ↓rIx_ref, ↓rIx_str, ↓rLen_str, ↓rLen_lst, ↓rLen_tup, ↓rLen_ref, ↓rIs_p, ↓rInt_int, ↓rInt_bl, ↓rStr_int, ↓rList_p, ↓rListO_p, ↓rTup_p, ↓rAdd_int, ↓rAdd_str, ↓rAdd_tup, ↓rAdd_lst, ↓rIntD_p, ↓rInt0_p, ↓rEq_int, ↓rEq_str, ↓rEq_bl, ↓rEq_lst, ↓rEq_tup, ↓rIsN_non, ↓rIsN_bl, ↓rIsN_int, ↓rIsN_str, ↓rIsN_tup, ↓rIsN_lst, ↓rNeg_p, ↓rSl_str, ↓rSl_tup, ↓rSl_lst, ↓rSl_scr, ↓rRep_p, ↓pOptK, ↓pChain, ↓pIfT, ↓pCallK, ↓pDzip, ↓pDzipK, ↓pDzipO, ↓pDzipKO, ↓rIsB_bl, ↓rDix_str, ↓rDix_int, ↓rIn_tup, ↓rIn_lst, ↓rEq_ns, ↓rEq_sn, ↓rRepT_p, ↓rAll_f, ↓rAll_t, ↓wSeq_p, ↓seqE_nx, ↓reduceIte, at_0, at_1, at_2, at_3, cut_1, cut_2, dl_0_0, dl_0_1, dl_0_2, dl_0_3, dl_0_4, dl_0_5, dl_1_0, dl_1_1, dl_1_2, dl_1_3, dl_1_4, dl_1_5, dl_2_0, dl_2_1, dl_2_2, dl_2_3, dl_2_4, dl_2_5, dl_3_0, dl_3_1, dl_3_2, dl_3_3, dl_3_4, dl_3_5, dl_4_0, dl_4_1, dl_4_2, dl_4_3, dl_4_4, dl_4_5, dn_1_0, dn_2_0, dn_2_1, dn_3_0, dn_3_1, dn_3_2, dn_4_0, dn_4_1, dn_4_2, dn_4_3, seqE_rt, seqE_bk, seqE_ct, seqE_ex, wipeD, frz_lst, frz_tup, at1_0, at2_0, at2_1, at3_0, at3_1, at3_2, at4_0, at4_1, at4_2, at4_3, at5_0, at5_1, at5_2, at5_3, at5_4, seqOf_put, seqOf_lst, seqOf_tup, insK_same, tyN_non, tyN_bl, tyN_int, tyN_str, tyN_tup, tyN_lst, tyN_dct, List.getElem?_cons_zero, List.getElem?_cons_succ, List.set_cons_zero, List.set_cons_succ, List.length_cons, List.length_nil, isB_NoneType_bool, isB_NoneType_int, isB_NoneType_str, isB_NoneType_tuple, isB_NoneType_list, isB_NoneType_dict, isB_bool_bool, isB_bool_int, isB_bool_str, isB_bool_tuple, isB_bool_list, isB_bool_dict, isB_int_bool, isB_int_int, isB_int_str, isB_int_tuple, isB_int_list, isB_int_dict, isB_str_bool, isB_str_int, isB_str_str, isB_str_tuple, isB_str_list, isB_str_dict, isB_tuple_bool, isB_tuple_int, isB_tuple_str, isB_tuple_tuple, isB_tuple_list, isB_tuple_dict, isB_list_bool, isB_list_int, isB_list_str, isB_list_tuple, isB_list_list, isB_list_dict, isB_dict_bool, isB_dict_int, isB_dict_str, isB_dict_tuple, isB_dict_list, isB_dict_dict, isC_bool, isC_int, isC_str, isC_tuple, isC_list, isC_dict, isA_list_tuple, isQ_NoneType, isQ_bool, isQ_int, isQ_str, isQ_tuple, isQ_list, isQ_dict, true_and, and_true, Bool.not_true, Bool.not_false, Bool.false_eq_true, Bool.true_xor, Bool.false_xor]
      exact fin_of q
  rw [if_neg h4] at q
  rw [decide_eq_false h4]
  exact fin_of q
theorem ok_is_simple {P : Program} {w : World} {K : PySem.W.Frag} {mg : Str → Option Value} {base : Heap} {A : Ad} (T : Txt K mg A) : FnJ P w K mg base 4 A.f_is_simple (sp_is_simple A) :=
  FnJ.mkAt T.d_is_simple sc_is_simple (fun cdv R outer s H E hr tk => bd_is_simple T cdv R outer s H E hr tk) (rd_is_simple A)
/-! ### conditions about the columns of a shape: their form -/
inductive CondF (fs ss : List Str) (P : D → Prop) : Str → List D → Prop
  | any : CondF fs ss P "any" []
  | frm {s : Str} : s ∈ ss → CondF fs ss P "from" [.str s]
  | has {f : Str} : f ∈ fs → CondF fs ss P "has" [.str f]
  | is {f v : Str} : f ∈ fs → madeOf L36 8 (.str v) = true → CondF fs ss P "is" [.str f, .str v]
  | nt {c : D} : P c → CondF fs ss P "not" [c]
  | an {cs : List D} : 2 ≤ cs.length → cs.length ≤ 4 → (∀ c ∈ cs, P c) → CondF fs ss P "and" cs
  | orr {cs : List D} : 2 ≤ cs.length → cs.length ≤ 4 → (∀ c ∈ cs, P c) → CondF fs ss P "or" cs
def CondD (fs ss : List Str) : Nat → D → Prop
  | 0, _ => False
  | n + 1, d => ∃ w cs, d = .tup (.str w :: cs) ∧ CondF fs ss (CondD fs ss n) w cs
theorem CondF.mono {fs ss : List Str} {P R : D → Prop} (h : ∀ d, P d → R d) {w : Str} {cs : List D} : CondF fs ss P w cs → CondF fs ss R w cs
  | .any => .any
  | .frm a => .frm a
  | .has a => .has a
  | .is a b => .is a b
  | .nt a => .nt (h _ a)
  | .an a b c => .an a b fun x hx => h x (c x hx)
  | .orr a b c => .orr a b fun x hx => h x (c x hx)
theorem CondD.up {fs ss : List Str} : ∀ {n : Nat} {d : D}, CondD fs ss n d → CondD fs ss (n + 1) d
  | 0, _, h => h.elim
  | n + 1, d, ⟨w, cs, e, h⟩ => ⟨w, cs, e, h.mono fun _ h => CondD.up h⟩
theorem CondD.mono {fs ss : List Str} {n m : Nat} {d : D} (h : CondD fs ss n d) (k : n ≤ m) : CondD fs ss m d := by
  induction k with
  | refl => exact h
  | step _ ih => exact ih.up
/-- what a condition says of the source and the fields' values -/
def mt (s : Str) (lf : Str → D) : Nat → D → Bool
  | 0, _ => false
  | n + 1, .tup (.str w :: cs) =>
    if w = "not" then !(mt s lf n (cs.headD .non))
    else if w = "and" then cs.all (mt s lf n)
    else if w = "or" then cs.any (mt s lf n)
    else match cs with
      | [.str x] => if w = "from" then decide (s = x) else match lf x with
        | .non => false
        | _ => true
      | [.str x, .str v] => match lf x with
        | .str y => decide (y = v)
        | _ => false
      | _ => true
  | n + 1, _ => false
theorem w_any_from : (("any" : Str) = "from") = False := eq_false (by decide +kernel)
theorem w_any_has : (("any" : Str) = "has") = False := eq_false (by decide +kernel)
theorem w_any_is : (("any" : Str) = "is") = False := eq_false (by decide +kernel)
theorem w_any_not : (("any" : Str) = "not") = False := eq_false (by decide +kernel)
theorem w_any_and : (("any" : Str) = "and") = False := eq_false (by decide +kernel)
theorem w_any_or : (("any" : Str) = "or") = False := eq_false (by decide +kernel)
theorem w_from_any : (("from" : Str) = "any") = False := eq_false (by decide +kernel)
theorem w_from_has : (("from" : Str) = "has") = False := eq_false (by decide +kernel)
theorem w_from_is : (("from" : Str) = "is") = False := eq_false (by decide +kernel)
theorem w_from_not : (("from" : Str) = "not") = False := eq_false (by decide +kernel)
theorem w_from_and : (("from" : Str) = "and") = False := eq_false (by decide +kernel)
theorem w_from_or : (("from" : Str) = "or") = False := eq_false (by decide +kernel)
theorem w_has_any : (("has" : Str) = "any") = False := eq_false (by decide +kernel)
theorem w_has_from : (("has" : Str) = "from") = False := eq_false (by decide +kernel)
theorem w_has_is : (("has" : Str) = "is") = False := eq_false (by decide +kernel)
theorem w_has_not : (("has" : Str) = "not") = False := eq_false (by decide +kernel)
theorem w_has_and : (("has" : Str) = "and") = False := eq_false (by decide +kernel)
theorem w_has_or : (("has" : Str) = "or") = False := eq_false (by decide +kernel)
theorem w_is_any : (("is" : Str) = "any") = False := eq_false (by decide +kernel)
theorem w_is_from : (("is" : Str) = "from") = False := eq_false (by decide +kernel)
theorem w_is_has : (("is" : Str) = "has") = False := eq_false (by decide +kernel)
theorem w_is_not : (("is" : Str) = "not") = False := eq_false (by decide +kernel)
theorem w_is_and : (("is" : Str) = "and") = False := eq_false (by decide +kernel)
theorem w_is_or : (("is" : Str) = "or") = False := eq_false (by decide +kernel)
theorem w_not_any : (("not" : Str) = "any") = False := eq_false (by decide +kernel)
theorem w_not_from : (("not" : Str) = "from") = False := eq_false (by decide +kernel)
theorem w_not_has : (("not" : Str) = "has") = False := eq_false (by decide +kernel)
theorem w_not_is : (("not" : Str) = "is") = False := eq_false (by decide +kernel)
theorem w_not_and : (("not" : Str) = "and") = False := eq_false (by decide +kernel)
theorem w_not_or : (("not" : Str) = "or") = False := eq_false (by decide +kernel)
theorem w_and_any : (("and" : Str) = "any") = False := eq_false (by decide +kernel)
theorem w_and_from : (("and" : Str) = "from") = False := eq_false (by decide +kernel)
theorem w_and_has : (("and" : Str) = "has") = False := eq_false (by decide +kernel)
theorem w_and_is : (("and" : Str) = "is") = False := eq_false (by decide +kernel)
theorem w_and_not : (("and" : Str) = "not") = False := eq_false (by decide +kernel)
theorem w_and_or : (("and" : Str) = "or") = False := eq_false (by decide +kernel)
theorem w_or_any : (("or" : Str) = "any") = False := eq_false (by decide +kernel)
theorem w_or_from : (("or" : Str) = "from") = False := eq_false (by decide +kernel)
theorem w_or_has : (("or" : Str) = "has") = False := eq_false (by decide +kernel)
theorem w_or_is : (("or" : Str) = "is") = False := eq_false (by decide +kernel)
theorem w_or_not : (("or" : Str) = "not") = False := eq_false (by decide +kernel)
theorem w_or_and : (("or" : Str) = "and") = False := eq_false (by decide +kernel)
theorem mt_up {fs ss : List Str} {s : Str} {lf : Str → D} : ∀ {n : Nat} {d : D}, CondD fs ss n d → mt s lf (n + 1) d = mt s lf n d
  | 0, _, h => h.elim
  | n + 1, _, ⟨w, cs, e, h⟩ => by
    subst e
    cases h with
    | nt hc =>
      show (!(mt s lf (n + 1) _)) = (!(mt s lf n _))
      rw [List.headD_cons, mt_up hc]
    | an h1 h2 h3 =>
      show (if ("and" : Str) = "not" then _ else if ("and" : Str) = "and" then cs.all (mt s lf (n + 1)) else _) = (if ("and" : Str) = "not" then _ else if ("and" : Str) = "and" then cs.all (mt s lf n) else _)
      rw [if_neg (of_eq_false w_and_not), if_pos rfl, if_neg (of_eq_false w_and_not), if_pos rfl]
      rw [Bool.eq_iff_iff, List.all_eq_true, List.all_eq_true]
      exact ⟨fun q x hx => mt_up (h3 x hx) ▸ q x hx, fun q x hx => (mt_up (h3 x hx)).symm ▸ q x hx⟩
    | orr h1 h2 h3 =>
      show (if ("or" : Str) = "not" then _ else if ("or" : Str) = "and" then _ else if ("or" : Str) = "or" then cs.any (mt s lf (n + 1)) else _) = (if ("or" : Str) = "not" then _ else if ("or" : Str) = "and" then _ else if ("or" : Str) = "or" then cs.any (mt s lf n) else _)
      rw [if_neg (of_eq_false w_or_not), if_neg (of_eq_false w_or_and), if_pos rfl, if_neg (of_eq_false w_or_not), if_neg (of_eq_false w_or_and), if_pos rfl]
      rw [Bool.eq_iff_iff, List.any_eq_true, List.any_eq_true]
      exact ⟨fun ⟨x, hx, q⟩ => ⟨x, hx, mt_up (h3 x hx) ▸ q⟩, fun ⟨x, hx, q⟩ => ⟨x, hx, (mt_up (h3 x hx)).symm ▸ q⟩⟩
    | _ => rfl
theorem mt_mono {fs ss : List Str} {s : Str} {lf : Str → D} {n m : Nat} {d : D} (h : CondD fs ss n d) (k : n ≤ m) : mt s lf m d = mt s lf n d := by
  induction k with
  | refl => rfl
  | step k ih => rw [mt_up (h.mono k), ih]

end DL.K09
namespace DL.K09
open PySem PySem.Spec PyProof.Rows L2 RZ
theorem inW {w : Str} : inD (.str w) [.str "and", .str "or", .str "not"] = decide (w = "and" ∨ w = "or" ∨ w = "not") := by
  have e := inD_strs (x := w) [("and" : Str), ("or" : Str), ("not" : Str)]
  rw [show inD (.str w) [.str "and", .str "or", .str "not"] = inD (.str w) ([("and" : Str), ("or" : Str), ("not" : Str)].map D.str) from rfl, e]
  simp only [List.any_cons, List.any_nil, Bool.or_false, Bool.decide_or, eq_comm]
theorem mem_cols {fs : List Str} {f : Str} (h : f ∈ fs) : f ∈ cols fs := List.mem_cons_of_mem _ (List.mem_cons_of_mem _ h)
theorem src_cols {fs : List Str} : ("source" : Str) ∈ cols fs := List.mem_cons_of_mem _ List.mem_cons_self
def sp_need_condition (A : Ad) (n : Nat) : SpD := fun ds M Q _ => ∃ (fs ss held : List Str) (ps : List D) (d : D), ds = [shp A fs ss, d, .tup ps, .tup (held.map D.str)] ∧ CondD fs ss n d ∧ (∀ f ∈ fs, f ∈ held) ∧ ("source" : Str) ∈ held ∧ (∀ x ∈ fs, x.length < 90000) ∧ (∀ x ∈ ss, x.length < 90000) ∧ ps.length + n ≤ 1000 ∧ Q .non M
def wb_need_condition (A : Ad) (n : Nat) : WS :=
  (wSeq (wPar 4 5 (wCons (wCall (sp_head A) (wCons (wVar 1) (wCons (wVar 2) wNil))) (wCons (wCB rLenD (wCons (wVar 1) wNil)) wNil)))
  (wIf (wTest (wOp (rInD false) (wVar 4) (wTup (wCons (wC (.str "and")) (wCons (wC (.str "or")) (wCons (wC (.str "not")) wNil))))))
  (wSeq (wIf (wNotT (wIfT (wTest (wOp (rEqD false) (wVar 4) (wC (.str "not")))) (wTest (wOp (rEqD false) (wVar 5) (wC (.int 2)))) (wTest (wChain (rInt0D fun i j => .bl (decide (i ≤ j))) (rInt0D fun i j => .bl (decide (i ≤ j))) (wC (.int 3)) (wVar 5) (wC (.int 5))))))
  wNever
  wNx)
  (wFor (wiRng2 (wCons (wC (.int 1)) (wCons (wVar 5) wNil))) (gN 6)
  (wDrop (wCall (sp_need_condition A n) (wCons (wVar 0) (wCons (wOp rIxD (wVar 1) (wVar 6)) (wCons (wOp rAddD (wVar 2) (wTup (wCons (wVar 6) wNil))) (wCons (wVar 3) wNil))))))))
  (wIf (wNotT (wTest (wCall (sp_is_simple A) (wCons (wVar 0) (wCons (wVar 1) (wCons (wVar 3) wNil))))))
  wNever
  wNx)))
theorem bd_need_condition {P : Program} {w : World} {K : PySem.W.Frag} {mg : Str → Option Value} {base : Heap} {A : Ad} (T : Txt K mg A) (n : Nat) (ih : FnJ P w K mg base (5 + n) A.f_need_condition (sp_need_condition A n)) (cdv : Value) (R : Around) (outer : List Env) (s : Shared) (H : Hp) (E : XK) (hr : Room (5 + n) (R.deeper (envOfC "need_condition" (defScope s_need_condition) s.heap.objs.size A.f_need_condition cdv)))
    (tk : Takes (cxOf (L2.CX P w) P w K mg base N_need_condition "need_condition" (defScope s_need_condition) A.f_need_condition cdv R outer s H E) (WD E)) : JSs (cxOf (L2.CX P w) P w K mg base N_need_condition "need_condition" (defScope s_need_condition) A.f_need_condition cdv R outer s H E) (WD E) (defBody s_need_condition) (wb_need_condition A n) :=
  (js_cons (js_par (i := 4) (j := 5) rfl sc_need_condition.nd (j_cons (j_call (ok_head T) hr (Nat.le_trans (by decide : 1 ≤ 5) (Nat.le_add_right 5 n)) T.g_head tk (j_cons (jv 1) (j_cons (jv 2) j_nil))) (j_cons (j_callB cd_len T.n_len bo_len (j_cons (jv 1) j_nil)) j_nil)))
  (js_one (js_if (jt_cmp od_in (jv 4) (j_tup (j_cons j_str (j_cons j_str (j_cons j_str j_nil)))))
  (js_cons (js_if (jt_not (jt_if (jt_cmp (od_eq hr.units) (jv 4) j_str) (jt_cmp (od_eq hr.units) (jv 5) j_int) (jt_chain od_le od_le j_int (jv 5) j_int)))
  jss_never
  js_nil)
  (js_one (js_for (passes_of rfl) rfl (ji_rng2 T.n_range (j_cons j_int (j_cons (jv 5) j_nil))) (jg_name (i := 6) sc_need_condition.nd)
  (js_one (js_expr (j_call ih hr (Nat.le_refl _) T.g_need_condition tk (j_cons (jv 0) (j_cons (j_ix id_ix (jv 1) (jv 6)) (j_cons (j_op od_add (jv 2) (j_tup (j_cons (jv 6) j_nil))) (j_cons (jv 3) j_nil))))))))))
  (js_one (js_if (jt_not (jt_val (j_call (ok_is_simple T) hr (Nat.le_trans (by decide : 4 ≤ 5) (Nat.le_add_right 5 n)) T.g_is_simple tk (j_cons (jv 0) (j_cons (jv 1) (j_cons (jv 3) j_nil))))))
  jss_never
  js_nil)))))
theorem need_many (A : Ad) (n : Nat) {fs ss held : List Str} {ps cs : List D} {w : Str} {M : Mem} {E : ED} {x4 x6 : Option D} (hc : ∀ c ∈ cs, CondD fs ss n c) (hh : ∀ f ∈ fs, f ∈ held) (hsrc : ("source" : Str) ∈ held) (lf : ∀ x ∈ fs, x.length < 90000) (ls : ∀ x ∈ ss, x.length < 90000) (hp : ps.length + (n + 1) ≤ 1000) (hl : cs.length ≤ 4)
    (q : ∀ x, E.nx [some (shp A fs ss), some (.tup (.str w :: cs)), some (.tup ps), some (.tup (held.map D.str)), x4, some (.int (cs.length + 1 : Nat)), x] M) :
    forR (gN 6) (wDrop (wCall (sp_need_condition A n) (wCons (wVar 0) (wCons (wOp rIxD (wVar 1) (wVar 6)) (wCons (wOp rAddD (wVar 2) (wTup (wCons (wVar 6) wNil))) (wCons (wVar 3) wNil)))))) E (rngD 1 cs.length)
      [some (shp A fs ss), some (.tup (.str w :: cs)), some (.tup ps), some (.tup (held.map D.str)), x4, some (.int (cs.length + 1 : Nat)), x6] M := by
  have big := sizeLine_big
  refine forR_rng (fun k ds N => N = M ∧ ∃ x, ds = [some (shp A fs ss), some (.tup (.str w :: cs)), some (.tup ps), some (.tup (held.map D.str)), x4, some (.int (cs.length + 1 : Nat)), x]) ?_ ?_ ⟨rfl, _, rfl⟩
  · rintro ds N ⟨rfl, x, rfl⟩
    exact q x
  · rintro k hk ds N R hR ⟨rfl, x, rfl⟩
    have e : ((1 : Int) + (k : Nat)) = ((k + 1 : Nat) : Int) := by omega
    rw [e]
    simp only [↓pVar, ↓pGet, ↓pC, ↓pOp, ↓pUn, ↓pCB, ↓pNil, ↓pCons, ↓pTest, ↓pBl, ↓pAndT, ↓pOrT, ↓pNotT, ↓pAndV, ↓pOrV, ↓pNotV, ↓pIfE, ↓pTup, ↓pLst, ↓pLstO, ↓pCall, ↓pMeth, ↓pFld, ↓pProp, ↓pMake, ↓pCv, ↓pSl, ↓pNo, ↓pSome, ↓pIntK, ↓pN, ↓pT, ↓pGC, ↓pGN, ↓pIf, ↓pRet, ↓pRetN, ↓pDrop, ↓pAsg, ↓pNx, ↓pBrk, ↓pCnt, ↓pNever, ↓pSub, ↓pAug, ↓pPar, ↓pParK, ↓pBM, ↓pFor, ↓pLc, ↓pLcO, ↓pYes, ↓piSeq, ↓piStr, ↓pStrK, ↓piRng1, ↓pRng1K, ↓piRng2, ↓pRng2K, ↓piEnum, ↓pEnumK, ↓piZip, ↓pZipL, ↓pZipT, ↓pFz, ↓pLenSet, ↓pIsT, ↓rIx_lst, ↓rIx_tup, ↓rIx_ref, ↓rIx_str, ↓rLen_str, ↓rLen_lst, ↓rLen_tup, ↓rLen_ref, ↓rIs_p, ↓rInt_int, ↓rInt_bl, ↓rStr_int, ↓rList_p, ↓rListO_p, ↓rTup_p, ↓rAdd_int, ↓rAdd_str, ↓rAdd_tup, ↓rAdd_lst, ↓rIntD_p, ↓rInt0_p, ↓rEq_int, ↓rEq_str, ↓rEq_bl, ↓rEq_lst, ↓rEq_tup, ↓rIsN_non, ↓rIsN_bl, ↓rIsN_int, ↓rIsN_str, ↓rIsN_tup, ↓rIsN_lst, ↓rNeg_p, ↓rSl_str, ↓rSl_tup, ↓rSl_lst, ↓rSl_scr, ↓rRep_p, ↓pOptK, ↓pChain, ↓pIfT, ↓pCallK, ↓pDzip, ↓pDzipK, ↓pDzipO, ↓pDzipKO, ↓rIsB_bl, ↓rDix_str, ↓rDix_int, ↓rIn_tup, ↓rIn_lst, ↓rEq_ns, ↓rEq_sn, ↓rRepT_p, ↓rAll_f, ↓rAll_t, ↓wSeq_p, ↓seqE_nx, ↓reduceIte, at_0, at_1, at_2, at_3, cut_1, cut_2, dl_0_0, dl_0_1, dl_0_2, dl_0_3, dl_0_4, dl_0_5, dl_1_0, dl_1_1, dl_1_2, dl_1_3, dl_1_4, dl_1_5, dl_2_0, dl_2_1, dl_2_2, dl_2_3, dl_2_4, dl_2_5, dl_3_0, dl_3_1, dl_3_2, dl_3_3, dl_3_4, dl_3_5, dl_4_0, dl_4_1, dl_4_2, dl_4_3, dl_4_4, dl_4_5, dn_1_0, dn_2_0, dn_2_1, dn_3_0, dn_3_1, dn_3_2, dn_4_0, dn_4_1, dn_4_2, dn_4_3, seqE_rt, seqE_bk, seqE_ct, seqE_ex, wipeD, frz_lst, frz_tup, at1_0, at2_0, at2_1, at3_0, at3_1, at3_2, at4_0, at4_1, at4_2, at4_3, at5_0, at5_1, at5_2, at5_3, at5_4, seqOf_put, seqOf_lst, seqOf_tup, insK_same, tyN_non, tyN_bl, tyN_int, tyN_str, tyN_tup, tyN_lst, tyN_dct, List.getElem?_cons_zero, List.getElem?_cons_succ, List.set_cons_zero, List.set_cons_succ, List.length_cons, List.length_nil, isB_NoneType_bool, isB_NoneType_int, isB_NoneType_str, isB_NoneType_tuple, isB_NoneType_list, isB_NoneType_dict, isB_bool_bool, isB_bool_int, isB_bool_str, isB_bool_tuple, isB_bool_list, isB_bool_dict, isB_int_bool, isB_int_int, isB_int_str, isB_int_tuple, isB_int_list, isB_int_dict, isB_str_bool, isB_str_int, isB_str_str, isB_str_tuple, isB_str_list, isB_str_dict, isB_tuple_bool, isB_tuple_int, isB_tuple_str, isB_tuple_tuple, isB_tuple_list, isB_tuple_dict, isB_list_bool, isB_list_int, isB_list_str, isB_list_tuple, isB_list_list, isB_list_dict, isB_dict_bool, isB_dict_int, isB_dict_str, isB_dict_tuple, isB_dict_list, isB_dict_dict, isC_bool, isC_int, isC_str, isC_tuple, isC_list, isC_dict, isA_list_tuple, isQ_NoneType, isQ_bool, isQ_int, isQ_str, isQ_tuple, isQ_list, isQ_dict, true_and, and_true, Bool.not_true, Bool.not_false, Bool.false_eq_true, Bool.true_xor, Bool.false_xor, atI_nat, List.getElem?_eq_getElem hk]
    refine ⟨by omega, by omega, fs, ss, held, _, _, rfl, hc _ (List.getElem_mem hk), hh, hsrc, lf, ls, by rw [List.length_append, List.length_singleton]; omega, ?_⟩
    exact hR _ _ ⟨rfl, _, rfl⟩
theorem rd_need_condition (A : Ad) (n : Nat) : ∀ ds M Q Xc, sp_need_condition A (n + 1) ds M Q Xc → ds.length = P_need_condition.length ∧ RD (wb_need_condition A n) Q Xc (startD N_need_condition ds) M := by
  rintro _ M Q Xc ⟨fs, ss, held, ps, _, rfl, ⟨w, cs, rfl, hc⟩, hh, hsrc, lf, ls, hp, q⟩
  refine ⟨rfl, ?_⟩
  rw [st_need_condition]
  have big := sizeLine_big
  simp only [RD, wb_need_condition, ↓pVar, ↓pGet, ↓pC, ↓pOp, ↓pUn, ↓pCB, ↓pNil, ↓pCons, ↓pTest, ↓pBl, ↓pAndT, ↓pOrT, ↓pNotT, ↓pAndV, ↓pOrV, ↓pNotV, ↓pIfE, ↓pTup, ↓pLst, ↓pLstO, ↓pCall, ↓pMeth, ↓pFld, ↓pProp, ↓pMake, ↓pCv, ↓pSl, ↓pNo, ↓pSome, ↓pIntK, ↓pN, ↓pT, ↓pGC, ↓pGN, ↓pIf, ↓pRet, ↓pRetN, ↓pDrop, ↓pAsg, ↓pNx, ↓pBrk, ↓pCnt, ↓pNever, ↓pSub, ↓pAug, ↓pPar, ↓pParK, ↓pBM, ↓pFor, ↓pLc, ↓pLcO, ↓pYes, ↓piSeq, ↓piStr, ↓pStrK, ↓piRng1, ↓pRng1K, ↓piRng2, ↓pRng2K, ↓piEnum, ↓pEnumK, ↓piZip, ↓pZipL, ↓pZipT, ↓pFz, ↓pLenSet, ↓pIsT, ↓rIx_lst, ↓rIx_tup, ↓rIx_ref, ↓rIx_str, ↓rLen_str, ↓rLen_lst, ↓rLen_tup, ↓rLen_ref, ↓rIs_p, ↓rInt_int, ↓rInt_bl, ↓rStr_int, ↓rList_p, ↓rListO_p, ↓rTup_p, ↓rAdd_int, ↓rAdd_str, ↓rAdd_tup, ↓rAdd_lst, ↓rIntD_p, ↓rInt0_p, ↓rEq_int, ↓rEq_str, ↓rEq_bl, ↓rEq_lst, ↓rEq_tup, ↓rIsN_non, ↓rIsN_bl, ↓rIsN_int, ↓rIsN_str, ↓rIsN_tup, ↓rIsN_lst, ↓rNeg_p, ↓rSl_str, ↓rSl_tup, ↓rSl_lst, ↓rSl_scr, ↓rRep_p, ↓pOptK, ↓pChain, ↓pIfT, ↓pCallK, ↓pDzip, ↓pDzipK, ↓pDzipO, ↓pDzipKO, ↓rIsB_bl, ↓rDix_str, ↓rDix_int, ↓rIn_tup, ↓rIn_lst, ↓rEq_ns, ↓rEq_sn, ↓rRepT_p, ↓rAll_f, ↓rAll_t, ↓wSeq_p, ↓seqE_nx, ↓reduceIte, at_0, at_1, at_2, at_3, cut_1, cut_2, dl_0_0, dl_0_1, dl_0_2, dl_0_3, dl_0_4, dl_0_5, dl_1_0, dl_1_1, dl_1_2, dl_1_3, dl_1_4, dl_1_5, dl_2_0, dl_2_1, dl_2_2, dl_2_3, dl_2_4, dl_2_5, dl_3_0, dl_3_1, dl_3_2, dl_3_3, dl_3_4, dl_3_5, dl_4_0, dl_4_1, dl_4_2, dl_4_3, dl_4_4, dl_4_5, dn_1_0, dn_2_0, dn_2_1, dn_3_0, dn_3_1, dn_3_2, dn_4_0, dn_4_1, dn_4_2, dn_4_3, seqE_rt, seqE_bk, seqE_ct, seqE_ex, wipeD, frz_lst, frz_tup, at1_0, at2_0, at2_1, at3_0, at3_1, at3_2, at4_0, at4_1, at4_2, at4_3, at5_0, at5_1, at5_2, at5_3, at5_4, seqOf_put, seqOf_lst, seqOf_tup, insK_same, tyN_non, tyN_bl, tyN_int, tyN_str, tyN_tup, tyN_lst, tyN_dct, List.getElem?_cons_zero, List.getElem?_cons_succ, List.set_cons_zero, List.set_cons_succ, List.length_cons, List.length_nil, isB_NoneType_bool, isB_NoneType_int, isB_NoneType_str, isB_NoneType_tuple, isB_NoneType_list, isB_NoneType_dict, isB_bool_bool, isB_bool_int, isB_bool_str, isB_bool_tuple, isB_bool_list, isB_bool_dict, isB_int_bool, isB_int_int, isB_int_str, isB_int_tuple, isB_int_list, isB_int_dict, isB_str_bool, isB_str_int, isB_str_str, isB_str_tuple, isB_str_list, isB_str_dict, isB_tuple_bool, isB_tuple_int, isB_tuple_str, isB_tuple_tuple, isB_tuple_list, isB_tuple_dict, isB_list_bool, isB_list_int, isB_list_str, isB_list_tuple, isB_list_list, isB_list_dict, isB_dict_bool, isB_dict_int, isB_dict_str, isB_dict_tuple, isB_dict_list, isB_dict_dict, isC_bool, isC_int, isC_str, isC_tuple, isC_list, isC_dict, isA_list_tuple, isQ_NoneType, isQ_bool, isQ_int, isQ_str, isQ_tuple, isQ_list, isQ_dict, true_and, and_true, Bool.not_true, Bool.not_false, Bool.false_eq_true, Bool.true_xor, Bool.false_xor, inW]
  refine ⟨w, cs, _, rfl, ?_⟩
  simp only [↓pVar, ↓pGet, ↓pC, ↓pOp, ↓pUn, ↓pCB, ↓pNil, ↓pCons, ↓pTest, ↓pBl, ↓pAndT, ↓pOrT, ↓pNotT, ↓pAndV, ↓pOrV, ↓pNotV, ↓pIfE, ↓pTup, ↓pLst, ↓pLstO, ↓pCall, ↓pMeth, ↓pFld, ↓pProp, ↓pMake, ↓pCv, ↓pSl, ↓pNo, ↓pSome, ↓pIntK, ↓pN, ↓pT, ↓pGC, ↓pGN, ↓pIf, ↓pRet, ↓pRetN, ↓pDrop, ↓pAsg, ↓pNx, ↓pBrk, ↓pCnt, ↓pNever, ↓pSub, ↓pAug, ↓pPar, ↓pParK, ↓pBM, ↓pFor, ↓pLc, ↓pLcO, ↓pYes, ↓piSeq, ↓piStr, ↓pStrK, ↓piRng1, ↓pRng1K, ↓piRng2, ↓pRng2K, ↓piEnum, ↓pEnumK, ↓piZip, ↓pZipL, ↓pZipT, ↓pFz, ↓pLenSet, ↓pIsT, ↓rIx_lst, ↓rIx_tup, ↓rIx_ref, ↓rIx_str, ↓rLen_str, ↓rLen_lst, ↓rLen_tup, ↓rLen_ref, ↓rIs_p, ↓rInt_int, ↓rInt_bl, ↓rStr_int, ↓rList_p, ↓rListO_p, ↓rTup_p, ↓rAdd_int, ↓rAdd_str, ↓rAdd_tup, ↓rAdd_lst, ↓rIntD_p, ↓rInt0_p, ↓rEq_int, ↓rEq_str, ↓rEq_bl, ↓rEq_lst, ↓rEq_tup, ↓rIsN_non, ↓rIsN_bl, ↓rIsN_int, ↓rIsN_str, ↓rIsN_tup, ↓rIsN_lst, ↓rNeg_p, ↓rSl_str, ↓rSl_tup, ↓rSl_lst, ↓rSl_scr, ↓rRep_p, ↓pOptK, ↓pChain, ↓pIfT, ↓pCallK, ↓pDzip, ↓pDzipK, ↓pDzipO, ↓pDzipKO, ↓rIsB_bl, ↓rDix_str, ↓rDix_int, ↓rIn_tup, ↓rIn_lst, ↓rEq_ns, ↓rEq_sn, ↓rRepT_p, ↓rAll_f, ↓rAll_t, ↓wSeq_p, ↓seqE_nx, ↓reduceIte, at_0, at_1, at_2, at_3, cut_1, cut_2, dl_0_0, dl_0_1, dl_0_2, dl_0_3, dl_0_4, dl_0_5, dl_1_0, dl_1_1, dl_1_2, dl_1_3, dl_1_4, dl_1_5, dl_2_0, dl_2_1, dl_2_2, dl_2_3, dl_2_4, dl_2_5, dl_3_0, dl_3_1, dl_3_2, dl_3_3, dl_3_4, dl_3_5, dl_4_0, dl_4_1, dl_4_2, dl_4_3, dl_4_4, dl_4_5, dn_1_0, dn_2_0, dn_2_1, dn_3_0, dn_3_1, dn_3_2, dn_4_0, dn_4_1, dn_4_2, dn_4_3, seqE_rt, seqE_bk, seqE_ct, seqE_ex, wipeD, frz_lst, frz_tup, at1_0, at2_0, at2_1, at3_0, at3_1, at3_2, at4_0, at4_1, at4_2, at4_3, at5_0, at5_1, at5_2, at5_3, at5_4, seqOf_put, seqOf_lst, seqOf_tup, insK_same, tyN_non, tyN_bl, tyN_int, tyN_str, tyN_tup, tyN_lst, tyN_dct, List.getElem?_cons_zero, List.getElem?_cons_succ, List.set_cons_zero, List.set_cons_succ, List.length_cons, List.length_nil, isB_NoneType_bool, isB_NoneType_int, isB_NoneType_str, isB_NoneType_tuple, isB_NoneType_list, isB_NoneType_dict, isB_bool_bool, isB_bool_int, isB_bool_str, isB_bool_tuple, isB_bool_list, isB_bool_dict, isB_int_bool, isB_int_int, isB_int_str, isB_int_tuple, isB_int_list, isB_int_dict, isB_str_bool, isB_str_int, isB_str_str, isB_str_tuple, isB_str_list, isB_str_dict, isB_tuple_bool, isB_tuple_int, isB_tuple_str, isB_tuple_tuple, isB_tuple_list, isB_tuple_dict, isB_list_bool, isB_list_int, isB_list_str, isB_list_tuple, isB_list_list, isB_list_dict, isB_dict_bool, isB_dict_int, isB_dict_str, isB_dict_tuple, isB_dict_list, isB_dict_dict, isC_bool, isC_int, isC_str, isC_tuple, isC_list, isC_dict, isA_list_tuple, isQ_NoneType, isQ_bool, isQ_int, isQ_str, isQ_tuple, isQ_list, isQ_dict, true_and, and_true, Bool.not_true, Bool.not_false, Bool.false_eq_true, Bool.true_xor, Bool.false_xor, inW]
  refine ⟨by omega, rfl, rfl, ?_⟩
  cases hc
  all_goals simp only [w_any_from, w_any_has, w_any_is, w_any_not, w_any_and, w_any_or, w_from_any, w_from_has, w_from_is, w_from_not, w_from_and, w_from_or, w_has_any, w_has_from, w_has_is, w_has_not, w_has_and, w_has_or, w_is_any, w_is_from, w_is_has, w_is_not, w_is_and, w_is_or, w_not_any, w_not_from, w_not_has, w_not_is, w_not_and, w_not_or, w_and_any, w_and_from, w_and_has, w_and_is, w_and_not, w_and_or, w_or_any, w_or_from, w_or_has, w_or_is, w_or_not, w_or_and, or_self, or_true, true_or, or_false, false_or, decide_true, decide_false, ↓pVar, ↓pGet, ↓pC, ↓pOp, ↓pUn, ↓pCB, ↓pNil, ↓pCons, ↓pTest, ↓pBl, ↓pAndT, ↓pOrT, ↓pNotT, ↓pAndV, ↓pOrV, ↓pNotV, ↓pIfE, ↓pTup, ↓pLst, ↓pLstO, ↓pCall, ↓pMeth, ↓pFld, ↓pProp, ↓pMake, ↓pCv, ↓pSl, ↓pNo, ↓pSome, ↓pIntK, ↓pN, ↓pT, ↓pGC, ↓pGN, ↓pIf, ↓pRet, ↓pRetN, ↓pDrop, ↓pAsg, ↓pNx, ↓pBrk, ↓pCnt, ↓pNever, ↓pSub, ↓pAug, ↓pPar, ↓pParK, ↓pBM, ↓pFor, ↓pLc, ↓pLcO, ↓pYes, ↓piSeq, ↓piStr, ↓pStrK, ↓piRng1, ↓pRng1K, ↓piRng2, ↓pRng2K, ↓piEnum, ↓pEnumK, ↓piZip, ↓pZipL, ↓pZipT, ↓pFz, ↓pLenSet, ↓pIsT, ↓rIx_lst, ↓rIx_tup, ↓rIx_ref, ↓rIx_str, ↓rLen_str, ↓rLen_lst, ↓rLen_tup, ↓rLen_ref, ↓rIs_p, ↓rInt_int, ↓rInt_bl, ↓rStr_int, ↓rList_p, ↓rListO_p, ↓rTup_p, ↓rAdd_int, ↓rAdd_str, ↓rAdd_tup, ↓rAdd_lst, ↓rIntD_p, ↓rInt0_p, ↓rEq_int, ↓rEq_str, ↓rEq_bl, ↓rEq_lst, ↓rEq_tup, ↓rIsN_non, ↓rIsN_bl, ↓rIsN_int, ↓rIsN_str, ↓rIsN_tup, ↓rIsN_lst, ↓rNeg_p, ↓rSl_str, ↓rSl_tup, ↓rSl_lst, ↓rSl_scr, ↓rRep_p, ↓pOptK, ↓pChain, ↓pIfT, ↓pCallK, ↓pDzip, ↓pDzipK, ↓pDzipO, ↓pDzipKO, ↓rIsB_bl, ↓rDix_str, ↓rDix_int, ↓rIn_tup, ↓rIn_lst, ↓rEq_ns, ↓rEq_sn, ↓rRepT_p, ↓rAll_f, ↓rAll_t, ↓wSeq_p, ↓seqE_nx, ↓reduceIte, at_0, at_1, at_2, at_3, cut_1, cut_2, dl_0_0, dl_0_1, dl_0_2, dl_0_3, dl_0_4, dl_0_5, dl_1_0, dl_1_1, dl_1_2, dl_1_3, dl_1_4, dl_1_5, dl_2_0, dl_2_1, dl_2_2, dl_2_3, dl_2_4, dl_2_5, dl_3_0, dl_3_1, dl_3_2, dl_3_3, dl_3_4, dl_3_5, dl_4_0, dl_4_1, dl_4_2, dl_4_3, dl_4_4, dl_4_5, dn_1_0, dn_2_0, dn_2_1, dn_3_0, dn_3_1, dn_3_2, dn_4_0, dn_4_1, dn_4_2, dn_4_3, seqE_rt, seqE_bk, seqE_ct, seqE_ex, wipeD, frz_lst, frz_tup, at1_0, at2_0, at2_1, at3_0, at3_1, at3_2, at4_0, at4_1, at4_2, at4_3, at5_0, at5_1, at5_2, at5_3, at5_4, seqOf_put, seqOf_lst, seqOf_tup, insK_same, tyN_non, tyN_bl, tyN_int, tyN_str, tyN_tup, tyN_lst, tyN_dct, List.getElem?_cons_zero, List.getElem?_cons_succ, List.set_cons_zero, List.set_cons_succ, List.length_cons, List.length_nil, isB_NoneType_bool, isB_NoneType_int, isB_NoneType_str, isB_NoneType_tuple, isB_NoneType_list, isB_NoneType_dict, isB_bool_bool, isB_bool_int, isB_bool_str, isB_bool_tuple, isB_bool_list, isB_bool_dict, isB_int_bool, isB_int_int, isB_int_str, isB_int_tuple, isB_int_list, isB_int_dict, isB_str_bool, isB_str_int, isB_str_str, isB_str_tuple, isB_str_list, isB_str_dict, isB_tuple_bool, isB_tuple_int, isB_tuple_str, isB_tuple_tuple, isB_tuple_list, isB_tuple_dict, isB_list_bool, isB_list_int, isB_list_str, isB_list_tuple, isB_list_list, isB_list_dict, isB_dict_bool, isB_dict_int, isB_dict_str, isB_dict_tuple, isB_dict_list, isB_dict_dict, isC_bool, isC_int, isC_str, isC_tuple, isC_list, isC_dict, isA_list_tuple, isQ_NoneType, isQ_bool, isQ_int, isQ_str, isQ_tuple, isQ_list, isQ_dict, true_and, and_true, Bool.not_true, Bool.not_false, Bool.false_eq_true, Bool.true_xor, Bool.false_xor]
  case any =>
    refine ⟨fs, ss, held, _, _, rfl, nofun, nofun, ?_⟩
    have e : isSimple fs ss held "any" [] = true := by unfold isSimple; rw [if_pos rfl]; rfl
    rw [e]
    simp only [↓pVar, ↓pGet, ↓pC, ↓pOp, ↓pUn, ↓pCB, ↓pNil, ↓pCons, ↓pTest, ↓pBl, ↓pAndT, ↓pOrT, ↓pNotT, ↓pAndV, ↓pOrV, ↓pNotV, ↓pIfE, ↓pTup, ↓pLst, ↓pLstO, ↓pCall, ↓pMeth, ↓pFld, ↓pProp, ↓pMake, ↓pCv, ↓pSl, ↓pNo, ↓pSome, ↓pIntK, ↓pN, ↓pT, ↓pGC, ↓pGN, ↓pIf, ↓pRet, ↓pRetN, ↓pDrop, ↓pAsg, ↓pNx, ↓pBrk, ↓pCnt, ↓pNever, ↓pSub, ↓pAug, ↓pPar, ↓pParK, ↓pBM, ↓pFor, ↓pLc, ↓pLcO, ↓pYes, ↓piSeq, ↓piStr, ↓pStrK, ↓piRng1, ↓pRng1K, ↓piRng2, ↓pRng2K, ↓piEnum, ↓pEnumK, ↓piZip, ↓pZipL, ↓pZipT, ↓pFz, ↓pLenSet, ↓pIsT, ↓rIx_lst, ↓rIx_tup, ↓rIx_ref, ↓rIx_str, ↓rLen_str, ↓rLen_lst, ↓rLen_tup, ↓rLen_ref, ↓rIs_p, ↓rInt_int, ↓rInt_bl, ↓rStr_int, ↓rList_p, ↓rListO_p, ↓rTup_p, ↓rAdd_int, ↓rAdd_str, ↓rAdd_tup, ↓rAdd_lst, ↓rIntD_p, ↓rInt0_p, ↓rEq_int, ↓rEq_str, ↓rEq_bl, ↓rEq_lst, ↓rEq_tup, ↓rIsN_non, ↓rIsN_bl, ↓rIsN_int, ↓rIsN_str, ↓rIsN_tup, ↓rIsN_lst, ↓rNeg_p, ↓rSl_str, ↓rSl_tup, ↓rSl_lst, ↓rSl_scr, ↓rRep_p, ↓pOptK, ↓pChain, ↓pIfT, ↓pCallK, ↓pDzip, ↓pDzipK, ↓pDzipO, ↓pDzipKO, ↓rIsB_bl, ↓rDix_str, ↓rDix_int, ↓rIn_tup, ↓rIn_lst, ↓rEq_ns, ↓rEq_sn, ↓rRepT_p, ↓rAll_f, ↓rAll_t, ↓wSeq_p, ↓seqE_nx, ↓reduceIte, at_0, at_1, at_2, at_3, cut_1, cut_2, dl_0_0, dl_0_1, dl_0_2, dl_0_3, dl_0_4, dl_0_5, dl_1_0, dl_1_1, dl_1_2, dl_1_3, dl_1_4, dl_1_5, dl_2_0, dl_2_1, dl_2_2, dl_2_3, dl_2_4, dl_2_5, dl_3_0, dl_3_1, dl_3_2, dl_3_3, dl_3_4, dl_3_5, dl_4_0, dl_4_1, dl_4_2, dl_4_3, dl_4_4, dl_4_5, dn_1_0, dn_2_0, dn_2_1, dn_3_0, dn_3_1, dn_3_2, dn_4_0, dn_4_1, dn_4_2, dn_4_3, seqE_rt, seqE_bk, seqE_ct, seqE_ex, wipeD, frz_lst, frz_tup, at1_0, at2_0, at2_1, at3_0, at3_1, at3_2, at4_0, at4_1, at4_2, at4_3, at5_0, at5_1, at5_2, at5_3, at5_4, seqOf_put, seqOf_lst, seqOf_tup, insK_same, tyN_non, tyN_bl, tyN_int, tyN_str, tyN_tup, tyN_lst, tyN_dct, List.getElem?_cons_zero, List.getElem?_cons_succ, List.set_cons_zero, List.set_cons_succ, List.length_cons, List.length_nil, isB_NoneType_bool, isB_NoneType_int, isB_NoneType_str, isB_NoneType_tuple, isB_NoneType_list, isB_NoneType_dict, isB_bool_bool, isB_bool_int, isB_bool_str, isB_bool_tuple, isB_bool_list, isB_bool_dict, isB_int_bool, isB_int_int, isB_int_str, isB_int_tuple, isB_int_list, isB_int_dict, isB_str_bool, isB_str_int, isB_str_str, isB_str_tuple, isB_str_list, isB_str_dict, isB_tuple_bool, isB_tuple_int, isB_tuple_str, isB_tuple_tuple, isB_tuple_list, isB_tuple_dict, isB_list_bool, isB_list_int, isB_list_str, isB_list_tuple, isB_list_list, isB_list_dict, isB_dict_bool, isB_dict_int, isB_dict_str, isB_dict_tuple, isB_dict_list, isB_dict_dict, isC_bool, isC_int, isC_str, isC_tuple, isC_list, isC_dict, isA_list_tuple, isQ_NoneType, isQ_bool, isQ_int, isQ_str, isQ_tuple, isQ_list, isQ_dict, true_and, and_true, Bool.not_true, Bool.not_false, Bool.false_eq_true, Bool.true_xor, Bool.false_xor]
    exact fin_of q
  case frm x h =>
    refine ⟨fs, ss, held, _, _, rfl, fun c hc => ?_, fun c hc => ?_, ?_⟩
    · rw [List.mem_singleton.mp hc]; rfl
    · rw [List.mem_singleton.mp hc]; exact ls _ h
    have e : isSimple fs ss held "from" [.str x] = true := by
      unfold isSimple
      rw [if_neg (of_eq_false w_from_any), if_pos rfl]
      show (strIn ss (.str x) && decide (("source" : Str) ∈ held)) = true
      rw [strIn_str, decide_eq_true h, decide_eq_true hsrc]
      rfl
    rw [e]
    simp only [↓pVar, ↓pGet, ↓pC, ↓pOp, ↓pUn, ↓pCB, ↓pNil, ↓pCons, ↓pTest, ↓pBl, ↓pAndT, ↓pOrT, ↓pNotT, ↓pAndV, ↓pOrV, ↓pNotV, ↓pIfE, ↓pTup, ↓pLst, ↓pLstO, ↓pCall, ↓pMeth, ↓pFld, ↓pProp, ↓pMake, ↓pCv, ↓pSl, ↓pNo, ↓pSome, ↓pIntK, ↓pN, ↓pT, ↓pGC, ↓pGN, ↓pIf, ↓pRet, ↓pRetN, ↓pDrop, ↓pAsg, ↓pNx, ↓pBrk, ↓pCnt, ↓pNever, ↓pSub, ↓pAug, ↓pPar, ↓pParK, ↓pBM, ↓pFor, ↓pLc, ↓pLcO, ↓pYes, ↓piSeq, ↓piStr, ↓pStrK, ↓piRng1, ↓pRng1K, ↓piRng2, ↓pRng2K, ↓piEnum, ↓pEnumK, ↓piZip, ↓pZipL, ↓pZipT, ↓pFz, ↓pLenSet, ↓pIsT, ↓rIx_lst, ↓rIx_tup, ↓rIx_ref, ↓rIx_str, ↓rLen_str, ↓rLen_lst, ↓rLen_tup, ↓rLen_ref, ↓rIs_p, ↓rInt_int, ↓rInt_bl, ↓rStr_int, ↓rList_p, ↓rListO_p, ↓rTup_p, ↓rAdd_int, ↓rAdd_str, ↓rAdd_tup, ↓rAdd_lst, ↓rIntD_p, ↓rInt0_p, ↓rEq_int, ↓rEq_str, ↓rEq_bl, ↓rEq_lst, ↓rEq_tup, ↓rIsN_non, ↓rIsN_bl, ↓rIsN_int, ↓rIsN_str, ↓rIsN_tup, ↓rIsN_lst, ↓rNeg_p, ↓rSl_str, ↓rSl_tup, ↓rSl_lst, ↓rSl_scr, ↓rRep_p, ↓pOptK, ↓pChain, ↓pIfT, ↓pCallK, ↓pDzip, ↓pDzipK, ↓pDzipO, ↓pDzipKO, ↓rIsB_bl, ↓rDix_str, ↓rDix_int, ↓rIn_tup, ↓rIn_lst, ↓rEq_ns, ↓rEq_sn, ↓rRepT_p, ↓rAll_f, ↓rAll_t, ↓wSeq_p, ↓seqE_nx, ↓reduceIte, at_0, at_1, at_2, at_3, cut_1, cut_2, dl_0_0, dl_0_1, dl_0_2, dl_0_3, dl_0_4, dl_0_5, dl_1_0, dl_1_1, dl_1_2, dl_1_3, dl_1_4, dl_1_5, dl_2_0, dl_2_1, dl_2_2, dl_2_3, dl_2_4, dl_2_5, dl_3_0, dl_3_1, dl_3_2, dl_3_3, dl_3_4, dl_3_5, dl_4_0, dl_4_1, dl_4_2, dl_4_3, dl_4_4, dl_4_5, dn_1_0, dn_2_0, dn_2_1, dn_3_0, dn_3_1, dn_3_2, dn_4_0, dn_4_1, dn_4_2, dn_4_3, seqE_rt, seqE_bk, seqE_ct, seqE_ex, wipeD, frz_lst, frz_tup, at1_0, at2_0, at2_1, at3_0, at3_1, at3_2, at4_0, at4_1, at4_2, at4_3, at5_0, at5_1, at5_2, at5_3, at5_4, seqOf_put, seqOf_lst, seqOf_tup, insK_same, tyN_non, tyN_bl, tyN_int, tyN_str, tyN_tup, tyN_lst, tyN_dct, List.getElem?_cons_zero, List.getElem?_cons_succ, List.set_cons_zero, List.set_cons_succ, List.length_cons, List.length_nil, isB_NoneType_bool, isB_NoneType_int, isB_NoneType_str, isB_NoneType_tuple, isB_NoneType_list, isB_NoneType_dict, isB_bool_bool, isB_bool_int, isB_bool_str, isB_bool_tuple, isB_bool_list, isB_bool_dict, isB_int_bool, isB_int_int, isB_int_str, isB_int_tuple, isB_int_list, isB_int_dict, isB_str_bool, isB_str_int, isB_str_str, isB_str_tuple, isB_str_list, isB_str_dict, isB_tuple_bool, isB_tuple_int, isB_tuple_str, isB_tuple_tuple, isB_tuple_list, isB_tuple_dict, isB_list_bool, isB_list_int, isB_list_str, isB_list_tuple, isB_list_list, isB_list_dict, isB_dict_bool, isB_dict_int, isB_dict_str, isB_dict_tuple, isB_dict_list, isB_dict_dict, isC_bool, isC_int, isC_str, isC_tuple, isC_list, isC_dict, isA_list_tuple, isQ_NoneType, isQ_bool, isQ_int, isQ_str, isQ_tuple, isQ_list, isQ_dict, true_and, and_true, Bool.not_true, Bool.not_false, Bool.false_eq_true, Bool.true_xor, Bool.false_xor]
    exact fin_of q
  case has x h =>
    refine ⟨fs, ss, held, _, _, rfl, fun c hc => ?_, fun c hc => ?_, ?_⟩
    · rw [List.mem_singleton.mp hc]; rfl
    · rw [List.mem_singleton.mp hc]; exact lf _ h
    have e : isSimple fs ss held "has" [.str x] = true := by
      unfold isSimple
      rw [if_neg (of_eq_false w_has_any), if_neg (of_eq_false w_has_from), if_pos rfl]
      show (strIn fs (.str x) && strIn held (.str x)) = true
      rw [strIn_str, strIn_str, decide_eq_true h, decide_eq_true (hh _ h)]
      rfl
    rw [e]
    simp only [↓pVar, ↓pGet, ↓pC, ↓pOp, ↓pUn, ↓pCB, ↓pNil, ↓pCons, ↓pTest, ↓pBl, ↓pAndT, ↓pOrT, ↓pNotT, ↓pAndV, ↓pOrV, ↓pNotV, ↓pIfE, ↓pTup, ↓pLst, ↓pLstO, ↓pCall, ↓pMeth, ↓pFld, ↓pProp, ↓pMake, ↓pCv, ↓pSl, ↓pNo, ↓pSome, ↓pIntK, ↓pN, ↓pT, ↓pGC, ↓pGN, ↓pIf, ↓pRet, ↓pRetN, ↓pDrop, ↓pAsg, ↓pNx, ↓pBrk, ↓pCnt, ↓pNever, ↓pSub, ↓pAug, ↓pPar, ↓pParK, ↓pBM, ↓pFor, ↓pLc, ↓pLcO, ↓pYes, ↓piSeq, ↓piStr, ↓pStrK, ↓piRng1, ↓pRng1K, ↓piRng2, ↓pRng2K, ↓piEnum, ↓pEnumK, ↓piZip, ↓pZipL, ↓pZipT, ↓pFz, ↓pLenSet, ↓pIsT, ↓rIx_lst, ↓rIx_tup, ↓rIx_ref, ↓rIx_str, ↓rLen_str, ↓rLen_lst, ↓rLen_tup, ↓rLen_ref, ↓rIs_p, ↓rInt_int, ↓rInt_bl, ↓rStr_int, ↓rList_p, ↓rListO_p, ↓rTup_p, ↓rAdd_int, ↓rAdd_str, ↓rAdd_tup, ↓rAdd_lst, ↓rIntD_p, ↓rInt0_p, ↓rEq_int, ↓rEq_str, ↓rEq_bl, ↓rEq_lst, ↓rEq_tup, ↓rIsN_non, ↓rIsN_bl, ↓rIsN_int, ↓rIsN_str, ↓rIsN_tup, ↓rIsN_lst, ↓rNeg_p, ↓rSl_str, ↓rSl_tup, ↓rSl_lst, ↓rSl_scr, ↓rRep_p, ↓pOptK, ↓pChain, ↓pIfT, ↓pCallK, ↓pDzip, ↓pDzipK, ↓pDzipO, ↓pDzipKO, ↓rIsB_bl, ↓rDix_str, ↓rDix_int, ↓rIn_tup, ↓rIn_lst, ↓rEq_ns, ↓rEq_sn, ↓rRepT_p, ↓rAll_f, ↓rAll_t, ↓wSeq_p, ↓seqE_nx, ↓reduceIte, at_0, at_1, at_2, at_3, cut_1, cut_2, dl_0_0, dl_0_1, dl_0_2, dl_0_3, dl_0_4, dl_0_5, dl_1_0, dl_1_1, dl_1_2, dl_1_3, dl_1_4, dl_1_5, dl_2_0, dl_2_1, dl_2_2, dl_2_3, dl_2_4, dl_2_5, dl_3_0, dl_3_1, dl_3_2, dl_3_3, dl_3_4, dl_3_5, dl_4_0, dl_4_1, dl_4_2, dl_4_3, dl_4_4, dl_4_5, dn_1_0, dn_2_0, dn_2_1, dn_3_0, dn_3_1, dn_3_2, dn_4_0, dn_4_1, dn_4_2, dn_4_3, seqE_rt, seqE_bk, seqE_ct, seqE_ex, wipeD, frz_lst, frz_tup, at1_0, at2_0, at2_1, at3_0, at3_1, at3_2, at4_0, at4_1, at4_2, at4_3, at5_0, at5_1, at5_2, at5_3, at5_4, seqOf_put, seqOf_lst, seqOf_tup, insK_same, tyN_non, tyN_bl, tyN_int, tyN_str, tyN_tup, tyN_lst, tyN_dct, List.getElem?_cons_zero, List.getElem?_cons_succ, List.set_cons_zero, List.set_cons_succ, List.length_cons, List.length_nil, isB_NoneType_bool, isB_NoneType_int, isB_NoneType_str, isB_NoneType_tuple, isB_NoneType_list, isB_NoneType_dict, isB_bool_bool, isB_bool_int, isB_bool_str, isB_bool_tuple, isB_bool_list, isB_bool_dict, isB_int_bool, isB_int_int, isB_int_str, isB_int_tuple, isB_int_list, isB_int_dict, isB_str_bool, isB_str_int, isB_str_str, isB_str_tuple, isB_str_list, isB_str_dict, isB_tuple_bool, isB_tuple_int, isB_tuple_str, isB_tuple_tuple, isB_tuple_list, isB_tuple_dict, isB_list_bool, isB_list_int, isB_list_str, isB_list_tuple, isB_list_list, isB_list_dict, isB_dict_bool, isB_dict_int, isB_dict_str, isB_dict_tuple, isB_dict_list, isB_dict_dict, isC_bool, isC_int, isC_str, isC_tuple, isC_list, isC_dict, isA_list_tuple, isQ_NoneType, isQ_bool, isQ_int, isQ_str, isQ_tuple, isQ_list, isQ_dict, true_and, and_true, Bool.not_true, Bool.not_false, Bool.false_eq_true, Bool.true_xor, Bool.false_xor]
    exact fin_of q
  case is x v h hv =>
    have lv := (made_len hv).2.1
    refine ⟨fs, ss, held, _, _, rfl, fun c hc => ?_, fun c hc => ?_, ?_⟩
    · rcases List.mem_cons.mp hc with rfl | hc
      · rfl
      · rw [List.mem_singleton.mp hc]; rfl
    · rcases List.mem_cons.mp hc with rfl | hc
      · exact lf _ h
      · rw [List.mem_singleton.mp hc]; show v.length < 90000; omega
    have e : isSimple fs ss held "is" [.str x, .str v] = true := by
      unfold isSimple
      rw [if_neg (of_eq_false w_is_any), if_neg (of_eq_false w_is_from), if_neg (of_eq_false w_is_has), if_pos rfl]
      show (strIn fs (.str x) && (strIn held (.str x) && madeOf L36 8 (.str v))) = true
      rw [strIn_str, strIn_str, decide_eq_true h, decide_eq_true (hh _ h), hv]
      rfl
    rw [e]
    simp only [↓pVar, ↓pGet, ↓pC, ↓pOp, ↓pUn, ↓pCB, ↓pNil, ↓pCons, ↓pTest, ↓pBl, ↓pAndT, ↓pOrT, ↓pNotT, ↓pAndV, ↓pOrV, ↓pNotV, ↓pIfE, ↓pTup, ↓pLst, ↓pLstO, ↓pCall, ↓pMeth, ↓pFld, ↓pProp, ↓pMake, ↓pCv, ↓pSl, ↓pNo, ↓pSome, ↓pIntK, ↓pN, ↓pT, ↓pGC, ↓pGN, ↓pIf, ↓pRet, ↓pRetN, ↓pDrop, ↓pAsg, ↓pNx, ↓pBrk, ↓pCnt, ↓pNever, ↓pSub, ↓pAug, ↓pPar, ↓pParK, ↓pBM, ↓pFor, ↓pLc, ↓pLcO, ↓pYes, ↓piSeq, ↓piStr, ↓pStrK, ↓piRng1, ↓pRng1K, ↓piRng2, ↓pRng2K, ↓piEnum, ↓pEnumK, ↓piZip, ↓pZipL, ↓pZipT, ↓pFz, ↓pLenSet, ↓pIsT, ↓rIx_lst, ↓rIx_tup, ↓rIx_ref, ↓rIx_str, ↓rLen_str, ↓rLen_lst, ↓rLen_tup, ↓rLen_ref, ↓rIs_p, ↓rInt_int, ↓rInt_bl, ↓rStr_int, ↓rList_p, ↓rListO_p, ↓rTup_p, ↓rAdd_int, ↓rAdd_str, ↓rAdd_tup, ↓rAdd_lst, ↓rIntD_p, ↓rInt0_p, ↓rEq_int, ↓rEq_str, ↓rEq_bl, ↓rEq_lst, ↓rEq_tup, ↓rIsN_non, ↓rIsN_bl, ↓rIsN_int, ↓rIsN_str, ↓rIsN_tup, ↓rIsN_lst, ↓rNeg_p, ↓rSl_str, ↓rSl_tup, ↓rSl_lst, ↓rSl_scr, ↓rRep_p, ↓pOptK, ↓pChain, ↓pIfT, ↓pCallK, ↓pDzip, ↓pDzipK, ↓pDzipO, ↓pDzipKO, ↓rIsB_bl, ↓rDix_str, ↓rDix_int, ↓rIn_tup, ↓rIn_lst, ↓rEq_ns, ↓rEq_sn, ↓rRepT_p, ↓rAll_f, ↓rAll_t, ↓wSeq_p, ↓seqE_nx, ↓reduceIte, at_0, at_1, at_2, at_3, cut_1, cut_2, dl_0_0, dl_0_1, dl_0_2, dl_0_3, dl_0_4, dl_0_5, dl_1_0, dl_1_1, dl_1_2, dl_1_3, dl_1_4, dl_1_5, dl_2_0, dl_2_1, dl_2_2, dl_2_3, dl_2_4, dl_2_5, dl_3_0, dl_3_1, dl_3_2, dl_3_3, dl_3_4, dl_3_5, dl_4_0, dl_4_1, dl_4_2, dl_4_3, dl_4_4, dl_4_5, dn_1_0, dn_2_0, dn_2_1, dn_3_0, dn_3_1, dn_3_2, dn_4_0, dn_4_1, dn_4_2, dn_4_3, seqE_rt, seqE_bk, seqE_ct, seqE_ex, wipeD, frz_lst, frz_tup, at1_0, at2_0, at2_1, at3_0, at3_1, at3_2, at4_0, at4_1, at4_2, at4_3, at5_0, at5_1, at5_2, at5_3, at5_4, seqOf_put, seqOf_lst, seqOf_tup, insK_same, tyN_non, tyN_bl, tyN_int, tyN_str, tyN_tup, tyN_lst, tyN_dct, List.getElem?_cons_zero, List.getElem?_cons_succ, List.set_cons_zero, List.set_cons_succ, List.length_cons, List.length_nil, isB_NoneType_bool, isB_NoneType_int, isB_NoneType_str, isB_NoneType_tuple, isB_NoneType_list, isB_NoneType_dict, isB_bool_bool, isB_bool_int, isB_bool_str, isB_bool_tuple, isB_bool_list, isB_bool_dict, isB_int_bool, isB_int_int, isB_int_str, isB_int_tuple, isB_int_list, isB_int_dict, isB_str_bool, isB_str_int, isB_str_str, isB_str_tuple, isB_str_list, isB_str_dict, isB_tuple_bool, isB_tuple_int, isB_tuple_str, isB_tuple_tuple, isB_tuple_list, isB_tuple_dict, isB_list_bool, isB_list_int, isB_list_str, isB_list_tuple, isB_list_list, isB_list_dict, isB_dict_bool, isB_dict_int, isB_dict_str, isB_dict_tuple, isB_dict_list, isB_dict_dict, isC_bool, isC_int, isC_str, isC_tuple, isC_list, isC_dict, isA_list_tuple, isQ_NoneType, isQ_bool, isQ_int, isQ_str, isQ_tuple, isQ_list, isQ_dict, true_and, and_true, Bool.not_true, Bool.not_false, Bool.false_eq_true, Bool.true_xor, Bool.false_xor]
    exact fin_of q
  case nt c h =>
    refine ⟨by decide, need_many A n (cs := [c]) (fun z hz => by rw [List.mem_singleton.mp hz]; exact h) hh hsrc lf ls hp (by simp) fun x => fin_of q⟩
  case an h1 h2 h3 =>
    have e1 : decide ((3 : Int) ≤ ((cs.length + 1 : Nat) : Int)) = true := decide_eq_true (by omega)
    have e2 : decide (((cs.length + 1 : Nat) : Int) ≤ 5) = true := decide_eq_true (by omega)
    have e3 : (((cs.length + 1 : Nat) : Int) - 1).toNat = cs.length := by omega
    simp only [e1, e2, e3, ↓pVar, ↓pGet, ↓pC, ↓pOp, ↓pUn, ↓pCB, ↓pNil, ↓pCons, ↓pTest, ↓pBl, ↓pAndT, ↓pOrT, ↓pNotT, ↓pAndV, ↓pOrV, ↓pNotV, ↓pIfE, ↓pTup, ↓pLst, ↓pLstO, ↓pCall, ↓pMeth, ↓pFld, ↓pProp, ↓pMake, ↓pCv, ↓pSl, ↓pNo, ↓pSome, ↓pIntK, ↓pN, ↓pT, ↓pGC, ↓pGN, ↓pIf, ↓pRet, ↓pRetN, ↓pDrop, ↓pAsg, ↓pNx, ↓pBrk, ↓pCnt, ↓pNever, ↓pSub, ↓pAug, ↓pPar, ↓pParK, ↓pBM, ↓pFor, ↓pLc, ↓pLcO, ↓pYes, ↓piSeq, ↓piStr, ↓pStrK, ↓piRng1, ↓pRng1K, ↓piRng2, ↓pRng2K, ↓piEnum, ↓pEnumK, ↓piZip, ↓pZipL, ↓pZipT, ↓pFz, ↓pLenSet, ↓pIsT, ↓rIx_lst, ↓rIx_tup, ↓rIx_ref, ↓rIx_str, ↓rLen_str, ↓rLen_lst, ↓rLen_tup, ↓rLen_ref, ↓rIs_p, ↓rInt_int, ↓rInt_bl, ↓rStr_int, ↓rList_p, ↓rListO_p, ↓rTup_p, ↓rAdd_int, ↓rAdd_str, ↓rAdd_tup, ↓rAdd_lst, ↓rIntD_p, ↓rInt0_p, ↓rEq_int, ↓rEq_str, ↓rEq_bl, ↓rEq_lst, ↓rEq_tup, ↓rIsN_non, ↓rIsN_bl, ↓rIsN_int, ↓rIsN_str, ↓rIsN_tup, ↓rIsN_lst, ↓rNeg_p, ↓rSl_str, ↓rSl_tup, ↓rSl_lst, ↓rSl_scr, ↓rRep_p, ↓pOptK, ↓pChain, ↓pIfT, ↓pCallK, ↓pDzip, ↓pDzipK, ↓pDzipO, ↓pDzipKO, ↓rIsB_bl, ↓rDix_str, ↓rDix_int, ↓rIn_tup, ↓rIn_lst, ↓rEq_ns, ↓rEq_sn, ↓rRepT_p, ↓rAll_f, ↓rAll_t, ↓wSeq_p, ↓seqE_nx, ↓reduceIte, at_0, at_1, at_2, at_3, cut_1, cut_2, dl_0_0, dl_0_1, dl_0_2, dl_0_3, dl_0_4, dl_0_5, dl_1_0, dl_1_1, dl_1_2, dl_1_3, dl_1_4, dl_1_5, dl_2_0, dl_2_1, dl_2_2, dl_2_3, dl_2_4, dl_2_5, dl_3_0, dl_3_1, dl_3_2, dl_3_3, dl_3_4, dl_3_5, dl_4_0, dl_4_1, dl_4_2, dl_4_3, dl_4_4, dl_4_5, dn_1_0, dn_2_0, dn_2_1, dn_3_0, dn_3_1, dn_3_2, dn_4_0, dn_4_1, dn_4_2, dn_4_3, seqE_rt, seqE_bk, seqE_ct, seqE_ex, wipeD, frz_lst, frz_tup, at1_0, at2_0, at2_1, at3_0, at3_1, at3_2, at4_0, at4_1, at4_2, at4_3, at5_0, at5_1, at5_2, at5_3, at5_4, seqOf_put, seqOf_lst, seqOf_tup, insK_same, tyN_non, tyN_bl, tyN_int, tyN_str, tyN_tup, tyN_lst, tyN_dct, List.getElem?_cons_zero, List.getElem?_cons_succ, List.set_cons_zero, List.set_cons_succ, List.length_cons, List.length_nil, isB_NoneType_bool, isB_NoneType_int, isB_NoneType_str, isB_NoneType_tuple, isB_NoneType_list, isB_NoneType_dict, isB_bool_bool, isB_bool_int, isB_bool_str, isB_bool_tuple, isB_bool_list, isB_bool_dict, isB_int_bool, isB_int_int, isB_int_str, isB_int_tuple, isB_int_list, isB_int_dict, isB_str_bool, isB_str_int, isB_str_str, isB_str_tuple, isB_str_list, isB_str_dict, isB_tuple_bool, isB_tuple_int, isB_tuple_str, isB_tuple_tuple, isB_tuple_list, isB_tuple_dict, isB_list_bool, isB_list_int, isB_list_str, isB_list_tuple, isB_list_list, isB_list_dict, isB_dict_bool, isB_dict_int, isB_dict_str, isB_dict_tuple, isB_dict_list, isB_dict_dict, isC_bool, isC_int, isC_str, isC_tuple, isC_list, isC_dict, isA_list_tuple, isQ_NoneType, isQ_bool, isQ_int, isQ_str, isQ_tuple, isQ_list, isQ_dict, true_and, and_true, Bool.not_true, Bool.not_false, Bool.false_eq_true, Bool.true_xor, Bool.false_xor]
    exact ⟨by omega, need_many A n h3 hh hsrc lf ls hp h2 fun x => fin_of q⟩
  case orr h1 h2 h3 =>
    have e1 : decide ((3 : Int) ≤ ((cs.length + 1 : Nat) : Int)) = true := decide_eq_true (by omega)
    have e2 : decide (((cs.length + 1 : Nat) : Int) ≤ 5) = true := decide_eq_true (by omega)
    have e3 : (((cs.length + 1 : Nat) : Int) - 1).toNat = cs.length := by omega
    simp only [e1, e2, e3, ↓pVar, ↓pGet, ↓pC, ↓pOp, ↓pUn, ↓pCB, ↓pNil, ↓pCons, ↓pTest, ↓pBl, ↓pAndT, ↓pOrT, ↓pNotT, ↓pAndV, ↓pOrV, ↓pNotV, ↓pIfE, ↓pTup, ↓pLst, ↓pLstO, ↓pCall, ↓pMeth, ↓pFld, ↓pProp, ↓pMake, ↓pCv, ↓pSl, ↓pNo, ↓pSome, ↓pIntK, ↓pN, ↓pT, ↓pGC, ↓pGN, ↓pIf, ↓pRet, ↓pRetN, ↓pDrop, ↓pAsg, ↓pNx, ↓pBrk, ↓pCnt, ↓pNever, ↓pSub, ↓pAug, ↓pPar, ↓pParK, ↓pBM, ↓pFor, ↓pLc, ↓pLcO, ↓pYes, ↓piSeq, ↓piStr, ↓pStrK, ↓piRng1, ↓pRng1K, ↓piRng2, ↓pRng2K, ↓piEnum, ↓pEnumK, ↓piZip, ↓pZipL, ↓pZipT, ↓pFz, ↓pLenSet, ↓pIsT, ↓rIx_lst, ↓rIx_tup, ↓rIx_ref, ↓rIx_str, ↓rLen_str, ↓rLen_lst, ↓rLen_tup, ↓rLen_ref, ↓rIs_p, ↓rInt_int, ↓rInt_bl, ↓rStr_int, ↓rList_p, ↓rListO_p, ↓rTup_p, ↓rAdd_int, ↓rAdd_str, ↓rAdd_tup, ↓rAdd_lst, ↓rIntD_p, ↓rInt0_p, ↓rEq_int, ↓rEq_str, ↓rEq_bl, ↓rEq_lst, ↓rEq_tup, ↓rIsN_non, ↓rIsN_bl, ↓rIsN_int, ↓rIsN_str, ↓rIsN_tup, ↓rIsN_lst, ↓rNeg_p, ↓rSl_str, ↓rSl_tup, ↓rSl_lst, ↓rSl_scr, ↓rRep_p, ↓pOptK, ↓pChain, ↓pIfT, ↓pCallK, ↓pDzip, ↓pDzipK, ↓pDzipO, ↓pDzipKO, ↓rIsB_bl, ↓rDix_str, ↓rDix_int, ↓rIn_tup, ↓rIn_lst, ↓rEq_ns, ↓rEq_sn, ↓rRepT_p, ↓rAll_f, ↓rAll_t, ↓wSeq_p, ↓seqE_nx, ↓reduceIte, at_0, at_1, at_2, at_3, cut_1, cut_2, dl_0_0, dl_0_1, dl_0_2, dl_0_3, dl_0_4, dl_0_5, dl_1_0, dl_1_1, dl_1_2, dl_1_3, dl_1_4, dl_1_5, dl_2_0, dl_2_1, dl_2_2, dl_2_3, dl_2_4, dl_2_5, dl_3_0, dl_3_1, dl_3_2, dl_3_3, dl_3_4, dl_3_5, dl_4_0, dl_4_1, dl_4_2, dl_4_3, dl_4_4, dl_4_5, dn_1_0, dn_2_0, dn_2_1, dn_3_0, dn_3_1, dn_3_2, dn_4_0, dn_4_1, dn_4_2, dn_4_3, seqE_rt, seqE_bk, seqE_ct, seqE_ex, wipeD, frz_lst, frz_tup, at1_0, at2_0, at2_1, at3_0, at3_1, at3_2, at4_0, at4_1, at4_2, at4_3, at5_0, at5_1, at5_2, at5_3, at5_4, seqOf_put, seqOf_lst, seqOf_tup, insK_same, tyN_non, tyN_bl, tyN_int, tyN_str, tyN_tup, tyN_lst, tyN_dct, List.getElem?_cons_zero, List.getElem?_cons_succ, List.set_cons_zero, List.set_cons_succ, List.length_cons, List.length_nil, isB_NoneType_bool, isB_NoneType_int, isB_NoneType_str, isB_NoneType_tuple, isB_NoneType_list, isB_NoneType_dict, isB_bool_bool, isB_bool_int, isB_bool_str, isB_bool_tuple, isB_bool_list, isB_bool_dict, isB_int_bool, isB_int_int, isB_int_str, isB_int_tuple, isB_int_list, isB_int_dict, isB_str_bool, isB_str_int, isB_str_str, isB_str_tuple, isB_str_list, isB_str_dict, isB_tuple_bool, isB_tuple_int, isB_tuple_str, isB_tuple_tuple, isB_tuple_list, isB_tuple_dict, isB_list_bool, isB_list_int, isB_list_str, isB_list_tuple, isB_list_list, isB_list_dict, isB_dict_bool, isB_dict_int, isB_dict_str, isB_dict_tuple, isB_dict_list, isB_dict_dict, isC_bool, isC_int, isC_str, isC_tuple, isC_list, isC_dict, isA_list_tuple, isQ_NoneType, isQ_bool, isQ_int, isQ_str, isQ_tuple, isQ_list, isQ_dict, true_and, and_true, Bool.not_true, Bool.not_false, Bool.false_eq_true, Bool.true_xor, Bool.false_xor]
    exact ⟨by omega, need_many A n h3 hh hsrc lf ls hp h2 fun x => fin_of q⟩
theorem ok_need_condition {P : Program} {w : World} {K : PySem.W.Frag} {mg : Str → Option Value} {base : Heap} {A : Ad} (T : Txt K mg A) : ∀ n, FnJ P w K mg base (5 + n) A.f_need_condition (sp_need_condition A n)
  | 0 => FnJ.mkAt (k := 4) (wb := wNever) T.d_need_condition sc_need_condition (fun cdv R outer s H E hr tk => jss_never) (fun _ _ _ _ ⟨_, _, _, _, _, _, h, _⟩ => h.elim)
  | n + 1 => FnJ.mkAt (k := 5 + n) T.d_need_condition sc_need_condition (fun cdv R outer s H E hr tk => bd_need_condition T n (ok_need_condition T n) cdv R outer s H E hr tk) (rd_need_condition A n)
def sp_check_condition (A : Ad) : SpD := fun ds M Q _ => ∃ (fs ss : List Str) (d : D), ds = [shp A fs ss, d] ∧ CondD fs ss 8 d ∧ NamesOk fs ∧ NamesOk ss ∧ Q .non M
def wb_check_condition (A : Ad) : WS :=
  (wDrop (wCall (sp_need_condition A 8) (wCons (wVar 0) (wCons (wVar 1) (wCons (wTup wNil) (wCons (wProp A.c_Shape ns_Shape (sp_Shape_columns A) (wVar 0)) wNil))))))
theorem bd_check_condition {P : Program} {w : World} {K : PySem.W.Frag} {mg : Str → Option Value} {base : Heap} {A : Ad} (T : Txt K mg A) (cdv : Value) (R : Around) (outer : List Env) (s : Shared) (H : Hp) (E : XK) (hr : Room 13 (R.deeper (envOfC "check_condition" (defScope s_check_condition) s.heap.objs.size A.f_check_condition cdv)))
    (tk : Takes (cxOf (L2.CX P w) P w K mg base N_check_condition "check_condition" (defScope s_check_condition) A.f_check_condition cdv R outer s H E) (WD E)) : JSs (cxOf (L2.CX P w) P w K mg base N_check_condition "check_condition" (defScope s_check_condition) A.f_check_condition cdv R outer s H E) (WD E) (defBody s_check_condition) (wb_check_condition A) :=
  (js_one (js_expr (j_call (ok_need_condition T 8) hr (by decide) T.g_need_condition tk (j_cons (jv 0) (j_cons (jv 1) (j_cons (j_tup j_nil) (j_cons (j_prop (C := A.c_Shape) (ns := ns_Shape) (jv 0) T.cl_Shape T.p_Shape_columns (ok_Shape_columns T) hr (by decide)) j_nil)))))))
theorem NamesOk.short {fs : List Str} (h : NamesOk fs) : ∀ x ∈ fs, x.length < 90000 := fun x hx => by
  have := (made_len (h.ok x hx)).2.1
  omega
theorem rd_check_condition (A : Ad) : ∀ ds M Q Xc, sp_check_condition A ds M Q Xc → ds.length = P_check_condition.length ∧ RD (wb_check_condition A) Q Xc (startD N_check_condition ds) M := by
  rintro _ M Q Xc ⟨fs, ss, d, rfl, hc, hf, hs, q⟩
  refine ⟨rfl, ?_⟩
  rw [st_check_condition]
  have f5 := hf.hi
  simp only [RD, wb_check_condition, ↓pVar, ↓pGet, ↓pC, ↓pOp, ↓pUn, ↓pCB, ↓pNil, ↓pCons, ↓pTest, ↓pBl, ↓pAndT, ↓pOrT, ↓pNotT, ↓pAndV, ↓pOrV, ↓pNotV, ↓pIfE, ↓pTup, ↓pLst, ↓pLstO, ↓pCall, ↓pMeth, ↓pFld, ↓pProp, ↓pMake, ↓pCv, ↓pSl, ↓pNo, ↓pSome, ↓pIntK, ↓pN, ↓pT, ↓pGC, ↓pGN, ↓pIf, ↓pRet, ↓pRetN, ↓pDrop, ↓pAsg, ↓pNx, ↓pBrk, ↓pCnt, ↓pNever, ↓pSub, ↓pAug, ↓pPar, ↓pParK, ↓pBM, ↓pFor, ↓pLc, ↓pLcO, ↓pYes, ↓piSeq, ↓piStr, ↓pStrK, ↓piRng1, ↓pRng1K, ↓piRng2, ↓pRng2K, ↓piEnum, ↓pEnumK, ↓piZip, ↓pZipL, ↓pZipT, ↓pFz, ↓pLenSet, ↓pIsT, ↓rIx_lst, ↓rIx_tup, ↓rIx_ref, ↓rIx_str, ↓rLen_str, ↓rLen_lst, ↓rLen_tup, ↓rLen_ref, ↓rIs_p, ↓rInt_int, ↓rInt_bl, ↓rStr_int, ↓rList_p, ↓rListO_p, ↓rTup_p, ↓rAdd_int, ↓rAdd_str, ↓rAdd_tup, ↓rAdd_lst, ↓rIntD_p, ↓rInt0_p, ↓rEq_int, ↓rEq_str, ↓rEq_bl, ↓rEq_lst, ↓rEq_tup, ↓rIsN_non, ↓rIsN_bl, ↓rIsN_int, ↓rIsN_str, ↓rIsN_tup, ↓rIsN_lst, ↓rNeg_p, ↓rSl_str, ↓rSl_tup, ↓rSl_lst, ↓rSl_scr, ↓rRep_p, ↓pOptK, ↓pChain, ↓pIfT, ↓pCallK, ↓pDzip, ↓pDzipK, ↓pDzipO, ↓pDzipKO, ↓rIsB_bl, ↓rDix_str, ↓rDix_int, ↓rIn_tup, ↓rIn_lst, ↓rEq_ns, ↓rEq_sn, ↓rRepT_p, ↓rAll_f, ↓rAll_t, ↓wSeq_p, ↓seqE_nx, ↓reduceIte, at_0, at_1, at_2, at_3, cut_1, cut_2, dl_0_0, dl_0_1, dl_0_2, dl_0_3, dl_0_4, dl_0_5, dl_1_0, dl_1_1, dl_1_2, dl_1_3, dl_1_4, dl_1_5, dl_2_0, dl_2_1, dl_2_2, dl_2_3, dl_2_4, dl_2_5, dl_3_0, dl_3_1, dl_3_2, dl_3_3, dl_3_4, dl_3_5, dl_4_0, dl_4_1, dl_4_2, dl_4_3, dl_4_4, dl_4_5, dn_1_0, dn_2_0, dn_2_1, dn_3_0, dn_3_1, dn_3_2, dn_4_0, dn_4_1, dn_4_2, dn_4_3, seqE_rt, seqE_bk, seqE_ct, seqE_ex, wipeD, frz_lst, frz_tup, at1_0, at2_0, at2_1, at3_0, at3_1, at3_2, at4_0, at4_1, at4_2, at4_3, at5_0, at5_1, at5_2, at5_3, at5_4, seqOf_put, seqOf_lst, seqOf_tup, insK_same, tyN_non, tyN_bl, tyN_int, tyN_str, tyN_tup, tyN_lst, tyN_dct, List.getElem?_cons_zero, List.getElem?_cons_succ, List.set_cons_zero, List.set_cons_succ, List.length_cons, List.length_nil, isB_NoneType_bool, isB_NoneType_int, isB_NoneType_str, isB_NoneType_tuple, isB_NoneType_list, isB_NoneType_dict, isB_bool_bool, isB_bool_int, isB_bool_str, isB_bool_tuple, isB_bool_list, isB_bool_dict, isB_int_bool, isB_int_int, isB_int_str, isB_int_tuple, isB_int_list, isB_int_dict, isB_str_bool, isB_str_int, isB_str_str, isB_str_tuple, isB_str_list, isB_str_dict, isB_tuple_bool, isB_tuple_int, isB_tuple_str, isB_tuple_tuple, isB_tuple_list, isB_tuple_dict, isB_list_bool, isB_list_int, isB_list_str, isB_list_tuple, isB_list_list, isB_list_dict, isB_dict_bool, isB_dict_int, isB_dict_str, isB_dict_tuple, isB_dict_list, isB_dict_dict, isC_bool, isC_int, isC_str, isC_tuple, isC_list, isC_dict, isA_list_tuple, isQ_NoneType, isQ_bool, isQ_int, isQ_str, isQ_tuple, isQ_list, isQ_dict, true_and, and_true, Bool.not_true, Bool.not_false, Bool.false_eq_true, Bool.true_xor, Bool.false_xor]
  refine ⟨Nat.zero_le _, ?_⟩
  simp only [shp, ↓pVar, ↓pGet, ↓pC, ↓pOp, ↓pUn, ↓pCB, ↓pNil, ↓pCons, ↓pTest, ↓pBl, ↓pAndT, ↓pOrT, ↓pNotT, ↓pAndV, ↓pOrV, ↓pNotV, ↓pIfE, ↓pTup, ↓pLst, ↓pLstO, ↓pCall, ↓pMeth, ↓pFld, ↓pProp, ↓pMake, ↓pCv, ↓pSl, ↓pNo, ↓pSome, ↓pIntK, ↓pN, ↓pT, ↓pGC, ↓pGN, ↓pIf, ↓pRet, ↓pRetN, ↓pDrop, ↓pAsg, ↓pNx, ↓pBrk, ↓pCnt, ↓pNever, ↓pSub, ↓pAug, ↓pPar, ↓pParK, ↓pBM, ↓pFor, ↓pLc, ↓pLcO, ↓pYes, ↓piSeq, ↓piStr, ↓pStrK, ↓piRng1, ↓pRng1K, ↓piRng2, ↓pRng2K, ↓piEnum, ↓pEnumK, ↓piZip, ↓pZipL, ↓pZipT, ↓pFz, ↓pLenSet, ↓pIsT, ↓rIx_lst, ↓rIx_tup, ↓rIx_ref, ↓rIx_str, ↓rLen_str, ↓rLen_lst, ↓rLen_tup, ↓rLen_ref, ↓rIs_p, ↓rInt_int, ↓rInt_bl, ↓rStr_int, ↓rList_p, ↓rListO_p, ↓rTup_p, ↓rAdd_int, ↓rAdd_str, ↓rAdd_tup, ↓rAdd_lst, ↓rIntD_p, ↓rInt0_p, ↓rEq_int, ↓rEq_str, ↓rEq_bl, ↓rEq_lst, ↓rEq_tup, ↓rIsN_non, ↓rIsN_bl, ↓rIsN_int, ↓rIsN_str, ↓rIsN_tup, ↓rIsN_lst, ↓rNeg_p, ↓rSl_str, ↓rSl_tup, ↓rSl_lst, ↓rSl_scr, ↓rRep_p, ↓pOptK, ↓pChain, ↓pIfT, ↓pCallK, ↓pDzip, ↓pDzipK, ↓pDzipO, ↓pDzipKO, ↓rIsB_bl, ↓rDix_str, ↓rDix_int, ↓rIn_tup, ↓rIn_lst, ↓rEq_ns, ↓rEq_sn, ↓rRepT_p, ↓rAll_f, ↓rAll_t, ↓wSeq_p, ↓seqE_nx, ↓reduceIte, at_0, at_1, at_2, at_3, cut_1, cut_2, dl_0_0, dl_0_1, dl_0_2, dl_0_3, dl_0_4, dl_0_5, dl_1_0, dl_1_1, dl_1_2, dl_1_3, dl_1_4, dl_1_5, dl_2_0, dl_2_1, dl_2_2, dl_2_3, dl_2_4, dl_2_5, dl_3_0, dl_3_1, dl_3_2, dl_3_3, dl_3_4, dl_3_5, dl_4_0, dl_4_1, dl_4_2, dl_4_3, dl_4_4, dl_4_5, dn_1_0, dn_2_0, dn_2_1, dn_3_0, dn_3_1, dn_3_2, dn_4_0, dn_4_1, dn_4_2, dn_4_3, seqE_rt, seqE_bk, seqE_ct, seqE_ex, wipeD, frz_lst, frz_tup, at1_0, at2_0, at2_1, at3_0, at3_1, at3_2, at4_0, at4_1, at4_2, at4_3, at5_0, at5_1, at5_2, at5_3, at5_4, seqOf_put, seqOf_lst, seqOf_tup, insK_same, tyN_non, tyN_bl, tyN_int, tyN_str, tyN_tup, tyN_lst, tyN_dct, List.getElem?_cons_zero, List.getElem?_cons_succ, List.set_cons_zero, List.set_cons_succ, List.length_cons, List.length_nil, isB_NoneType_bool, isB_NoneType_int, isB_NoneType_str, isB_NoneType_tuple, isB_NoneType_list, isB_NoneType_dict, isB_bool_bool, isB_bool_int, isB_bool_str, isB_bool_tuple, isB_bool_list, isB_bool_dict, isB_int_bool, isB_int_int, isB_int_str, isB_int_tuple, isB_int_list, isB_int_dict, isB_str_bool, isB_str_int, isB_str_str, isB_str_tuple, isB_str_list, isB_str_dict, isB_tuple_bool, isB_tuple_int, isB_tuple_str, isB_tuple_tuple, isB_tuple_list, isB_tuple_dict, isB_list_bool, isB_list_int, isB_list_str, isB_list_tuple, isB_list_list, isB_list_dict, isB_dict_bool, isB_dict_int, isB_dict_str, isB_dict_tuple, isB_dict_list, isB_dict_dict, isC_bool, isC_int, isC_str, isC_tuple, isC_list, isC_dict, isA_list_tuple, isQ_NoneType, isQ_bool, isQ_int, isQ_str, isQ_tuple, isQ_list, isQ_dict, true_and, and_true, Bool.not_true, Bool.not_false, Bool.false_eq_true, Bool.true_xor, Bool.false_xor]
  refine ⟨fs, ss, rfl, by omega, ?_⟩
  exact ⟨fs, ss, cols fs, [], d, rfl, hc, fun f hf => mem_cols hf, src_cols, hf.short, hs.short, by decide, fin_of q⟩
theorem ok_check_condition {P : Program} {w : World} {K : PySem.W.Frag} {mg : Str → Option Value} {base : Heap} {A : Ad} (T : Txt K mg A) : FnJ P w K mg base 14 A.f_check_condition (sp_check_condition A) :=
  FnJ.mkAt T.d_check_condition sc_check_condition (fun cdv R outer s H E hr tk => bd_check_condition T cdv R outer s H E hr tk) (rd_check_condition A)
/-- a sheet: a dict that has the source and the fields' values -/
structure Sht (fs : List Str) (s : Str) (lf : Str → D) (ks : List Key) (xs : List D) : Prop where
  src : valD ks xs (.inr "source") = some (.str s)
  fld : ∀ f ∈ fs, valD ks xs (.inr f) = some (lf f)
  wd : ∀ f ∈ fs, lf f = .non ∨ ∃ w, lf f = .str w
theorem deq_ns {x : Str} : deq .non (.str x) = false := rfl
def sp_met (A : Ad) (n : Nat) : SpD := fun ds M Q _ => ∃ (fs ss : List Str) (s : Str) (lf : Str → D) (ks : List Key) (xs : List D) (d : D), ds = [d, .dct ks xs] ∧ CondD fs ss n d ∧ Sht fs s lf ks xs ∧ Q (.bl (mt s lf n d)) M
def wb_met_c0 (A : Ad) (n : Nat) : WS :=
  (wSeq (wIf (wTest (wOp (rEqD false) (wVar 2) (wC (.str "from"))))
  (wRet (wOp (rEqD false) (wOp rDixD (wVar 1) (wC (.str "source"))) (wOp rIxD (wVar 0) (wC (.int 1)))))
  wNx)
  (wSeq (wIf (wTest (wOp (rEqD false) (wVar 2) (wC (.str "has"))))
  (wRet (wOp (rIsND true) (wOp rDixD (wVar 1) (wOp rIxD (wVar 0) (wC (.int 1)))) (wC .non)))
  wNx)
  (wRet (wOrV (wOp (rEqD false) (wVar 2) (wC (.str "any"))) (wOp (rEqD false) (wOp rDixD (wVar 1) (wOp rIxD (wVar 0) (wC (.int 1)))) (wOp rIxD (wVar 0) (wC (.int 2))))))))
def wb_met (A : Ad) (n : Nat) : WS :=
  (wSeq (wAsg (wOp rIxD (wVar 0) (wC (.int 0))) (gN 2))
  (wSeq (wIf (wTest (wOp (rEqD false) (wVar 2) (wC (.str "not"))))
  (wRet (wNotV (wCall (sp_met A n) (wCons (wOp rIxD (wVar 0) (wC (.int 1))) (wCons (wVar 1) wNil)))))
  wNx)
  (wSeq (wIf (wTest (wOp (rEqD false) (wVar 2) (wC (.str "and"))))
  (wRet (wCB (rAllD false) (wCons (wLc (wiSeq (wSl (wVar 0) (wSome (wC (.int 1))) wNo)) (gN 3) wYes (wCall (sp_met A n) (wCons (wVar 3) (wCons (wVar 1) wNil))) [3]) wNil)))
  wNx)
  (wSeq (wIf (wTest (wOp (rEqD false) (wVar 2) (wC (.str "or"))))
  (wRet (wCB (rAllD true) (wCons (wLc (wiSeq (wSl (wVar 0) (wSome (wC (.int 1))) wNo)) (gN 3) wYes (wCall (sp_met A n) (wCons (wVar 3) (wCons (wVar 1) wNil))) [3]) wNil)))
  wNx)
  (wb_met_c0 A n)))))
theorem bd_met {P : Program} {w : World} {K : PySem.W.Frag} {mg : Str → Option Value} {base : Heap} {A : Ad} (T : Txt K mg A) (n : Nat) (ih : FnJ P w K mg base (1 + n) A.f_met (sp_met A n)) (cdv : Value) (R : Around) (outer : List Env) (s : Shared) (H : Hp) (E : XK) (hr : Room (1 + n) (R.deeper (envOfC "met" (defScope s_met) s.heap.objs.size A.f_met cdv)))
    (tk : Takes (cxOf (L2.CX P w) P w K mg base N_met "met" (defScope s_met) A.f_met cdv R outer s H E) (WD E)) : JSs (cxOf (L2.CX P w) P w K mg base N_met "met" (defScope s_met) A.f_met cdv R outer s H E) (WD E) (defBody s_met) (wb_met A n) :=
  (js_cons (js_set (i := 2) sc_met.nd (j_ix id_ix (jv 0) j_int))
  (js_cons (js_if (jt_cmp (od_eq hr.units) (jv 2) j_str)
  (js_one (js_ret (j_not (j_call ih hr (Nat.le_refl _) T.g_met tk (j_cons (j_ix id_ix (jv 0) j_int) (j_cons (jv 1) j_nil))))))
  js_nil)
  (js_cons (js_if (jt_cmp (od_eq hr.units) (jv 2) j_str)
  (js_one (js_ret (j_callB (cd_all rfl) T.n_all bo_all (j_cons (j_lc (own := [("part", 3)]) rfl sc_met.nd (ji_seq (j_sl (jv 0) (jo_some j_int) jo_none)) (blkOk_by (own := [("part", 3)]) (N := N_met) (sc := defScope s_met) (by decide +kernel)) (fun _ _ _ _ _ => (jg_name (i := 3) sc_met.nd)) (fun _ _ _ _ _ => jts_nil) (fun _ _ _ _ _ => (j_call ih hr (Nat.le_refl _) T.g_met tkF (j_cons (jv 3) (j_cons (jv 1) j_nil))))) j_nil))))
  js_nil)
  (js_cons (js_if (jt_cmp (od_eq hr.units) (jv 2) j_str)
  (js_one (js_ret (j_callB (cd_any rfl) T.n_any bo_any (j_cons (j_lc (own := [("part", 3)]) rfl sc_met.nd (ji_seq (j_sl (jv 0) (jo_some j_int) jo_none)) (blkOk_by (own := [("part", 3)]) (N := N_met) (sc := defScope s_met) (by decide +kernel)) (fun _ _ _ _ _ => (jg_name (i := 3) sc_met.nd)) (fun _ _ _ _ _ => jts_nil) (fun _ _ _ _ _ => (j_call ih hr (Nat.le_refl _) T.g_met tkF (j_cons (jv 3) (j_cons (jv 1) j_nil))))) j_nil))))
  js_nil)
  (js_cons (js_if (jt_cmp (od_eq hr.units) (jv 2) j_str)
  (js_one (js_ret (j_cmp (od_eq hr.units) (j_dix (Nat.lt_of_le_of_lt (Nat.add_le_add_left (by decide : 1 ≤ 64) _) hr.units) (jv 1) j_str) (j_ix id_ix (jv 0) j_int))))
  js_nil)
  (js_cons (js_if (jt_cmp (od_eq hr.units) (jv 2) j_str)
  (js_one (js_ret (j_cmp od_notN (j_dix (Nat.lt_of_le_of_lt (Nat.add_le_add_left (by decide : 1 ≤ 64) _) hr.units) (jv 1) (j_ix id_ix (jv 0) j_int)) j_non)))
  js_nil)
  (js_one (js_ret (j_or (j_cmp (od_eq hr.units) (jv 2) j_str) (j_one (j_cmp (od_eq hr.units) (j_dix (Nat.lt_of_le_of_lt (Nat.add_le_add_left (by decide : 1 ≤ 64) _) hr.units) (jv 1) (j_ix id_ix (jv 0) j_int)) (j_ix id_ix (jv 0) j_int))))))))))))
theorem mt_any {s : Str} {lf : Str → D} {n : Nat} : mt s lf (n + 1) (.tup [.str "any"]) = true := by
  unfold mt
  rw [if_neg (of_eq_false w_any_not), if_neg (of_eq_false w_any_and), if_neg (of_eq_false w_any_or)]
theorem mt_frm {s x : Str} {lf : Str → D} {n : Nat} : mt s lf (n + 1) (.tup [.str "from", .str x]) = decide (s = x) := by
  unfold mt
  rw [if_neg (of_eq_false w_from_not), if_neg (of_eq_false w_from_and), if_neg (of_eq_false w_from_or)]
  exact if_pos rfl
theorem mt_has {s x : Str} {lf : Str → D} {n : Nat} : mt s lf (n + 1) (.tup [.str "has", .str x]) = (match lf x with | .non => false | _ => true) := by
  unfold mt
  rw [if_neg (of_eq_false w_has_not), if_neg (of_eq_false w_has_and), if_neg (of_eq_false w_has_or)]
  exact if_neg (of_eq_false w_has_from)
theorem mt_is {s x v : Str} {lf : Str → D} {n : Nat} : mt s lf (n + 1) (.tup [.str "is", .str x, .str v]) = (match lf x with | .str y => decide (y = v) | _ => false) := by
  unfold mt
  rw [if_neg (of_eq_false w_is_not), if_neg (of_eq_false w_is_and), if_neg (of_eq_false w_is_or)]
  all_goals rfl
theorem mt_not {s : Str} {c : D} {lf : Str → D} {n : Nat} : mt s lf (n + 1) (.tup [.str "not", c]) = !(mt s lf n c) := by
  show (if _ then _ else _) = _
  rw [if_pos rfl]
  rfl
theorem mt_an {s : Str} {cs : List D} {lf : Str → D} {n : Nat} : mt s lf (n + 1) (.tup (.str "and" :: cs)) = cs.all (mt s lf n) := by
  show (if _ then _ else if _ then _ else _) = _
  rw [if_neg (of_eq_false w_and_not), if_pos rfl]
theorem mt_or {s : Str} {cs : List D} {lf : Str → D} {n : Nat} : mt s lf (n + 1) (.tup (.str "or" :: cs)) = cs.any (mt s lf n) := by
  show (if _ then _ else if _ then _ else if _ then _ else _) = _
  rw [if_neg (of_eq_false w_or_not), if_neg (of_eq_false w_or_and), if_pos rfl]
theorem rd_met (A : Ad) (n : Nat) : ∀ ds M Q Xc, sp_met A (n + 1) ds M Q Xc → ds.length = P_met.length ∧ RD (wb_met A n) Q Xc (startD N_met ds) M := by
  rintro _ M Q Xc ⟨fs, ss, s, lf, ks, xs, _, rfl, ⟨w, cs, rfl, hc⟩, hS, q⟩
  refine ⟨rfl, ?_⟩
  rw [st_met]
  have big := sizeLine_big
  cases hc
  all_goals simp only [RD, wb_met, wb_met_c0, w_any_from, w_any_has, w_any_is, w_any_not, w_any_and, w_any_or, w_from_any, w_from_has, w_from_is, w_from_not, w_from_and, w_from_or, w_has_any, w_has_from, w_has_is, w_has_not, w_has_and, w_has_or, w_is_any, w_is_from, w_is_has, w_is_not, w_is_and, w_is_or, w_not_any, w_not_from, w_not_has, w_not_is, w_not_and, w_not_or, w_and_any, w_and_from, w_and_has, w_and_is, w_and_not, w_and_or, w_or_any, w_or_from, w_or_has, w_or_is, w_or_not, w_or_and, or_self, or_true, true_or, or_false, false_or, decide_true, decide_false, ↓pVar, ↓pGet, ↓pC, ↓pOp, ↓pUn, ↓pCB, ↓pNil, ↓pCons, ↓pTest, ↓pBl, ↓pAndT, ↓pOrT, ↓pNotT, ↓pAndV, ↓pOrV, ↓pNotV, ↓pIfE, ↓pTup, ↓pLst, ↓pLstO, ↓pCall, ↓pMeth, ↓pFld, ↓pProp, ↓pMake, ↓pCv, ↓pSl, ↓pNo, ↓pSome, ↓pIntK, ↓pN, ↓pT, ↓pGC, ↓pGN, ↓pIf, ↓pRet, ↓pRetN, ↓pDrop, ↓pAsg, ↓pNx, ↓pBrk, ↓pCnt, ↓pNever, ↓pSub, ↓pAug, ↓pPar, ↓pParK, ↓pBM, ↓pFor, ↓pLc, ↓pLcO, ↓pYes, ↓piSeq, ↓piStr, ↓pStrK, ↓piRng1, ↓pRng1K, ↓piRng2, ↓pRng2K, ↓piEnum, ↓pEnumK, ↓piZip, ↓pZipL, ↓pZipT, ↓pFz, ↓pLenSet, ↓pIsT, ↓rIx_lst, ↓rIx_tup, ↓rIx_ref, ↓rIx_str, ↓rLen_str, ↓rLen_lst, ↓rLen_tup, ↓rLen_ref, ↓rIs_p, ↓rInt_int, ↓rInt_bl, ↓rStr_int, ↓rList_p, ↓rListO_p, ↓rTup_p, ↓rAdd_int, ↓rAdd_str, ↓rAdd_tup, ↓rAdd_lst, ↓rIntD_p, ↓rInt0_p, ↓rEq_int, ↓rEq_str, ↓rEq_bl, ↓rEq_lst, ↓rEq_tup, ↓rIsN_non, ↓rIsN_bl, ↓rIsN_int, ↓rIsN_str, ↓rIsN_tup, ↓rIsN_lst, ↓rNeg_p, ↓rSl_str, ↓rSl_tup, ↓rSl_lst, ↓rSl_scr, ↓rRep_p, ↓pOptK, ↓pChain, ↓pIfT, ↓pCallK, ↓pDzip, ↓pDzipK, ↓pDzipO, ↓pDzipKO, ↓rIsB_bl, ↓rDix_str, ↓rDix_int, ↓rIn_tup, ↓rIn_lst, ↓rEq_ns, ↓rEq_sn, ↓rRepT_p, ↓rAll_f, ↓rAll_t, ↓wSeq_p, ↓seqE_nx, ↓reduceIte, at_0, at_1, at_2, at_3, cut_1, cut_2, dl_0_0, dl_0_1, dl_0_2, dl_0_3, dl_0_4, dl_0_5, dl_1_0, dl_1_1, dl_1_2, dl_1_3, dl_1_4, dl_1_5, dl_2_0, dl_2_1, dl_2_2, dl_2_3, dl_2_4, dl_2_5, dl_3_0, dl_3_1, dl_3_2, dl_3_3, dl_3_4, dl_3_5, dl_4_0, dl_4_1, dl_4_2, dl_4_3, dl_4_4, dl_4_5, dn_1_0, dn_2_0, dn_2_1, dn_3_0, dn_3_1, dn_3_2, dn_4_0, dn_4_1, dn_4_2, dn_4_3, seqE_rt, seqE_bk, seqE_ct, seqE_ex, wipeD, frz_lst, frz_tup, at1_0, at2_0, at2_1, at3_0, at3_1, at3_2, at4_0, at4_1, at4_2, at4_3, at5_0, at5_1, at5_2, at5_3, at5_4, seqOf_put, seqOf_lst, seqOf_tup, insK_same, tyN_non, tyN_bl, tyN_int, tyN_str, tyN_tup, tyN_lst, tyN_dct, List.getElem?_cons_zero, List.getElem?_cons_succ, List.set_cons_zero, List.set_cons_succ, List.length_cons, List.length_nil, isB_NoneType_bool, isB_NoneType_int, isB_NoneType_str, isB_NoneType_tuple, isB_NoneType_list, isB_NoneType_dict, isB_bool_bool, isB_bool_int, isB_bool_str, isB_bool_tuple, isB_bool_list, isB_bool_dict, isB_int_bool, isB_int_int, isB_int_str, isB_int_tuple, isB_int_list, isB_int_dict, isB_str_bool, isB_str_int, isB_str_str, isB_str_tuple, isB_str_list, isB_str_dict, isB_tuple_bool, isB_tuple_int, isB_tuple_str, isB_tuple_tuple, isB_tuple_list, isB_tuple_dict, isB_list_bool, isB_list_int, isB_list_str, isB_list_tuple, isB_list_list, isB_list_dict, isB_dict_bool, isB_dict_int, isB_dict_str, isB_dict_tuple, isB_dict_list, isB_dict_dict, isC_bool, isC_int, isC_str, isC_tuple, isC_list, isC_dict, isA_list_tuple, isQ_NoneType, isQ_bool, isQ_int, isQ_str, isQ_tuple, isQ_list, isQ_dict, true_and, and_true, Bool.not_true, Bool.not_false, Bool.false_eq_true, Bool.true_xor, Bool.false_xor, hS.src]
  case any => rw [mt_any] at q; exact fin_of q
  case frm => rw [mt_frm] at q; exact fin_of q
  case has x h =>
    rw [mt_has] at q
    rw [hS.fld x h]
    rcases hS.wd x h with e | ⟨y, e⟩ <;> rw [e] at q ⊢ <;> simp only [↓pVar, ↓pGet, ↓pC, ↓pOp, ↓pUn, ↓pCB, ↓pNil, ↓pCons, ↓pTest, ↓pBl, ↓pAndT, ↓pOrT, ↓pNotT, ↓pAndV, ↓pOrV, ↓pNotV, ↓pIfE, ↓pTup, ↓pLst, ↓pLstO, ↓pCall, ↓pMeth, ↓pFld, ↓pProp, ↓pMake, ↓pCv, ↓pSl, ↓pNo, ↓pSome, ↓pIntK, ↓pN, ↓pT, ↓pGC, ↓pGN, ↓pIf, ↓pRet, ↓pRetN, ↓pDrop, ↓pAsg, ↓pNx, ↓pBrk, ↓pCnt, ↓pNever, ↓pSub, ↓pAug, ↓pPar, ↓pParK, ↓pBM, ↓pFor, ↓pLc, ↓pLcO, ↓pYes, ↓piSeq, ↓piStr, ↓pStrK, ↓piRng1, ↓pRng1K, ↓piRng2, ↓pRng2K, ↓piEnum, ↓pEnumK, ↓piZip, ↓pZipL, ↓pZipT, ↓pFz, ↓pLenSet, ↓pIsT, ↓rIx_lst, ↓rIx_tup, ↓rIx_ref, ↓rIx_str, ↓rLen_str, ↓rLen_lst, ↓rLen_tup, ↓rLen_ref, ↓rIs_p, ↓rInt_int, ↓rInt_bl, ↓rStr_int, ↓rList_p, ↓rListO_p, ↓rTup_p, ↓rAdd_int, ↓rAdd_str, ↓rAdd_tup, ↓rAdd_lst, ↓rIntD_p, ↓rInt0_p, ↓rEq_int, ↓rEq_str, ↓rEq_bl, ↓rEq_lst, ↓rEq_tup, ↓rIsN_non, ↓rIsN_bl, ↓rIsN_int, ↓rIsN_str, ↓rIsN_tup, ↓rIsN_lst, ↓rNeg_p, ↓rSl_str, ↓rSl_tup, ↓rSl_lst, ↓rSl_scr, ↓rRep_p, ↓pOptK, ↓pChain, ↓pIfT, ↓pCallK, ↓pDzip, ↓pDzipK, ↓pDzipO, ↓pDzipKO, ↓rIsB_bl, ↓rDix_str, ↓rDix_int, ↓rIn_tup, ↓rIn_lst, ↓rEq_ns, ↓rEq_sn, ↓rRepT_p, ↓rAll_f, ↓rAll_t, ↓wSeq_p, ↓seqE_nx, ↓reduceIte, at_0, at_1, at_2, at_3, cut_1, cut_2, dl_0_0, dl_0_1, dl_0_2, dl_0_3, dl_0_4, dl_0_5, dl_1_0, dl_1_1, dl_1_2, dl_1_3, dl_1_4, dl_1_5, dl_2_0, dl_2_1, dl_2_2, dl_2_3, dl_2_4, dl_2_5, dl_3_0, dl_3_1, dl_3_2, dl_3_3, dl_3_4, dl_3_5, dl_4_0, dl_4_1, dl_4_2, dl_4_3, dl_4_4, dl_4_5, dn_1_0, dn_2_0, dn_2_1, dn_3_0, dn_3_1, dn_3_2, dn_4_0, dn_4_1, dn_4_2, dn_4_3, seqE_rt, seqE_bk, seqE_ct, seqE_ex, wipeD, frz_lst, frz_tup, at1_0, at2_0, at2_1, at3_0, at3_1, at3_2, at4_0, at4_1, at4_2, at4_3, at5_0, at5_1, at5_2, at5_3, at5_4, seqOf_put, seqOf_lst, seqOf_tup, insK_same, tyN_non, tyN_bl, tyN_int, tyN_str, tyN_tup, tyN_lst, tyN_dct, List.getElem?_cons_zero, List.getElem?_cons_succ, List.set_cons_zero, List.set_cons_succ, List.length_cons, List.length_nil, isB_NoneType_bool, isB_NoneType_int, isB_NoneType_str, isB_NoneType_tuple, isB_NoneType_list, isB_NoneType_dict, isB_bool_bool, isB_bool_int, isB_bool_str, isB_bool_tuple, isB_bool_list, isB_bool_dict, isB_int_bool, isB_int_int, isB_int_str, isB_int_tuple, isB_int_list, isB_int_dict, isB_str_bool, isB_str_int, isB_str_str, isB_str_tuple, isB_str_list, isB_str_dict, isB_tuple_bool, isB_tuple_int, isB_tuple_str, isB_tuple_tuple, isB_tuple_list, isB_tuple_dict, isB_list_bool, isB_list_int, isB_list_str, isB_list_tuple, isB_list_list, isB_list_dict, isB_dict_bool, isB_dict_int, isB_dict_str, isB_dict_tuple, isB_dict_list, isB_dict_dict, isC_bool, isC_int, isC_str, isC_tuple, isC_list, isC_dict, isA_list_tuple, isQ_NoneType, isQ_bool, isQ_int, isQ_str, isQ_tuple, isQ_list, isQ_dict, true_and, and_true, Bool.not_true, Bool.not_false, Bool.false_eq_true, Bool.true_xor, Bool.false_xor] <;> exact fin_of q
  case is x v h hv =>
    rw [mt_is] at q
    rw [hS.fld x h]
    rcases hS.wd x h with e | ⟨y, e⟩ <;> rw [e] at q ⊢ <;> simp only [↓pVar, ↓pGet, ↓pC, ↓pOp, ↓pUn, ↓pCB, ↓pNil, ↓pCons, ↓pTest, ↓pBl, ↓pAndT, ↓pOrT, ↓pNotT, ↓pAndV, ↓pOrV, ↓pNotV, ↓pIfE, ↓pTup, ↓pLst, ↓pLstO, ↓pCall, ↓pMeth, ↓pFld, ↓pProp, ↓pMake, ↓pCv, ↓pSl, ↓pNo, ↓pSome, ↓pIntK, ↓pN, ↓pT, ↓pGC, ↓pGN, ↓pIf, ↓pRet, ↓pRetN, ↓pDrop, ↓pAsg, ↓pNx, ↓pBrk, ↓pCnt, ↓pNever, ↓pSub, ↓pAug, ↓pPar, ↓pParK, ↓pBM, ↓pFor, ↓pLc, ↓pLcO, ↓pYes, ↓piSeq, ↓piStr, ↓pStrK, ↓piRng1, ↓pRng1K, ↓piRng2, ↓pRng2K, ↓piEnum, ↓pEnumK, ↓piZip, ↓pZipL, ↓pZipT, ↓pFz, ↓pLenSet, ↓pIsT, ↓rIx_lst, ↓rIx_tup, ↓rIx_ref, ↓rIx_str, ↓rLen_str, ↓rLen_lst, ↓rLen_tup, ↓rLen_ref, ↓rIs_p, ↓rInt_int, ↓rInt_bl, ↓rStr_int, ↓rList_p, ↓rListO_p, ↓rTup_p, ↓rAdd_int, ↓rAdd_str, ↓rAdd_tup, ↓rAdd_lst, ↓rIntD_p, ↓rInt0_p, ↓rEq_int, ↓rEq_str, ↓rEq_bl, ↓rEq_lst, ↓rEq_tup, ↓rIsN_non, ↓rIsN_bl, ↓rIsN_int, ↓rIsN_str, ↓rIsN_tup, ↓rIsN_lst, ↓rNeg_p, ↓rSl_str, ↓rSl_tup, ↓rSl_lst, ↓rSl_scr, ↓rRep_p, ↓pOptK, ↓pChain, ↓pIfT, ↓pCallK, ↓pDzip, ↓pDzipK, ↓pDzipO, ↓pDzipKO, ↓rIsB_bl, ↓rDix_str, ↓rDix_int, ↓rIn_tup, ↓rIn_lst, ↓rEq_ns, ↓rEq_sn, ↓rRepT_p, ↓rAll_f, ↓rAll_t, ↓wSeq_p, ↓seqE_nx, ↓reduceIte, at_0, at_1, at_2, at_3, cut_1, cut_2, dl_0_0, dl_0_1, dl_0_2, dl_0_3, dl_0_4, dl_0_5, dl_1_0, dl_1_1, dl_1_2, dl_1_3, dl_1_4, dl_1_5, dl_2_0, dl_2_1, dl_2_2, dl_2_3, dl_2_4, dl_2_5, dl_3_0, dl_3_1, dl_3_2, dl_3_3, dl_3_4, dl_3_5, dl_4_0, dl_4_1, dl_4_2, dl_4_3, dl_4_4, dl_4_5, dn_1_0, dn_2_0, dn_2_1, dn_3_0, dn_3_1, dn_3_2, dn_4_0, dn_4_1, dn_4_2, dn_4_3, seqE_rt, seqE_bk, seqE_ct, seqE_ex, wipeD, frz_lst, frz_tup, at1_0, at2_0, at2_1, at3_0, at3_1, at3_2, at4_0, at4_1, at4_2, at4_3, at5_0, at5_1, at5_2, at5_3, at5_4, seqOf_put, seqOf_lst, seqOf_tup, insK_same, tyN_non, tyN_bl, tyN_int, tyN_str, tyN_tup, tyN_lst, tyN_dct, List.getElem?_cons_zero, List.getElem?_cons_succ, List.set_cons_zero, List.set_cons_succ, List.length_cons, List.length_nil, isB_NoneType_bool, isB_NoneType_int, isB_NoneType_str, isB_NoneType_tuple, isB_NoneType_list, isB_NoneType_dict, isB_bool_bool, isB_bool_int, isB_bool_str, isB_bool_tuple, isB_bool_list, isB_bool_dict, isB_int_bool, isB_int_int, isB_int_str, isB_int_tuple, isB_int_list, isB_int_dict, isB_str_bool, isB_str_int, isB_str_str, isB_str_tuple, isB_str_list, isB_str_dict, isB_tuple_bool, isB_tuple_int, isB_tuple_str, isB_tuple_tuple, isB_tuple_list, isB_tuple_dict, isB_list_bool, isB_list_int, isB_list_str, isB_list_tuple, isB_list_list, isB_list_dict, isB_dict_bool, isB_dict_int, isB_dict_str, isB_dict_tuple, isB_dict_list, isB_dict_dict, isC_bool, isC_int, isC_str, isC_tuple, isC_list, isC_dict, isA_list_tuple, isQ_NoneType, isQ_bool, isQ_int, isQ_str, isQ_tuple, isQ_list, isQ_dict, true_and, and_true, Bool.not_true, Bool.not_false, Bool.false_eq_true, Bool.true_xor, Bool.false_xor]
    · exact ⟨trivial, strOk_of ok36 (made_len hv).2.2, fin_of q⟩
    · exact fin_of q
  case nt c h =>
    rw [mt_not] at q
    exact ⟨fs, ss, s, lf, ks, xs, c, rfl, h, hS, fin_of q⟩
  case an h1 h2 h3 =>
    rw [mt_an] at q
    rw [← List.map_id cs]
    refine lcR_mapL id (fun c => .bl (mt s lf n c)) (fun c => CondD fs ss n c) (fun c acc R hx h => ?_) cs [] h3 (by simp only [List.length_nil]; omega) ?_
    · simp only [↓pVar, ↓pGet, ↓pC, ↓pOp, ↓pUn, ↓pCB, ↓pNil, ↓pCons, ↓pTest, ↓pBl, ↓pAndT, ↓pOrT, ↓pNotT, ↓pAndV, ↓pOrV, ↓pNotV, ↓pIfE, ↓pTup, ↓pLst, ↓pLstO, ↓pCall, ↓pMeth, ↓pFld, ↓pProp, ↓pMake, ↓pCv, ↓pSl, ↓pNo, ↓pSome, ↓pIntK, ↓pN, ↓pT, ↓pGC, ↓pGN, ↓pIf, ↓pRet, ↓pRetN, ↓pDrop, ↓pAsg, ↓pNx, ↓pBrk, ↓pCnt, ↓pNever, ↓pSub, ↓pAug, ↓pPar, ↓pParK, ↓pBM, ↓pFor, ↓pLc, ↓pLcO, ↓pYes, ↓piSeq, ↓piStr, ↓pStrK, ↓piRng1, ↓pRng1K, ↓piRng2, ↓pRng2K, ↓piEnum, ↓pEnumK, ↓piZip, ↓pZipL, ↓pZipT, ↓pFz, ↓pLenSet, ↓pIsT, ↓rIx_lst, ↓rIx_tup, ↓rIx_ref, ↓rIx_str, ↓rLen_str, ↓rLen_lst, ↓rLen_tup, ↓rLen_ref, ↓rIs_p, ↓rInt_int, ↓rInt_bl, ↓rStr_int, ↓rList_p, ↓rListO_p, ↓rTup_p, ↓rAdd_int, ↓rAdd_str, ↓rAdd_tup, ↓rAdd_lst, ↓rIntD_p, ↓rInt0_p, ↓rEq_int, ↓rEq_str, ↓rEq_bl, ↓rEq_lst, ↓rEq_tup, ↓rIsN_non, ↓rIsN_bl, ↓rIsN_int, ↓rIsN_str, ↓rIsN_tup, ↓rIsN_lst, ↓rNeg_p, ↓rSl_str, ↓rSl_tup, ↓rSl_lst, ↓rSl_scr, ↓rRep_p, ↓pOptK, ↓pChain, ↓pIfT, ↓pCallK, ↓pDzip, ↓pDzipK, ↓pDzipO, ↓pDzipKO, ↓rIsB_bl, ↓rDix_str, ↓rDix_int, ↓rIn_tup, ↓rIn_lst, ↓rEq_ns, ↓rEq_sn, ↓rRepT_p, ↓rAll_f, ↓rAll_t, ↓wSeq_p, ↓seqE_nx, ↓reduceIte, at_0, at_1, at_2, at_3, cut_1, cut_2, dl_0_0, dl_0_1, dl_0_2, dl_0_3, dl_0_4, dl_0_5, dl_1_0, dl_1_1, dl_1_2, dl_1_3, dl_1_4, dl_1_5, dl_2_0, dl_2_1, dl_2_2, dl_2_3, dl_2_4, dl_2_5, dl_3_0, dl_3_1, dl_3_2, dl_3_3, dl_3_4, dl_3_5, dl_4_0, dl_4_1, dl_4_2, dl_4_3, dl_4_4, dl_4_5, dn_1_0, dn_2_0, dn_2_1, dn_3_0, dn_3_1, dn_3_2, dn_4_0, dn_4_1, dn_4_2, dn_4_3, seqE_rt, seqE_bk, seqE_ct, seqE_ex, wipeD, frz_lst, frz_tup, at1_0, at2_0, at2_1, at3_0, at3_1, at3_2, at4_0, at4_1, at4_2, at4_3, at5_0, at5_1, at5_2, at5_3, at5_4, seqOf_put, seqOf_lst, seqOf_tup, insK_same, tyN_non, tyN_bl, tyN_int, tyN_str, tyN_tup, tyN_lst, tyN_dct, List.getElem?_cons_zero, List.getElem?_cons_succ, List.set_cons_zero, List.set_cons_succ, List.length_cons, List.length_nil, isB_NoneType_bool, isB_NoneType_int, isB_NoneType_str, isB_NoneType_tuple, isB_NoneType_list, isB_NoneType_dict, isB_bool_bool, isB_bool_int, isB_bool_str, isB_bool_tuple, isB_bool_list, isB_bool_dict, isB_int_bool, isB_int_int, isB_int_str, isB_int_tuple, isB_int_list, isB_int_dict, isB_str_bool, isB_str_int, isB_str_str, isB_str_tuple, isB_str_list, isB_str_dict, isB_tuple_bool, isB_tuple_int, isB_tuple_str, isB_tuple_tuple, isB_tuple_list, isB_tuple_dict, isB_list_bool, isB_list_int, isB_list_str, isB_list_tuple, isB_list_list, isB_list_dict, isB_dict_bool, isB_dict_int, isB_dict_str, isB_dict_tuple, isB_dict_list, isB_dict_dict, isC_bool, isC_int, isC_str, isC_tuple, isC_list, isC_dict, isA_list_tuple, isQ_NoneType, isQ_bool, isQ_int, isQ_str, isQ_tuple, isQ_list, isQ_dict, true_and, and_true, Bool.not_true, Bool.not_false, Bool.false_eq_true, Bool.true_xor, Bool.false_xor, List.map_id]
      exact ⟨fs, ss, s, lf, ks, xs, c, rfl, hx, hS, h⟩
    · rw [List.nil_append]
      simp only [bools_map, ↓pVar, ↓pGet, ↓pC, ↓pOp, ↓pUn, ↓pCB, ↓pNil, ↓pCons, ↓pTest, ↓pBl, ↓pAndT, ↓pOrT, ↓pNotT, ↓pAndV, ↓pOrV, ↓pNotV, ↓pIfE, ↓pTup, ↓pLst, ↓pLstO, ↓pCall, ↓pMeth, ↓pFld, ↓pProp, ↓pMake, ↓pCv, ↓pSl, ↓pNo, ↓pSome, ↓pIntK, ↓pN, ↓pT, ↓pGC, ↓pGN, ↓pIf, ↓pRet, ↓pRetN, ↓pDrop, ↓pAsg, ↓pNx, ↓pBrk, ↓pCnt, ↓pNever, ↓pSub, ↓pAug, ↓pPar, ↓pParK, ↓pBM, ↓pFor, ↓pLc, ↓pLcO, ↓pYes, ↓piSeq, ↓piStr, ↓pStrK, ↓piRng1, ↓pRng1K, ↓piRng2, ↓pRng2K, ↓piEnum, ↓pEnumK, ↓piZip, ↓pZipL, ↓pZipT, ↓pFz, ↓pLenSet, ↓pIsT, ↓rIx_lst, ↓rIx_tup, ↓rIx_ref, ↓rIx_str, ↓rLen_str, ↓rLen_lst, ↓rLen_tup, ↓rLen_ref, ↓rIs_p, ↓rInt_int, ↓rInt_bl, ↓rStr_int, ↓rList_p, ↓rListO_p, ↓rTup_p, ↓rAdd_int, ↓rAdd_str, ↓rAdd_tup, ↓rAdd_lst, ↓rIntD_p, ↓rInt0_p, ↓rEq_int, ↓rEq_str, ↓rEq_bl, ↓rEq_lst, ↓rEq_tup, ↓rIsN_non, ↓rIsN_bl, ↓rIsN_int, ↓rIsN_str, ↓rIsN_tup, ↓rIsN_lst, ↓rNeg_p, ↓rSl_str, ↓rSl_tup, ↓rSl_lst, ↓rSl_scr, ↓rRep_p, ↓pOptK, ↓pChain, ↓pIfT, ↓pCallK, ↓pDzip, ↓pDzipK, ↓pDzipO, ↓pDzipKO, ↓rIsB_bl, ↓rDix_str, ↓rDix_int, ↓rIn_tup, ↓rIn_lst, ↓rEq_ns, ↓rEq_sn, ↓rRepT_p, ↓rAll_f, ↓rAll_t, ↓wSeq_p, ↓seqE_nx, ↓reduceIte, at_0, at_1, at_2, at_3, cut_1, cut_2, dl_0_0, dl_0_1, dl_0_2, dl_0_3, dl_0_4, dl_0_5, dl_1_0, dl_1_1, dl_1_2, dl_1_3, dl_1_4, dl_1_5, dl_2_0, dl_2_1, dl_2_2, dl_2_3, dl_2_4, dl_2_5, dl_3_0, dl_3_1, dl_3_2, dl_3_3, dl_3_4, dl_3_5, dl_4_0, dl_4_1, dl_4_2, dl_4_3, dl_4_4, dl_4_5, dn_1_0, dn_2_0, dn_2_1, dn_3_0, dn_3_1, dn_3_2, dn_4_0, dn_4_1, dn_4_2, dn_4_3, seqE_rt, seqE_bk, seqE_ct, seqE_ex, wipeD, frz_lst, frz_tup, at1_0, at2_0, at2_1, at3_0, at3_1, at3_2, at4_0, at4_1, at4_2, at4_3, at5_0, at5_1, at5_2, at5_3, at5_4, seqOf_put, seqOf_lst, seqOf_tup, insK_same, tyN_non, tyN_bl, tyN_int, tyN_str, tyN_tup, tyN_lst, tyN_dct, List.getElem?_cons_zero, List.getElem?_cons_succ, List.set_cons_zero, List.set_cons_succ, List.length_cons, List.length_nil, isB_NoneType_bool, isB_NoneType_int, isB_NoneType_str, isB_NoneType_tuple, isB_NoneType_list, isB_NoneType_dict, isB_bool_bool, isB_bool_int, isB_bool_str, isB_bool_tuple, isB_bool_list, isB_bool_dict, isB_int_bool, isB_int_int, isB_int_str, isB_int_tuple, isB_int_list, isB_int_dict, isB_str_bool, isB_str_int, isB_str_str, isB_str_tuple, isB_str_list, isB_str_dict, isB_tuple_bool, isB_tuple_int, isB_tuple_str, isB_tuple_tuple, isB_tuple_list, isB_tuple_dict, isB_list_bool, isB_list_int, isB_list_str, isB_list_tuple, isB_list_list, isB_list_dict, isB_dict_bool, isB_dict_int, isB_dict_str, isB_dict_tuple, isB_dict_list, isB_dict_dict, isC_bool, isC_int, isC_str, isC_tuple, isC_list, isC_dict, isA_list_tuple, isQ_NoneType, isQ_bool, isQ_int, isQ_str, isQ_tuple, isQ_list, isQ_dict, true_and, and_true, Bool.not_true, Bool.not_false, Bool.false_eq_true, Bool.true_xor, Bool.false_xor]
      rw [List.all_map]
      exact fin_of q
  case orr h1 h2 h3 =>
    rw [mt_or] at q
    rw [← List.map_id cs]
    refine lcR_mapL id (fun c => .bl (mt s lf n c)) (fun c => CondD fs ss n c) (fun c acc R hx h => ?_) cs [] h3 (by simp only [List.length_nil]; omega) ?_
    · simp only [↓pVar, ↓pGet, ↓pC, ↓pOp, ↓pUn, ↓pCB, ↓pNil, ↓pCons, ↓pTest, ↓pBl, ↓pAndT, ↓pOrT, ↓pNotT, ↓pAndV, ↓pOrV, ↓pNotV, ↓pIfE, ↓pTup, ↓pLst, ↓pLstO, ↓pCall, ↓pMeth, ↓pFld, ↓pProp, ↓pMake, ↓pCv, ↓pSl, ↓pNo, ↓pSome, ↓pIntK, ↓pN, ↓pT, ↓pGC, ↓pGN, ↓pIf, ↓pRet, ↓pRetN, ↓pDrop, ↓pAsg, ↓pNx, ↓pBrk, ↓pCnt, ↓pNever, ↓pSub, ↓pAug, ↓pPar, ↓pParK, ↓pBM, ↓pFor, ↓pLc, ↓pLcO, ↓pYes, ↓piSeq, ↓piStr, ↓pStrK, ↓piRng1, ↓pRng1K, ↓piRng2, ↓pRng2K, ↓piEnum, ↓pEnumK, ↓piZip, ↓pZipL, ↓pZipT, ↓pFz, ↓pLenSet, ↓pIsT, ↓rIx_lst, ↓rIx_tup, ↓rIx_ref, ↓rIx_str, ↓rLen_str, ↓rLen_lst, ↓rLen_tup, ↓rLen_ref, ↓rIs_p, ↓rInt_int, ↓rInt_bl, ↓rStr_int, ↓rList_p, ↓rListO_p, ↓rTup_p, ↓rAdd_int, ↓rAdd_str, ↓rAdd_tup, ↓rAdd_lst, ↓rIntD_p, ↓rInt0_p, ↓rEq_int, ↓rEq_str, ↓rEq_bl, ↓rEq_lst, ↓rEq_tup, ↓rIsN_non, ↓rIsN_bl, ↓rIsN_int, ↓rIsN_str, ↓rIsN_tup, ↓rIsN_lst, ↓rNeg_p, ↓rSl_str, ↓rSl_tup, ↓rSl_lst, ↓rSl_scr, ↓rRep_p, ↓pOptK, ↓pChain, ↓pIfT, ↓pCallK, ↓pDzip, ↓pDzipK, ↓pDzipO, ↓pDzipKO, ↓rIsB_bl, ↓rDix_str, ↓rDix_int, ↓rIn_tup, ↓rIn_lst, ↓rEq_ns, ↓rEq_sn, ↓rRepT_p, ↓rAll_f, ↓rAll_t, ↓wSeq_p, ↓seqE_nx, ↓reduceIte, at_0, at_1, at_2, at_3, cut_1, cut_2, dl_0_0, dl_0_1, dl_0_2, dl_0_3, dl_0_4, dl_0_5, dl_1_0, dl_1_1, dl_1_2, dl_1_3, dl_1_4, dl_1_5, dl_2_0, dl_2_1, dl_2_2, dl_2_3, dl_2_4, dl_2_5, dl_3_0, dl_3_1, dl_3_2, dl_3_3, dl_3_4, dl_3_5, dl_4_0, dl_4_1, dl_4_2, dl_4_3, dl_4_4, dl_4_5, dn_1_0, dn_2_0, dn_2_1, dn_3_0, dn_3_1, dn_3_2, dn_4_0, dn_4_1, dn_4_2, dn_4_3, seqE_rt, seqE_bk, seqE_ct, seqE_ex, wipeD, frz_lst, frz_tup, at1_0, at2_0, at2_1, at3_0, at3_1, at3_2, at4_0, at4_1, at4_2, at4_3, at5_0, at5_1, at5_2, at5_3, at5_4, seqOf_put, seqOf_lst, seqOf_tup, insK_same, tyN_non, tyN_bl, tyN_int, tyN_str, tyN_tup, tyN_lst, tyN_dct, List.getElem?_cons_zero, List.getElem?_cons_succ, List.set_cons_zero, List.set_cons_succ, List.length_cons, List.length_nil, isB_NoneType_bool, isB_NoneType_int, isB_NoneType_str, isB_NoneType_tuple, isB_NoneType_list, isB_NoneType_dict, isB_bool_bool, isB_bool_int, isB_bool_str, isB_bool_tuple, isB_bool_list, isB_bool_dict, isB_int_bool, isB_int_int, isB_int_str, isB_int_tuple, isB_int_list, isB_int_dict, isB_str_bool, isB_str_int, isB_str_str, isB_str_tuple, isB_str_list, isB_str_dict, isB_tuple_bool, isB_tuple_int, isB_tuple_str, isB_tuple_tuple, isB_tuple_list, isB_tuple_dict, isB_list_bool, isB_list_int, isB_list_str, isB_list_tuple, isB_list_list, isB_list_dict, isB_dict_bool, isB_dict_int, isB_dict_str, isB_dict_tuple, isB_dict_list, isB_dict_dict, isC_bool, isC_int, isC_str, isC_tuple, isC_list, isC_dict, isA_list_tuple, isQ_NoneType, isQ_bool, isQ_int, isQ_str, isQ_tuple, isQ_list, isQ_dict, true_and, and_true, Bool.not_true, Bool.not_false, Bool.false_eq_true, Bool.true_xor, Bool.false_xor, List.map_id]
      exact ⟨fs, ss, s, lf, ks, xs, c, rfl, hx, hS, h⟩
    · rw [List.nil_append]
      simp only [bools_map, ↓pVar, ↓pGet, ↓pC, ↓pOp, ↓pUn, ↓pCB, ↓pNil, ↓pCons, ↓pTest, ↓pBl, ↓pAndT, ↓pOrT, ↓pNotT, ↓pAndV, ↓pOrV, ↓pNotV, ↓pIfE, ↓pTup, ↓pLst, ↓pLstO, ↓pCall, ↓pMeth, ↓pFld, ↓pProp, ↓pMake, ↓pCv, ↓pSl, ↓pNo, ↓pSome, ↓pIntK, ↓pN, ↓pT, ↓pGC, ↓pGN, ↓pIf, ↓pRet, ↓pRetN, ↓pDrop, ↓pAsg, ↓pNx, ↓pBrk, ↓pCnt, ↓pNever, ↓pSub, ↓pAug, ↓pPar, ↓pParK, ↓pBM, ↓pFor, ↓pLc, ↓pLcO, ↓pYes, ↓piSeq, ↓piStr, ↓pStrK, ↓piRng1, ↓pRng1K, ↓piRng2, ↓pRng2K, ↓piEnum, ↓pEnumK, ↓piZip, ↓pZipL, ↓pZipT, ↓pFz, ↓pLenSet, ↓pIsT, ↓rIx_lst, ↓rIx_tup, ↓rIx_ref, ↓rIx_str, ↓rLen_str, ↓rLen_lst, ↓rLen_tup, ↓rLen_ref, ↓rIs_p, ↓rInt_int, ↓rInt_bl, ↓rStr_int, ↓rList_p, ↓rListO_p, ↓rTup_p, ↓rAdd_int, ↓rAdd_str, ↓rAdd_tup, ↓rAdd_lst, ↓rIntD_p, ↓rInt0_p, ↓rEq_int, ↓rEq_str, ↓rEq_bl, ↓rEq_lst, ↓rEq_tup, ↓rIsN_non, ↓rIsN_bl, ↓rIsN_int, ↓rIsN_str, ↓rIsN_tup, ↓rIsN_lst, ↓rNeg_p, ↓rSl_str, ↓rSl_tup, ↓rSl_lst, ↓rSl_scr, ↓rRep_p, ↓pOptK, ↓pChain, ↓pIfT, ↓pCallK, ↓pDzip, ↓pDzipK, ↓pDzipO, ↓pDzipKO, ↓rIsB_bl, ↓rDix_str, ↓rDix_int, ↓rIn_tup, ↓rIn_lst, ↓rEq_ns, ↓rEq_sn, ↓rRepT_p, ↓rAll_f, ↓rAll_t, ↓wSeq_p, ↓seqE_nx, ↓reduceIte, at_0, at_1, at_2, at_3, cut_1, cut_2, dl_0_0, dl_0_1, dl_0_2, dl_0_3, dl_0_4, dl_0_5, dl_1_0, dl_1_1, dl_1_2, dl_1_3, dl_1_4, dl_1_5, dl_2_0, dl_2_1, dl_2_2, dl_2_3, dl_2_4, dl_2_5, dl_3_0, dl_3_1, dl_3_2, dl_3_3, dl_3_4, dl_3_5, dl_4_0, dl_4_1, dl_4_2, dl_4_3, dl_4_4, dl_4_5, dn_1_0, dn_2_0, dn_2_1, dn_3_0, dn_3_1, dn_3_2, dn_4_0, dn_4_1, dn_4_2, dn_4_3, seqE_rt, seqE_bk, seqE_ct, seqE_ex, wipeD, frz_lst, frz_tup, at1_0, at2_0, at2_1, at3_0, at3_1, at3_2, at4_0, at4_1, at4_2, at4_3, at5_0, at5_1, at5_2, at5_3, at5_4, seqOf_put, seqOf_lst, seqOf_tup, insK_same, tyN_non, tyN_bl, tyN_int, tyN_str, tyN_tup, tyN_lst, tyN_dct, List.getElem?_cons_zero, List.getElem?_cons_succ, List.set_cons_zero, List.set_cons_succ, List.length_cons, List.length_nil, isB_NoneType_bool, isB_NoneType_int, isB_NoneType_str, isB_NoneType_tuple, isB_NoneType_list, isB_NoneType_dict, isB_bool_bool, isB_bool_int, isB_bool_str, isB_bool_tuple, isB_bool_list, isB_bool_dict, isB_int_bool, isB_int_int, isB_int_str, isB_int_tuple, isB_int_list, isB_int_dict, isB_str_bool, isB_str_int, isB_str_str, isB_str_tuple, isB_str_list, isB_str_dict, isB_tuple_bool, isB_tuple_int, isB_tuple_str, isB_tuple_tuple, isB_tuple_list, isB_tuple_dict, isB_list_bool, isB_list_int, isB_list_str, isB_list_tuple, isB_list_list, isB_list_dict, isB_dict_bool, isB_dict_int, isB_dict_str, isB_dict_tuple, isB_dict_list, isB_dict_dict, isC_bool, isC_int, isC_str, isC_tuple, isC_list, isC_dict, isA_list_tuple, isQ_NoneType, isQ_bool, isQ_int, isQ_str, isQ_tuple, isQ_list, isQ_dict, true_and, and_true, Bool.not_true, Bool.not_false, Bool.false_eq_true, Bool.true_xor, Bool.false_xor]
      rw [List.any_map]
      exact fin_of q
theorem ok_met {P : Program} {w : World} {K : PySem.W.Frag} {mg : Str → Option Value} {base : Heap} {A : Ad} (T : Txt K mg A) : ∀ n, FnJ P w K mg base (1 + n) A.f_met (sp_met A n)
  | 0 => FnJ.mkAt (k := 0) (wb := wNever) T.d_met sc_met (fun cdv R outer s H E hr tk => jss_never) (fun _ _ _ _ ⟨_, _, _, _, _, _, _, _, h, _⟩ => h.elim)
  | n + 1 => FnJ.mkAt (k := 1 + n) T.d_met sc_met (fun cdv R outer s H E hr tk => bd_met T n (ok_met T n) cdv R outer s H E hr tk) (rd_met A n)
/-- a row's fields -/
def fldOf (fs : List Str) (vs : List D) (x : Str) : D := (valD (fs.map Sum.inr) vs (.inr x)).getD .non
theorem val_fld : ∀ {fs : List Str} {vs : List D} {x : Str}, x ∈ fs → vs.length = fs.length → valD (fs.map Sum.inr) vs (.inr x) = some (fldOf fs vs x) ∧ fldOf fs vs x ∈ vs
  | [], _, _, h, _ => nomatch h
  | f :: fs, [], x, h, hl => nomatch hl
  | f :: fs, v :: vs, x, h, hl => by
    rw [List.length_cons, List.length_cons] at hl
    unfold fldOf
    show (if (Sum.inr f : Key) = Sum.inr x then some v else valD (fs.map Sum.inr) vs (.inr x)) = some ((if (Sum.inr f : Key) = Sum.inr x then some v else valD (fs.map Sum.inr) vs (.inr x)).getD .non) ∧ (if (Sum.inr f : Key) = Sum.inr x then some v else valD (fs.map Sum.inr) vs (.inr x)).getD .non ∈ v :: vs
    by_cases e : f = x
    · subst e
      rw [if_pos rfl]
      exact ⟨rfl, List.mem_cons_self⟩
    · have e2 : ¬ (Sum.inr f : Key) = Sum.inr x := fun z => e (Sum.inr.inj z)
      have hx : x ∈ fs := by
        rcases List.mem_cons.mp h with h | h
        · exact absurd h.symm e
        · exact h
      obtain ⟨h1, h2⟩ := val_fld hx (by omega : vs.length = fs.length)
      rw [if_neg e2, h1]
      exact ⟨rfl, List.mem_cons_of_mem _ h2⟩
theorem inr_ne {x y : Str} (h : x ≠ y) : ¬ (Sum.inr x : Key) = Sum.inr y := fun z => h (Sum.inr.inj z)
theorem val_skip {k j : Key} {ks : List Key} {x : D} {xs : List D} (h : ¬ j = k) : valD (j :: ks) (x :: xs) k = valD ks xs k := if_neg h
theorem sht_prog {fs : List Str} {m : Int} {s : Str} {vs : List D} (ho : OwnOk fs) (hl : vs.length = fs.length) (hv : ∀ v ∈ vs, Wd v) : Sht fs s (fldOf fs vs) ((cols fs).map Sum.inr) (.int m :: .str s :: vs) where
  src := by
    show valD (.inr "moment" :: .inr "source" :: fs.map Sum.inr) _ _ = _
    rw [val_skip (inr_ne (by decide +kernel))]
    exact if_pos rfl
  fld := fun f hf => by
    show valD (.inr "moment" :: .inr "source" :: fs.map Sum.inr) _ _ = _
    have h1 : ("moment" : Str) ≠ f := fun e => by subst e; exact ho.m hf
    have h2 : ("source" : Str) ≠ f := fun e => by subst e; exact ho.s hf
    rw [val_skip (inr_ne h1), val_skip (inr_ne h2)]
    exact (val_fld hf hl).1
  wd := fun f hf => by
    rcases hv _ (val_fld hf hl).2 with h | ⟨w, h, _⟩
    · exact .inl h
    · exact .inr ⟨w, h⟩
def sp_holds (A : Ad) : SpD := fun ds M Q _ => ∃ (fs ss : List Str) (c : D) (m : Int) (s : Str) (vs : List D), ds = [shp A fs ss, c, rowD m s vs] ∧ NamesOk fs ∧ NamesOk ss ∧ OwnOk fs ∧ CondD fs ss 8 c ∧ RowAt fs.length ss m (rowD m s vs) ∧ Q (.bl (mt s (fldOf fs vs) 8 c)) M
def wb_holds (A : Ad) : WS :=
  (wSeq (wDrop (wCall (sp_check_condition A) (wCons (wVar 0) (wCons (wVar 1) wNil))))
  (wRet (wCall (sp_met A 8) (wCons (wVar 1) (wCons (wMeth A.c_Shape ns_Shape (sp_Shape_sheet A) (wVar 0) (wCons (wVar 2) wNil)) wNil)))))
theorem bd_holds {P : Program} {w : World} {K : PySem.W.Frag} {mg : Str → Option Value} {base : Heap} {A : Ad} (T : Txt K mg A) (cdv : Value) (R : Around) (outer : List Env) (s : Shared) (H : Hp) (E : XK) (hr : Room 14 (R.deeper (envOfC "holds" (defScope s_holds) s.heap.objs.size A.f_holds cdv)))
    (tk : Takes (cxOf (L2.CX P w) P w K mg base N_holds "holds" (defScope s_holds) A.f_holds cdv R outer s H E) (WD E)) : JSs (cxOf (L2.CX P w) P w K mg base N_holds "holds" (defScope s_holds) A.f_holds cdv R outer s H E) (WD E) (defBody s_holds) (wb_holds A) :=
  (js_cons (js_expr (j_call (ok_check_condition T) hr (by decide) T.g_check_condition tk (j_cons (jv 0) (j_cons (jv 1) j_nil))))
  (js_one (js_ret (j_call (ok_met T 8) hr (by decide) T.g_met tk (j_cons (jv 1) (j_cons (j_meth (C := A.c_Shape) (ns := ns_Shape) (jv 0) T.cl_Shape T.m_Shape_sheet (by decide +kernel) (ok_Shape_sheet T) hr (by decide) tk (j_cons (jv 2) j_nil)) j_nil))))))
theorem rd_holds (A : Ad) : ∀ ds M Q Xc, sp_holds A ds M Q Xc → ds.length = P_holds.length ∧ RD (wb_holds A) Q Xc (startD N_holds ds) M := by
  rintro _ M Q Xc ⟨fs, ss, c, m, s, vs, rfl, hf, hs, ho, hc, hr, q⟩
  refine ⟨rfl, ?_⟩
  rw [st_holds]
  have f5 := hf.hi
  have hn := hr.nc hs (by omega)
  have hi := hr.is
  obtain ⟨s', vs', e, r1, r2, r3⟩ := hr.ex
  cases e
  simp only [RD, wb_holds, ↓pVar, ↓pGet, ↓pC, ↓pOp, ↓pUn, ↓pCB, ↓pNil, ↓pCons, ↓pTest, ↓pBl, ↓pAndT, ↓pOrT, ↓pNotT, ↓pAndV, ↓pOrV, ↓pNotV, ↓pIfE, ↓pTup, ↓pLst, ↓pLstO, ↓pCall, ↓pMeth, ↓pFld, ↓pProp, ↓pMake, ↓pCv, ↓pSl, ↓pNo, ↓pSome, ↓pIntK, ↓pN, ↓pT, ↓pGC, ↓pGN, ↓pIf, ↓pRet, ↓pRetN, ↓pDrop, ↓pAsg, ↓pNx, ↓pBrk, ↓pCnt, ↓pNever, ↓pSub, ↓pAug, ↓pPar, ↓pParK, ↓pBM, ↓pFor, ↓pLc, ↓pLcO, ↓pYes, ↓piSeq, ↓piStr, ↓pStrK, ↓piRng1, ↓pRng1K, ↓piRng2, ↓pRng2K, ↓piEnum, ↓pEnumK, ↓piZip, ↓pZipL, ↓pZipT, ↓pFz, ↓pLenSet, ↓pIsT, ↓rIx_lst, ↓rIx_tup, ↓rIx_ref, ↓rIx_str, ↓rLen_str, ↓rLen_lst, ↓rLen_tup, ↓rLen_ref, ↓rIs_p, ↓rInt_int, ↓rInt_bl, ↓rStr_int, ↓rList_p, ↓rListO_p, ↓rTup_p, ↓rAdd_int, ↓rAdd_str, ↓rAdd_tup, ↓rAdd_lst, ↓rIntD_p, ↓rInt0_p, ↓rEq_int, ↓rEq_str, ↓rEq_bl, ↓rEq_lst, ↓rEq_tup, ↓rIsN_non, ↓rIsN_bl, ↓rIsN_int, ↓rIsN_str, ↓rIsN_tup, ↓rIsN_lst, ↓rNeg_p, ↓rSl_str, ↓rSl_tup, ↓rSl_lst, ↓rSl_scr, ↓rRep_p, ↓pOptK, ↓pChain, ↓pIfT, ↓pCallK, ↓pDzip, ↓pDzipK, ↓pDzipO, ↓pDzipKO, ↓rIsB_bl, ↓rDix_str, ↓rDix_int, ↓rIn_tup, ↓rIn_lst, ↓rEq_ns, ↓rEq_sn, ↓rRepT_p, ↓rAll_f, ↓rAll_t, ↓wSeq_p, ↓seqE_nx, ↓reduceIte, at_0, at_1, at_2, at_3, cut_1, cut_2, dl_0_0, dl_0_1, dl_0_2, dl_0_3, dl_0_4, dl_0_5, dl_1_0, dl_1_1, dl_1_2, dl_1_3, dl_1_4, dl_1_5, dl_2_0, dl_2_1, dl_2_2, dl_2_3, dl_2_4, dl_2_5, dl_3_0, dl_3_1, dl_3_2, dl_3_3, dl_3_4, dl_3_5, dl_4_0, dl_4_1, dl_4_2, dl_4_3, dl_4_4, dl_4_5, dn_1_0, dn_2_0, dn_2_1, dn_3_0, dn_3_1, dn_3_2, dn_4_0, dn_4_1, dn_4_2, dn_4_3, seqE_rt, seqE_bk, seqE_ct, seqE_ex, wipeD, frz_lst, frz_tup, at1_0, at2_0, at2_1, at3_0, at3_1, at3_2, at4_0, at4_1, at4_2, at4_3, at5_0, at5_1, at5_2, at5_3, at5_4, seqOf_put, seqOf_lst, seqOf_tup, insK_same, tyN_non, tyN_bl, tyN_int, tyN_str, tyN_tup, tyN_lst, tyN_dct, List.getElem?_cons_zero, List.getElem?_cons_succ, List.set_cons_zero, List.set_cons_succ, List.length_cons, List.length_nil, isB_NoneType_bool, isB_NoneType_int, isB_NoneType_str, isB_NoneType_tuple, isB_NoneType_list, isB_NoneType_dict, isB_bool_bool, isB_bool_int, isB_bool_str, isB_bool_tuple, isB_bool_list, isB_bool_dict, isB_int_bool, isB_int_int, isB_int_str, isB_int_tuple, isB_int_list, isB_int_dict, isB_str_bool, isB_str_int, isB_str_str, isB_str_tuple, isB_str_list, isB_str_dict, isB_tuple_bool, isB_tuple_int, isB_tuple_str, isB_tuple_tuple, isB_tuple_list, isB_tuple_dict, isB_list_bool, isB_list_int, isB_list_str, isB_list_tuple, isB_list_list, isB_list_dict, isB_dict_bool, isB_dict_int, isB_dict_str, isB_dict_tuple, isB_dict_list, isB_dict_dict, isC_bool, isC_int, isC_str, isC_tuple, isC_list, isC_dict, isA_list_tuple, isQ_NoneType, isQ_bool, isQ_int, isQ_str, isQ_tuple, isQ_list, isQ_dict, true_and, and_true, Bool.not_true, Bool.not_false, Bool.false_eq_true, Bool.true_xor, Bool.false_xor]
  refine ⟨fs, ss, c, rfl, hc, hf, hs, ?_⟩
  simp only [shp, ↓pVar, ↓pGet, ↓pC, ↓pOp, ↓pUn, ↓pCB, ↓pNil, ↓pCons, ↓pTest, ↓pBl, ↓pAndT, ↓pOrT, ↓pNotT, ↓pAndV, ↓pOrV, ↓pNotV, ↓pIfE, ↓pTup, ↓pLst, ↓pLstO, ↓pCall, ↓pMeth, ↓pFld, ↓pProp, ↓pMake, ↓pCv, ↓pSl, ↓pNo, ↓pSome, ↓pIntK, ↓pN, ↓pT, ↓pGC, ↓pGN, ↓pIf, ↓pRet, ↓pRetN, ↓pDrop, ↓pAsg, ↓pNx, ↓pBrk, ↓pCnt, ↓pNever, ↓pSub, ↓pAug, ↓pPar, ↓pParK, ↓pBM, ↓pFor, ↓pLc, ↓pLcO, ↓pYes, ↓piSeq, ↓piStr, ↓pStrK, ↓piRng1, ↓pRng1K, ↓piRng2, ↓pRng2K, ↓piEnum, ↓pEnumK, ↓piZip, ↓pZipL, ↓pZipT, ↓pFz, ↓pLenSet, ↓pIsT, ↓rIx_lst, ↓rIx_tup, ↓rIx_ref, ↓rIx_str, ↓rLen_str, ↓rLen_lst, ↓rLen_tup, ↓rLen_ref, ↓rIs_p, ↓rInt_int, ↓rInt_bl, ↓rStr_int, ↓rList_p, ↓rListO_p, ↓rTup_p, ↓rAdd_int, ↓rAdd_str, ↓rAdd_tup, ↓rAdd_lst, ↓rIntD_p, ↓rInt0_p, ↓rEq_int, ↓rEq_str, ↓rEq_bl, ↓rEq_lst, ↓rEq_tup, ↓rIsN_non, ↓rIsN_bl, ↓rIsN_int, ↓rIsN_str, ↓rIsN_tup, ↓rIsN_lst, ↓rNeg_p, ↓rSl_str, ↓rSl_tup, ↓rSl_lst, ↓rSl_scr, ↓rRep_p, ↓pOptK, ↓pChain, ↓pIfT, ↓pCallK, ↓pDzip, ↓pDzipK, ↓pDzipO, ↓pDzipKO, ↓rIsB_bl, ↓rDix_str, ↓rDix_int, ↓rIn_tup, ↓rIn_lst, ↓rEq_ns, ↓rEq_sn, ↓rRepT_p, ↓rAll_f, ↓rAll_t, ↓wSeq_p, ↓seqE_nx, ↓reduceIte, at_0, at_1, at_2, at_3, cut_1, cut_2, dl_0_0, dl_0_1, dl_0_2, dl_0_3, dl_0_4, dl_0_5, dl_1_0, dl_1_1, dl_1_2, dl_1_3, dl_1_4, dl_1_5, dl_2_0, dl_2_1, dl_2_2, dl_2_3, dl_2_4, dl_2_5, dl_3_0, dl_3_1, dl_3_2, dl_3_3, dl_3_4, dl_3_5, dl_4_0, dl_4_1, dl_4_2, dl_4_3, dl_4_4, dl_4_5, dn_1_0, dn_2_0, dn_2_1, dn_3_0, dn_3_1, dn_3_2, dn_4_0, dn_4_1, dn_4_2, dn_4_3, seqE_rt, seqE_bk, seqE_ct, seqE_ex, wipeD, frz_lst, frz_tup, at1_0, at2_0, at2_1, at3_0, at3_1, at3_2, at4_0, at4_1, at4_2, at4_3, at5_0, at5_1, at5_2, at5_3, at5_4, seqOf_put, seqOf_lst, seqOf_tup, insK_same, tyN_non, tyN_bl, tyN_int, tyN_str, tyN_tup, tyN_lst, tyN_dct, List.getElem?_cons_zero, List.getElem?_cons_succ, List.set_cons_zero, List.set_cons_succ, List.length_cons, List.length_nil, isB_NoneType_bool, isB_NoneType_int, isB_NoneType_str, isB_NoneType_tuple, isB_NoneType_list, isB_NoneType_dict, isB_bool_bool, isB_bool_int, isB_bool_str, isB_bool_tuple, isB_bool_list, isB_bool_dict, isB_int_bool, isB_int_int, isB_int_str, isB_int_tuple, isB_int_list, isB_int_dict, isB_str_bool, isB_str_int, isB_str_str, isB_str_tuple, isB_str_list, isB_str_dict, isB_tuple_bool, isB_tuple_int, isB_tuple_str, isB_tuple_tuple, isB_tuple_list, isB_tuple_dict, isB_list_bool, isB_list_int, isB_list_str, isB_list_tuple, isB_list_list, isB_list_dict, isB_dict_bool, isB_dict_int, isB_dict_str, isB_dict_tuple, isB_dict_list, isB_dict_dict, isC_bool, isC_int, isC_str, isC_tuple, isC_list, isC_dict, isA_list_tuple, isQ_NoneType, isQ_bool, isQ_int, isQ_str, isQ_tuple, isQ_list, isQ_dict, true_and, and_true, Bool.not_true, Bool.not_false, Bool.false_eq_true, Bool.true_xor, Bool.false_xor]
  refine ⟨fs, ss, m, s, vs, rfl, hf, ho, Nc.mono _ _ _ (by decide) hn, hi, r2, ?_⟩
  exact ⟨fs, ss, s, fldOf fs vs, _, _, c, rfl, hc, sht_prog ho r2 r3, fin_of q⟩
theorem ok_holds {P : Program} {w : World} {K : PySem.W.Frag} {mg : Str → Option Value} {base : Heap} {A : Ad} (T : Txt K mg A) : FnJ P w K mg base 15 A.f_holds (sp_holds A) :=
  FnJ.mkAt T.d_holds sc_holds (fun cdv R outer s H E hr tk => bd_holds T cdv R outer s H E hr tk) (rd_holds A)
theorem okk_holds_row_condition {P : Program} {w : World} {K : PySem.W.Frag} {mg : Str → Option Value} {base : Heap} {A : Ad} (T : Txt K mg A) : FnJK P w K mg base 15 A.f_holds (sp_holds A) ["row", "condition"] 1 2 [0, 2, 1] :=
  FnJK.mkAt T.d_holds sc_holds (by decide) (fun kV doc pm an cdv ct us ws h1 h2 => match us, ws, h1, h2 with | [_], [_, _], _, _ => rfl) (fun cdv R outer s H E hr tk => bd_holds T cdv R outer s H E hr tk) (rd_holds A)

end DL.K09
namespace DL.K09
open PySem PySem.Spec PyProof.Rows L2 RZ
/-! ### the law's own conditions -/
def sp__law_columns (A : Ad) : SpD := fun ds M Q _ => ∃ fs ss ws, ds = [grD fs ss ws] ∧ fs.length < 3000 ∧ Q (.lst ((cols fs).map D.str)) M
def wb__law_columns (A : Ad) : WS :=
  (wRet (wOp rAddD (wLst (wCons (wC (.str "moment")) (wCons (wC (.str "source")) wNil))) (wOp rIxD (wVar 0) (wC (.int 0)))))
theorem bd__law_columns {P : Program} {w : World} {K : PySem.W.Frag} {mg : Str → Option Value} {base : Heap} {A : Ad} (T : Txt K mg A) (cdv : Value) (R : Around) (outer : List Env) (s : Shared) (H : Hp) (E : XK) (hr : Room 0 (R.deeper (envOfC "_law_columns" (defScope s__law_columns) s.heap.objs.size A.f__law_columns cdv)))
    (tk : Takes (cxOf (L2.CX P w) P w K mg base N__law_columns "_law_columns" (defScope s__law_columns) A.f__law_columns cdv R outer s H E) (WD E)) : JSs (cxOf (L2.CX P w) P w K mg base N__law_columns "_law_columns" (defScope s__law_columns) A.f__law_columns cdv R outer s H E) (WD E) (defBody s__law_columns) (wb__law_columns A) :=
  (js_one (js_ret (j_op od_add (j_lst (j_cons j_str (j_cons j_str j_nil))) (j_ix id_ix (jv 0) j_int))))
theorem rd__law_columns (A : Ad) : ∀ ds M Q Xc, sp__law_columns A ds M Q Xc → ds.length = P__law_columns.length ∧ RD (wb__law_columns A) Q Xc (startD N__law_columns ds) M := by
  rintro _ M Q Xc ⟨fs, ss, ws, rfl, hl, q⟩
  refine ⟨rfl, ?_⟩
  rw [st__law_columns]
  have big := sizeLine_big
  simp only [RD, wb__law_columns, ↓pVar, ↓pGet, ↓pC, ↓pOp, ↓pUn, ↓pCB, ↓pNil, ↓pCons, ↓pTest, ↓pBl, ↓pAndT, ↓pOrT, ↓pNotT, ↓pAndV, ↓pOrV, ↓pNotV, ↓pIfE, ↓pTup, ↓pLst, ↓pLstO, ↓pCall, ↓pMeth, ↓pFld, ↓pProp, ↓pMake, ↓pCv, ↓pSl, ↓pNo, ↓pSome, ↓pIntK, ↓pN, ↓pT, ↓pGC, ↓pGN, ↓pIf, ↓pRet, ↓pRetN, ↓pDrop, ↓pAsg, ↓pNx, ↓pBrk, ↓pCnt, ↓pNever, ↓pSub, ↓pAug, ↓pPar, ↓pParK, ↓pBM, ↓pFor, ↓pLc, ↓pLcO, ↓pYes, ↓piSeq, ↓piStr, ↓pStrK, ↓piRng1, ↓pRng1K, ↓piRng2, ↓pRng2K, ↓piEnum, ↓pEnumK, ↓piZip, ↓pZipL, ↓pZipT, ↓pFz, ↓pLenSet, ↓pIsT, ↓rIx_lst, ↓rIx_tup, ↓rIx_ref, ↓rIx_str, ↓rLen_str, ↓rLen_lst, ↓rLen_tup, ↓rLen_ref, ↓rIs_p, ↓rInt_int, ↓rInt_bl, ↓rStr_int, ↓rList_p, ↓rListO_p, ↓rTup_p, ↓rAdd_int, ↓rAdd_str, ↓rAdd_tup, ↓rAdd_lst, ↓rIntD_p, ↓rInt0_p, ↓rEq_int, ↓rEq_str, ↓rEq_bl, ↓rEq_lst, ↓rEq_tup, ↓rIsN_non, ↓rIsN_bl, ↓rIsN_int, ↓rIsN_str, ↓rIsN_tup, ↓rIsN_lst, ↓rNeg_p, ↓rSl_str, ↓rSl_tup, ↓rSl_lst, ↓rSl_scr, ↓rRep_p, ↓pOptK, ↓pChain, ↓pIfT, ↓pCallK, ↓pDzip, ↓pDzipK, ↓pDzipO, ↓pDzipKO, ↓rIsB_bl, ↓rDix_str, ↓rDix_int, ↓rIn_tup, ↓rIn_lst, ↓rEq_ns, ↓rEq_sn, ↓rRepT_p, ↓rAll_f, ↓rAll_t, ↓wSeq_p, ↓seqE_nx, ↓reduceIte, at_0, at_1, at_2, at_3, cut_1, cut_2, dl_0_0, dl_0_1, dl_0_2, dl_0_3, dl_0_4, dl_0_5, dl_1_0, dl_1_1, dl_1_2, dl_1_3, dl_1_4, dl_1_5, dl_2_0, dl_2_1, dl_2_2, dl_2_3, dl_2_4, dl_2_5, dl_3_0, dl_3_1, dl_3_2, dl_3_3, dl_3_4, dl_3_5, dl_4_0, dl_4_1, dl_4_2, dl_4_3, dl_4_4, dl_4_5, dn_1_0, dn_2_0, dn_2_1, dn_3_0, dn_3_1, dn_3_2, dn_4_0, dn_4_1, dn_4_2, dn_4_3, seqE_rt, seqE_bk, seqE_ct, seqE_ex, wipeD, frz_lst, frz_tup, at1_0, at2_0, at2_1, at3_0, at3_1, at3_2, at4_0, at4_1, at4_2, at4_3, at5_0, at5_1, at5_2, at5_3, at5_4, seqOf_put, seqOf_lst, seqOf_tup, insK_same, tyN_non, tyN_bl, tyN_int, tyN_str, tyN_tup, tyN_lst, tyN_dct, List.getElem?_cons_zero, List.getElem?_cons_succ, List.set_cons_zero, List.set_cons_succ, List.length_cons, List.length_nil, isB_NoneType_bool, isB_NoneType_int, isB_NoneType_str, isB_NoneType_tuple, isB_NoneType_list, isB_NoneType_dict, isB_bool_bool, isB_bool_int, isB_bool_str, isB_bool_tuple, isB_bool_list, isB_bool_dict, isB_int_bool, isB_int_int, isB_int_str, isB_int_tuple, isB_int_list, isB_int_dict, isB_str_bool, isB_str_int, isB_str_str, isB_str_tuple, isB_str_list, isB_str_dict, isB_tuple_bool, isB_tuple_int, isB_tuple_str, isB_tuple_tuple, isB_tuple_list, isB_tuple_dict, isB_list_bool, isB_list_int, isB_list_str, isB_list_tuple, isB_list_list, isB_list_dict, isB_dict_bool, isB_dict_int, isB_dict_str, isB_dict_tuple, isB_dict_list, isB_dict_dict, isC_bool, isC_int, isC_str, isC_tuple, isC_list, isC_dict, isA_list_tuple, isQ_NoneType, isQ_bool, isQ_int, isQ_str, isQ_tuple, isQ_list, isQ_dict, true_and, and_true, Bool.not_true, Bool.not_false, Bool.false_eq_true, Bool.true_xor, Bool.false_xor, grD, List.length_map]
  exact ⟨by omega, by omega, fin_of q⟩
theorem ok__law_columns {P : Program} {w : World} {K : PySem.W.Frag} {mg : Str → Option Value} {base : Heap} {A : Ad} (T : Txt K mg A) : FnJ P w K mg base 1 A.f__law_columns (sp__law_columns A) :=
  FnJ.mkAt T.d__law_columns sc__law_columns (fun cdv R outer s H E hr tk => bd__law_columns T cdv R outer s H E hr tk) (rd__law_columns A)
def sp__law_cond (A : Ad) (n : Nat) : SpD := fun ds M Q _ => ∃ b fs ss ws o nf ns k, ds = [.ref b, grD fs ss ws, .lst ((cols fs).map D.str), .int k] ∧ GrOk nf ns fs ss ws ∧ M b = some o ∧ Bg o ∧ 0 ≤ k ∧ k + 1 ≤ (n : Int) ∧ ∀ d, CondD fs ss n d → ∀ o', Bg o' → Q d (mput M b o')
def wb__law_cond_c5 (A : Ad) (n : Nat) : WS :=
  (wSeq (wAsg (wOp rAddD (wC (.int 2)) (wOp (rIntD CDiv fun i j => .int (i / j)) (wCall (sp__law_pull A) (wCons (wVar 0) (wCons (wC (.int 8)) wNil))) (wC (.int 3)))) (gN 7))
  (wRet (wOp rAddD (wTup (wCons (wVar 6) wNil)) (wCB rTupD (wCons (wLc (wiRng1 (wCons (wVar 7) wNil)) (gN 9) wYes (wCall (sp__law_cond A n) (wCons (wVar 0) (wCons (wVar 1) (wCons (wVar 2) (wCons (wOp (rInt0D fun i j => .int (i - j)) (wVar 3) (wC (.int 1))) wNil))))) [9]) wNil)))))
def wb__law_cond_c4 (A : Ad) (n : Nat) : WS :=
  (wSeq (wIf (wTest (wOp (rEqD false) (wVar 6) (wC (.str "from"))))
  (wRet (wTup (wCons (wC (.str "from")) (wCons (wCall (sp__law_any A) (wCons (wVar 0) (wCons (wOp rIxD (wVar 1) (wC (.int 1))) wNil))) wNil))))
  wNx)
  (wSeq (wIf (wTest (wOp (rEqD false) (wVar 6) (wC (.str "has"))))
  (wRet (wTup (wCons (wC (.str "has")) (wCons (wCall (sp__law_any A) (wCons (wVar 0) (wCons (wVar 4) wNil))) wNil))))
  wNx)
  (wSeq (wIf (wTest (wOp (rEqD false) (wVar 6) (wC (.str "is"))))
  (wRet (wTup (wCons (wC (.str "is")) (wCons (wCall (sp__law_any A) (wCons (wVar 0) (wCons (wVar 4) wNil))) (wCons (wCall (sp__law_any A) (wCons (wVar 0) (wCons (wSl (wOp rIxD (wVar 1) (wC (.int 2))) wNo (wSome (wC (.int 2)))) wNil))) wNil)))))
  wNx)
  (wSeq (wIf (wTest (wOp (rEqD false) (wVar 6) (wC (.str "not"))))
  (wRet (wTup (wCons (wC (.str "not")) (wCons (wCall (sp__law_cond A n) (wCons (wVar 0) (wCons (wVar 1) (wCons (wVar 2) (wCons (wOp (rInt0D fun i j => .int (i - j)) (wVar 3) (wC (.int 1))) wNil))))) wNil))))
  wNx)
  (wSeq (wIf (wTest (wOp (rEqD false) (wVar 6) (wC (.str "any"))))
  (wRet (wTup (wCons (wC (.str "any")) wNil)))
  wNx)
  (wb__law_cond_c5 A n))))))
def wb__law_cond_c3 (A : Ad) (n : Nat) : WS :=
  (wSeq (wAsg (wCall (sp__law_any A) (wCons (wVar 0) (wCons (wFz (wVar 5)) wNil))) (gN 6))
  (wb__law_cond_c4 A n))
def wb__law_cond_c2 (A : Ad) (n : Nat) : WS :=
  (wSeq (wIf (wTest (wOp (rInt0D fun i j => .bl (decide (j < i))) (wVar 3) (wC (.int 0))))
  (wAsg (wOp rAddD (wFz (wVar 5)) (wLst (wCons (wC (.str "not")) (wCons (wC (.str "and")) (wCons (wC (.str "or")) wNil))))) (gN 5))
  wNx)
  (wb__law_cond_c3 A n))
def wb__law_cond_c1 (A : Ad) (n : Nat) : WS :=
  (wSeq (wIf (wTest (wOp (rEqD true) (wVar 4) (wLst wNil)))
  (wAsg (wOp rAddD (wFz (wVar 5)) (wLst (wCons (wC (.str "has")) (wCons (wC (.str "is")) (wCons (wC (.str "has")) (wCons (wC (.str "is")) wNil)))))) (gN 5))
  wNx)
  (wb__law_cond_c2 A n))
def wb__law_cond_c0 (A : Ad) (n : Nat) : WS :=
  (wSeq (wIf (wTest (wOp (rInD false) (wC (.str "source")) (wVar 2)))
  (wDrop (wBM "list" rAppD (wVar 5) (wCons (wC (.str "from")) wNil)))
  wNx)
  (wb__law_cond_c1 A n))
def wb__law_cond (A : Ad) (n : Nat) : WS :=
  (wSeq (wAsg (wLc (wiSeq (wOp rIxD (wVar 1) (wC (.int 0)))) (gN 8) (wTest (wOp (rInD false) (wVar 8) (wVar 2))) (wVar 8) [8]) (gN 4))
  (wSeq (wAsg (wLstO (wCons (wC (.str "any")) wNil)) (gN 5))
  (wb__law_cond_c0 A n)))
theorem bd__law_cond {P : Program} {w : World} {K : PySem.W.Frag} {mg : Str → Option Value} {base : Heap} {A : Ad} (T : Txt K mg A) (n : Nat) (ih : FnJ P w K mg base (3 + n) A.f__law_cond (sp__law_cond A n)) (cdv : Value) (R : Around) (outer : List Env) (s : Shared) (H : Hp) (E : XK) (hr : Room (3 + n) (R.deeper (envOfC "_law_cond" (defScope s__law_cond) s.heap.objs.size A.f__law_cond cdv)))
    (tk : Takes (cxOf (L2.CX P w) P w K mg base N__law_cond "_law_cond" (defScope s__law_cond) A.f__law_cond cdv R outer s H E) (WD E)) : JSs (cxOf (L2.CX P w) P w K mg base N__law_cond "_law_cond" (defScope s__law_cond) A.f__law_cond cdv R outer s H E) (WD E) (defBody s__law_cond) (wb__law_cond A n) :=
  (js_cons (js_setLc (own := [("_law_name", 8)]) rfl sc__law_cond.nd (ji_seq (j_ix id_ix (jv 1) j_int)) (blkOk_by (own := [("_law_name", 8)]) (N := N__law_cond) (sc := defScope s__law_cond) (by decide +kernel)) (fun _ _ _ _ _ => (jg_name (i := 8) sc__law_cond.nd)) (fun _ _ _ _ _ => (jts_one (jt_cmp od_in (jv 8) (jv 2)))) (fun _ _ _ _ _ => (jv 8)))
  (js_cons (js_set (i := 5) sc__law_cond.nd (j_lstO (j_cons j_str j_nil)))
  (js_cons (js_if (jt_cmp od_in j_str (jv 2))
  (js_one (js_expr (j_bm PySem.F.plainAttrs_list PySem.F.slot_list_append PySem.F.type_list_append md_append (jv 5) (j_cons j_str j_nil))))
  js_nil)
  (js_cons (js_if (jt_cmp (od_ne hr.units) (jv 4) (j_lst j_nil))
  (js_one (js_set (i := 5) sc__law_cond.nd (j_op od_add (j_fz (jv 5)) (j_lst (j_cons j_str (j_cons j_str (j_cons j_str (j_cons j_str j_nil))))))))
  js_nil)
  (js_cons (js_if (jt_cmp od_gt (jv 3) j_int)
  (js_one (js_set (i := 5) sc__law_cond.nd (j_op od_add (j_fz (jv 5)) (j_lst (j_cons j_str (j_cons j_str (j_cons j_str j_nil)))))))
  js_nil)
  (js_cons (js_set (i := 6) sc__law_cond.nd (j_call (ok__law_any T) hr (Nat.le_trans (by decide : 2 ≤ 3) (Nat.le_add_right 3 n)) T.g__law_any tk (j_cons (jv 0) (j_cons (j_fz (jv 5)) j_nil))))
  (js_cons (js_if (jt_cmp (od_eq hr.units) (jv 6) j_str)
  (js_one (js_ret (j_tup (j_cons j_str (j_cons (j_call (ok__law_any T) hr (Nat.le_trans (by decide : 2 ≤ 3) (Nat.le_add_right 3 n)) T.g__law_any tk (j_cons (jv 0) (j_cons (j_ix id_ix (jv 1) j_int) j_nil))) j_nil)))))
  js_nil)
  (js_cons (js_if (jt_cmp (od_eq hr.units) (jv 6) j_str)
  (js_one (js_ret (j_tup (j_cons j_str (j_cons (j_call (ok__law_any T) hr (Nat.le_trans (by decide : 2 ≤ 3) (Nat.le_add_right 3 n)) T.g__law_any tk (j_cons (jv 0) (j_cons (jv 4) j_nil))) j_nil)))))
  js_nil)
  (js_cons (js_if (jt_cmp (od_eq hr.units) (jv 6) j_str)
  (js_one (js_ret (j_tup (j_cons j_str (j_cons (j_call (ok__law_any T) hr (Nat.le_trans (by decide : 2 ≤ 3) (Nat.le_add_right 3 n)) T.g__law_any tk (j_cons (jv 0) (j_cons (jv 4) j_nil))) (j_cons (j_call (ok__law_any T) hr (Nat.le_trans (by decide : 2 ≤ 3) (Nat.le_add_right 3 n)) T.g__law_any tk (j_cons (jv 0) (j_cons (j_sl (j_ix id_ix (jv 1) j_int) jo_none (jo_some j_int)) j_nil))) j_nil))))))
  js_nil)
  (js_cons (js_if (jt_cmp (od_eq hr.units) (jv 6) j_str)
  (js_one (js_ret (j_tup (j_cons j_str (j_cons (j_call ih hr (Nat.le_refl _) T.g__law_cond tk (j_cons (jv 0) (j_cons (jv 1) (j_cons (jv 2) (j_cons (j_op od_sub (jv 3) j_int) j_nil))))) j_nil)))))
  js_nil)
  (js_cons (js_if (jt_cmp (od_eq hr.units) (jv 6) j_str)
  (js_one (js_ret (j_tup (j_cons j_str j_nil))))
  js_nil)
  (js_cons (js_set (i := 7) sc__law_cond.nd (j_op od_add j_int (j_op od_fdiv (j_call (ok__law_pull T) hr (Nat.le_trans (by decide : 1 ≤ 3) (Nat.le_add_right 3 n)) T.g__law_pull tk (j_cons (jv 0) (j_cons j_int j_nil))) j_int)))
  (js_one (js_ret (j_op od_add (j_tup (j_cons (jv 6) j_nil)) (j_callTy cd_tup T.n_tuple bo_tuple (j_cons (j_lc (own := [("_law_k", 9)]) rfl sc__law_cond.nd (ji_rng1 T.n_range (j_cons (jv 7) j_nil)) (blkOk_by (own := [("_law_k", 9)]) (N := N__law_cond) (sc := defScope s__law_cond) (by decide +kernel)) (fun _ _ _ _ _ => (jg_name (i := 9) sc__law_cond.nd)) (fun _ _ _ _ _ => jts_nil) (fun _ _ _ _ _ => (j_call ih hr (Nat.le_refl _) T.g__law_cond tkF (j_cons (jv 0) (j_cons (jv 1) (j_cons (jv 2) (j_cons (j_op od_sub (jv 3) j_int) j_nil))))))) j_nil)))))))))))))))))
theorem lcond_c5 (A : Ad) (n : Nat) {b : Addr} {fs ss ws : List Str} {nf ns k : Int} {w : Str} {M N : Mem} {E : ED} {x4 x5 x7 x8 x9 : Option D} (gr : GrOk nf ns fs ss ws) (hb : Bgd M b N) (k0 : 0 < k) (kn : k ≤ n) (hw : w = "and" ∨ w = "or")
    (q : ∀ d, CondD fs ss (n + 1) d → ∀ N', Bgd M b N' → E.rt d N') :
    wb__law_cond_c5 A n E [some (.ref b), some (grD fs ss ws), some (.lst ((cols fs).map D.str)), some (.int k), x4, x5, some (.str w), x7, x8, x9] N := by
  have big := sizeLine_big
  simp only [wb__law_cond_c5, ↓pVar, ↓pGet, ↓pC, ↓pOp, ↓pUn, ↓pCB, ↓pNil, ↓pCons, ↓pTest, ↓pBl, ↓pAndT, ↓pOrT, ↓pNotT, ↓pAndV, ↓pOrV, ↓pNotV, ↓pIfE, ↓pTup, ↓pLst, ↓pLstO, ↓pCall, ↓pMeth, ↓pFld, ↓pProp, ↓pMake, ↓pCv, ↓pSl, ↓pNo, ↓pSome, ↓pIntK, ↓pN, ↓pT, ↓pGC, ↓pGN, ↓pIf, ↓pRet, ↓pRetN, ↓pDrop, ↓pAsg, ↓pNx, ↓pBrk, ↓pCnt, ↓pNever, ↓pSub, ↓pAug, ↓pPar, ↓pParK, ↓pBM, ↓pFor, ↓pLc, ↓pLcO, ↓pYes, ↓piSeq, ↓piStr, ↓pStrK, ↓piRng1, ↓pRng1K, ↓piRng2, ↓pRng2K, ↓piEnum, ↓pEnumK, ↓piZip, ↓pZipL, ↓pZipT, ↓pFz, ↓pLenSet, ↓pIsT, ↓rIx_lst, ↓rIx_tup, ↓rIx_ref, ↓rIx_str, ↓rLen_str, ↓rLen_lst, ↓rLen_tup, ↓rLen_ref, ↓rIs_p, ↓rInt_int, ↓rInt_bl, ↓rStr_int, ↓rList_p, ↓rListO_p, ↓rTup_p, ↓rAdd_int, ↓rAdd_str, ↓rAdd_tup, ↓rAdd_lst, ↓rIntD_p, ↓rInt0_p, ↓rEq_int, ↓rEq_str, ↓rEq_bl, ↓rEq_lst, ↓rEq_tup, ↓rIsN_non, ↓rIsN_bl, ↓rIsN_int, ↓rIsN_str, ↓rIsN_tup, ↓rIsN_lst, ↓rNeg_p, ↓rSl_str, ↓rSl_tup, ↓rSl_lst, ↓rSl_scr, ↓rRep_p, ↓pOptK, ↓pChain, ↓pIfT, ↓pCallK, ↓pDzip, ↓pDzipK, ↓pDzipO, ↓pDzipKO, ↓rIsB_bl, ↓rDix_str, ↓rDix_int, ↓rIn_tup, ↓rIn_lst, ↓rEq_ns, ↓rEq_sn, ↓rRepT_p, ↓rAll_f, ↓rAll_t, ↓wSeq_p, ↓seqE_nx, ↓reduceIte, at_0, at_1, at_2, at_3, cut_1, cut_2, dl_0_0, dl_0_1, dl_0_2, dl_0_3, dl_0_4, dl_0_5, dl_1_0, dl_1_1, dl_1_2, dl_1_3, dl_1_4, dl_1_5, dl_2_0, dl_2_1, dl_2_2, dl_2_3, dl_2_4, dl_2_5, dl_3_0, dl_3_1, dl_3_2, dl_3_3, dl_3_4, dl_3_5, dl_4_0, dl_4_1, dl_4_2, dl_4_3, dl_4_4, dl_4_5, dn_1_0, dn_2_0, dn_2_1, dn_3_0, dn_3_1, dn_3_2, dn_4_0, dn_4_1, dn_4_2, dn_4_3, seqE_rt, seqE_bk, seqE_ct, seqE_ex, wipeD, frz_lst, frz_tup, at1_0, at2_0, at2_1, at3_0, at3_1, at3_2, at4_0, at4_1, at4_2, at4_3, at5_0, at5_1, at5_2, at5_3, at5_4, seqOf_put, seqOf_lst, seqOf_tup, insK_same, tyN_non, tyN_bl, tyN_int, tyN_str, tyN_tup, tyN_lst, tyN_dct, List.getElem?_cons_zero, List.getElem?_cons_succ, List.set_cons_zero, List.set_cons_succ, List.length_cons, List.length_nil, isB_NoneType_bool, isB_NoneType_int, isB_NoneType_str, isB_NoneType_tuple, isB_NoneType_list, isB_NoneType_dict, isB_bool_bool, isB_bool_int, isB_bool_str, isB_bool_tuple, isB_bool_list, isB_bool_dict, isB_int_bool, isB_int_int, isB_int_str, isB_int_tuple, isB_int_list, isB_int_dict, isB_str_bool, isB_str_int, isB_str_str, isB_str_tuple, isB_str_list, isB_str_dict, isB_tuple_bool, isB_tuple_int, isB_tuple_str, isB_tuple_tuple, isB_tuple_list, isB_tuple_dict, isB_list_bool, isB_list_int, isB_list_str, isB_list_tuple, isB_list_list, isB_list_dict, isB_dict_bool, isB_dict_int, isB_dict_str, isB_dict_tuple, isB_dict_list, isB_dict_dict, isC_bool, isC_int, isC_str, isC_tuple, isC_list, isC_dict, isA_list_tuple, isQ_NoneType, isQ_bool, isQ_int, isQ_str, isQ_tuple, isQ_list, isQ_dict, true_and, and_true, Bool.not_true, Bool.not_false, Bool.false_eq_true, Bool.true_xor, Bool.false_xor]
  refine pull_b A hb (by omega) (by omega) fun v hv N2 g2 _ => ?_
  simp only [CDiv, ↓pVar, ↓pGet, ↓pC, ↓pOp, ↓pUn, ↓pCB, ↓pNil, ↓pCons, ↓pTest, ↓pBl, ↓pAndT, ↓pOrT, ↓pNotT, ↓pAndV, ↓pOrV, ↓pNotV, ↓pIfE, ↓pTup, ↓pLst, ↓pLstO, ↓pCall, ↓pMeth, ↓pFld, ↓pProp, ↓pMake, ↓pCv, ↓pSl, ↓pNo, ↓pSome, ↓pIntK, ↓pN, ↓pT, ↓pGC, ↓pGN, ↓pIf, ↓pRet, ↓pRetN, ↓pDrop, ↓pAsg, ↓pNx, ↓pBrk, ↓pCnt, ↓pNever, ↓pSub, ↓pAug, ↓pPar, ↓pParK, ↓pBM, ↓pFor, ↓pLc, ↓pLcO, ↓pYes, ↓piSeq, ↓piStr, ↓pStrK, ↓piRng1, ↓pRng1K, ↓piRng2, ↓pRng2K, ↓piEnum, ↓pEnumK, ↓piZip, ↓pZipL, ↓pZipT, ↓pFz, ↓pLenSet, ↓pIsT, ↓rIx_lst, ↓rIx_tup, ↓rIx_ref, ↓rIx_str, ↓rLen_str, ↓rLen_lst, ↓rLen_tup, ↓rLen_ref, ↓rIs_p, ↓rInt_int, ↓rInt_bl, ↓rStr_int, ↓rList_p, ↓rListO_p, ↓rTup_p, ↓rAdd_int, ↓rAdd_str, ↓rAdd_tup, ↓rAdd_lst, ↓rIntD_p, ↓rInt0_p, ↓rEq_int, ↓rEq_str, ↓rEq_bl, ↓rEq_lst, ↓rEq_tup, ↓rIsN_non, ↓rIsN_bl, ↓rIsN_int, ↓rIsN_str, ↓rIsN_tup, ↓rIsN_lst, ↓rNeg_p, ↓rSl_str, ↓rSl_tup, ↓rSl_lst, ↓rSl_scr, ↓rRep_p, ↓pOptK, ↓pChain, ↓pIfT, ↓pCallK, ↓pDzip, ↓pDzipK, ↓pDzipO, ↓pDzipKO, ↓rIsB_bl, ↓rDix_str, ↓rDix_int, ↓rIn_tup, ↓rIn_lst, ↓rEq_ns, ↓rEq_sn, ↓rRepT_p, ↓rAll_f, ↓rAll_t, ↓wSeq_p, ↓seqE_nx, ↓reduceIte, at_0, at_1, at_2, at_3, cut_1, cut_2, dl_0_0, dl_0_1, dl_0_2, dl_0_3, dl_0_4, dl_0_5, dl_1_0, dl_1_1, dl_1_2, dl_1_3, dl_1_4, dl_1_5, dl_2_0, dl_2_1, dl_2_2, dl_2_3, dl_2_4, dl_2_5, dl_3_0, dl_3_1, dl_3_2, dl_3_3, dl_3_4, dl_3_5, dl_4_0, dl_4_1, dl_4_2, dl_4_3, dl_4_4, dl_4_5, dn_1_0, dn_2_0, dn_2_1, dn_3_0, dn_3_1, dn_3_2, dn_4_0, dn_4_1, dn_4_2, dn_4_3, seqE_rt, seqE_bk, seqE_ct, seqE_ex, wipeD, frz_lst, frz_tup, at1_0, at2_0, at2_1, at3_0, at3_1, at3_2, at4_0, at4_1, at4_2, at4_3, at5_0, at5_1, at5_2, at5_3, at5_4, seqOf_put, seqOf_lst, seqOf_tup, insK_same, tyN_non, tyN_bl, tyN_int, tyN_str, tyN_tup, tyN_lst, tyN_dct, List.getElem?_cons_zero, List.getElem?_cons_succ, List.set_cons_zero, List.set_cons_succ, List.length_cons, List.length_nil, isB_NoneType_bool, isB_NoneType_int, isB_NoneType_str, isB_NoneType_tuple, isB_NoneType_list, isB_NoneType_dict, isB_bool_bool, isB_bool_int, isB_bool_str, isB_bool_tuple, isB_bool_list, isB_bool_dict, isB_int_bool, isB_int_int, isB_int_str, isB_int_tuple, isB_int_list, isB_int_dict, isB_str_bool, isB_str_int, isB_str_str, isB_str_tuple, isB_str_list, isB_str_dict, isB_tuple_bool, isB_tuple_int, isB_tuple_str, isB_tuple_tuple, isB_tuple_list, isB_tuple_dict, isB_list_bool, isB_list_int, isB_list_str, isB_list_tuple, isB_list_list, isB_list_dict, isB_dict_bool, isB_dict_int, isB_dict_str, isB_dict_tuple, isB_dict_list, isB_dict_dict, isC_bool, isC_int, isC_str, isC_tuple, isC_list, isC_dict, isA_list_tuple, isQ_NoneType, isQ_bool, isQ_int, isQ_str, isQ_tuple, isQ_list, isQ_dict, true_and, and_true, Bool.not_true, Bool.not_false, Bool.false_eq_true, Bool.true_xor, Bool.false_xor]
  obtain ⟨m, e1, e2⟩ : ∃ m : Nat, (2 : Int) + (v : Int) / 3 = (m : Int) ∧ 2 ≤ m ∧ m ≤ 4 := ⟨2 + v / 3, by omega, by omega, by omega⟩
  rw [e1]
  refine ⟨by omega, by omega, by omega, ?_⟩
  refine lcR_rng (fun j acc N' => acc.length = j ∧ (∀ c ∈ acc, CondD fs ss n c) ∧ Bgd M b N') ?_ ?_ ⟨rfl, nofun, g2⟩
  · rintro acc N' ⟨l, hc, h⟩
    refine ⟨by omega, q _ ?_ N' h⟩
    rcases hw with rfl | rfl
    · exact ⟨"and", acc, rfl, .an (by omega) (by omega) hc⟩
    · exact ⟨"or", acc, rfl, .orr (by omega) (by omega) hc⟩
  · rintro j hj acc N' R hR ⟨l, hc, h⟩
    simp only [↓pVar, ↓pGet, ↓pC, ↓pOp, ↓pUn, ↓pCB, ↓pNil, ↓pCons, ↓pTest, ↓pBl, ↓pAndT, ↓pOrT, ↓pNotT, ↓pAndV, ↓pOrV, ↓pNotV, ↓pIfE, ↓pTup, ↓pLst, ↓pLstO, ↓pCall, ↓pMeth, ↓pFld, ↓pProp, ↓pMake, ↓pCv, ↓pSl, ↓pNo, ↓pSome, ↓pIntK, ↓pN, ↓pT, ↓pGC, ↓pGN, ↓pIf, ↓pRet, ↓pRetN, ↓pDrop, ↓pAsg, ↓pNx, ↓pBrk, ↓pCnt, ↓pNever, ↓pSub, ↓pAug, ↓pPar, ↓pParK, ↓pBM, ↓pFor, ↓pLc, ↓pLcO, ↓pYes, ↓piSeq, ↓piStr, ↓pStrK, ↓piRng1, ↓pRng1K, ↓piRng2, ↓pRng2K, ↓piEnum, ↓pEnumK, ↓piZip, ↓pZipL, ↓pZipT, ↓pFz, ↓pLenSet, ↓pIsT, ↓rIx_lst, ↓rIx_tup, ↓rIx_ref, ↓rIx_str, ↓rLen_str, ↓rLen_lst, ↓rLen_tup, ↓rLen_ref, ↓rIs_p, ↓rInt_int, ↓rInt_bl, ↓rStr_int, ↓rList_p, ↓rListO_p, ↓rTup_p, ↓rAdd_int, ↓rAdd_str, ↓rAdd_tup, ↓rAdd_lst, ↓rIntD_p, ↓rInt0_p, ↓rEq_int, ↓rEq_str, ↓rEq_bl, ↓rEq_lst, ↓rEq_tup, ↓rIsN_non, ↓rIsN_bl, ↓rIsN_int, ↓rIsN_str, ↓rIsN_tup, ↓rIsN_lst, ↓rNeg_p, ↓rSl_str, ↓rSl_tup, ↓rSl_lst, ↓rSl_scr, ↓rRep_p, ↓pOptK, ↓pChain, ↓pIfT, ↓pCallK, ↓pDzip, ↓pDzipK, ↓pDzipO, ↓pDzipKO, ↓rIsB_bl, ↓rDix_str, ↓rDix_int, ↓rIn_tup, ↓rIn_lst, ↓rEq_ns, ↓rEq_sn, ↓rRepT_p, ↓rAll_f, ↓rAll_t, ↓wSeq_p, ↓seqE_nx, ↓reduceIte, at_0, at_1, at_2, at_3, cut_1, cut_2, dl_0_0, dl_0_1, dl_0_2, dl_0_3, dl_0_4, dl_0_5, dl_1_0, dl_1_1, dl_1_2, dl_1_3, dl_1_4, dl_1_5, dl_2_0, dl_2_1, dl_2_2, dl_2_3, dl_2_4, dl_2_5, dl_3_0, dl_3_1, dl_3_2, dl_3_3, dl_3_4, dl_3_5, dl_4_0, dl_4_1, dl_4_2, dl_4_3, dl_4_4, dl_4_5, dn_1_0, dn_2_0, dn_2_1, dn_3_0, dn_3_1, dn_3_2, dn_4_0, dn_4_1, dn_4_2, dn_4_3, seqE_rt, seqE_bk, seqE_ct, seqE_ex, wipeD, frz_lst, frz_tup, at1_0, at2_0, at2_1, at3_0, at3_1, at3_2, at4_0, at4_1, at4_2, at4_3, at5_0, at5_1, at5_2, at5_3, at5_4, seqOf_put, seqOf_lst, seqOf_tup, insK_same, tyN_non, tyN_bl, tyN_int, tyN_str, tyN_tup, tyN_lst, tyN_dct, List.getElem?_cons_zero, List.getElem?_cons_succ, List.set_cons_zero, List.set_cons_succ, List.length_cons, List.length_nil, isB_NoneType_bool, isB_NoneType_int, isB_NoneType_str, isB_NoneType_tuple, isB_NoneType_list, isB_NoneType_dict, isB_bool_bool, isB_bool_int, isB_bool_str, isB_bool_tuple, isB_bool_list, isB_bool_dict, isB_int_bool, isB_int_int, isB_int_str, isB_int_tuple, isB_int_list, isB_int_dict, isB_str_bool, isB_str_int, isB_str_str, isB_str_tuple, isB_str_list, isB_str_dict, isB_tuple_bool, isB_tuple_int, isB_tuple_str, isB_tuple_tuple, isB_tuple_list, isB_tuple_dict, isB_list_bool, isB_list_int, isB_list_str, isB_list_tuple, isB_list_list, isB_list_dict, isB_dict_bool, isB_dict_int, isB_dict_str, isB_dict_tuple, isB_dict_list, isB_dict_dict, isC_bool, isC_int, isC_str, isC_tuple, isC_list, isC_dict, isA_list_tuple, isQ_NoneType, isQ_bool, isQ_int, isQ_str, isQ_tuple, isQ_list, isQ_dict, true_and, and_true, Bool.not_true, Bool.not_false, Bool.false_eq_true, Bool.true_xor, Bool.false_xor]
    obtain ⟨o3, e3, b3⟩ := bgd_at h
    refine ⟨b, fs, ss, ws, o3, nf, ns, k - 1, rfl, gr, e3, b3, by omega, by omega, fun d hd o4 b4 => ⟨by omega, hR _ _ ⟨?_, fun c h => ?_, bgd_put h b4⟩⟩⟩
    · rw [List.length_append, l]; rfl
    · rcases List.mem_append.mp h with h | h
      · exact hc c h
      · rw [List.mem_singleton.mp h]; exact hd
theorem lcond_c4 (A : Ad) (n : Nat) {b : Addr} {fs ss ws : List Str} {nf ns k : Int} {w : Str} {M N : Mem} {E : ED} {x5 x7 x8 x9 : Option D} (gr : GrOk nf ns fs ss ws) (hb : Bgd M b N) (k0 : 0 ≤ k) (kn : k ≤ n)
    (hw : w = "any" ∨ w = "from" ∨ w = "has" ∨ w = "is" ∨ (0 < k ∧ (w = "not" ∨ w = "and" ∨ w = "or")))
    (q : ∀ d, CondD fs ss (n + 1) d → ∀ N', Bgd M b N' → E.rt d N') :
    wb__law_cond_c4 A n E [some (.ref b), some (grD fs ss ws), some (.lst ((cols fs).map D.str)), some (.int k), some (.lst (fs.map D.str)), x5, some (.str w), x7, x8, x9] N := by
  have big := sizeLine_big
  have nef : (fs.map D.str) ≠ [] := fun e => by have := gr.f.lo; rw [List.map_eq_nil_iff.mp e] at this; cases this
  have nes : (ss.map D.str) ≠ [] := fun e => by have := gr.s.lo; rw [List.map_eq_nil_iff.mp e] at this; cases this
  have f5 := gr.f.hi
  have s5 := gr.s.hi
  have w5 := gr.w.len
  rcases hw with rfl | rfl | rfl | rfl | ⟨kp, rfl | rfl | rfl⟩
  · simp only [wb__law_cond_c4, w_any_from, w_any_has, w_any_is, w_any_not, w_any_and, w_any_or, w_from_any, w_from_has, w_from_is, w_from_not, w_from_and, w_from_or, w_has_any, w_has_from, w_has_is, w_has_not, w_has_and, w_has_or, w_is_any, w_is_from, w_is_has, w_is_not, w_is_and, w_is_or, w_not_any, w_not_from, w_not_has, w_not_is, w_not_and, w_not_or, w_and_any, w_and_from, w_and_has, w_and_is, w_and_not, w_and_or, w_or_any, w_or_from, w_or_has, w_or_is, w_or_not, w_or_and, or_self, or_true, true_or, or_false, false_or, decide_true, decide_false, ↓pVar, ↓pGet, ↓pC, ↓pOp, ↓pUn, ↓pCB, ↓pNil, ↓pCons, ↓pTest, ↓pBl, ↓pAndT, ↓pOrT, ↓pNotT, ↓pAndV, ↓pOrV, ↓pNotV, ↓pIfE, ↓pTup, ↓pLst, ↓pLstO, ↓pCall, ↓pMeth, ↓pFld, ↓pProp, ↓pMake, ↓pCv, ↓pSl, ↓pNo, ↓pSome, ↓pIntK, ↓pN, ↓pT, ↓pGC, ↓pGN, ↓pIf, ↓pRet, ↓pRetN, ↓pDrop, ↓pAsg, ↓pNx, ↓pBrk, ↓pCnt, ↓pNever, ↓pSub, ↓pAug, ↓pPar, ↓pParK, ↓pBM, ↓pFor, ↓pLc, ↓pLcO, ↓pYes, ↓piSeq, ↓piStr, ↓pStrK, ↓piRng1, ↓pRng1K, ↓piRng2, ↓pRng2K, ↓piEnum, ↓pEnumK, ↓piZip, ↓pZipL, ↓pZipT, ↓pFz, ↓pLenSet, ↓pIsT, ↓rIx_lst, ↓rIx_tup, ↓rIx_ref, ↓rIx_str, ↓rLen_str, ↓rLen_lst, ↓rLen_tup, ↓rLen_ref, ↓rIs_p, ↓rInt_int, ↓rInt_bl, ↓rStr_int, ↓rList_p, ↓rListO_p, ↓rTup_p, ↓rAdd_int, ↓rAdd_str, ↓rAdd_tup, ↓rAdd_lst, ↓rIntD_p, ↓rInt0_p, ↓rEq_int, ↓rEq_str, ↓rEq_bl, ↓rEq_lst, ↓rEq_tup, ↓rIsN_non, ↓rIsN_bl, ↓rIsN_int, ↓rIsN_str, ↓rIsN_tup, ↓rIsN_lst, ↓rNeg_p, ↓rSl_str, ↓rSl_tup, ↓rSl_lst, ↓rSl_scr, ↓rRep_p, ↓pOptK, ↓pChain, ↓pIfT, ↓pCallK, ↓pDzip, ↓pDzipK, ↓pDzipO, ↓pDzipKO, ↓rIsB_bl, ↓rDix_str, ↓rDix_int, ↓rIn_tup, ↓rIn_lst, ↓rEq_ns, ↓rEq_sn, ↓rRepT_p, ↓rAll_f, ↓rAll_t, ↓wSeq_p, ↓seqE_nx, ↓reduceIte, at_0, at_1, at_2, at_3, cut_1, cut_2, dl_0_0, dl_0_1, dl_0_2, dl_0_3, dl_0_4, dl_0_5, dl_1_0, dl_1_1, dl_1_2, dl_1_3, dl_1_4, dl_1_5, dl_2_0, dl_2_1, dl_2_2, dl_2_3, dl_2_4, dl_2_5, dl_3_0, dl_3_1, dl_3_2, dl_3_3, dl_3_4, dl_3_5, dl_4_0, dl_4_1, dl_4_2, dl_4_3, dl_4_4, dl_4_5, dn_1_0, dn_2_0, dn_2_1, dn_3_0, dn_3_1, dn_3_2, dn_4_0, dn_4_1, dn_4_2, dn_4_3, seqE_rt, seqE_bk, seqE_ct, seqE_ex, wipeD, frz_lst, frz_tup, at1_0, at2_0, at2_1, at3_0, at3_1, at3_2, at4_0, at4_1, at4_2, at4_3, at5_0, at5_1, at5_2, at5_3, at5_4, seqOf_put, seqOf_lst, seqOf_tup, insK_same, tyN_non, tyN_bl, tyN_int, tyN_str, tyN_tup, tyN_lst, tyN_dct, List.getElem?_cons_zero, List.getElem?_cons_succ, List.set_cons_zero, List.set_cons_succ, List.length_cons, List.length_nil, isB_NoneType_bool, isB_NoneType_int, isB_NoneType_str, isB_NoneType_tuple, isB_NoneType_list, isB_NoneType_dict, isB_bool_bool, isB_bool_int, isB_bool_str, isB_bool_tuple, isB_bool_list, isB_bool_dict, isB_int_bool, isB_int_int, isB_int_str, isB_int_tuple, isB_int_list, isB_int_dict, isB_str_bool, isB_str_int, isB_str_str, isB_str_tuple, isB_str_list, isB_str_dict, isB_tuple_bool, isB_tuple_int, isB_tuple_str, isB_tuple_tuple, isB_tuple_list, isB_tuple_dict, isB_list_bool, isB_list_int, isB_list_str, isB_list_tuple, isB_list_list, isB_list_dict, isB_dict_bool, isB_dict_int, isB_dict_str, isB_dict_tuple, isB_dict_list, isB_dict_dict, isC_bool, isC_int, isC_str, isC_tuple, isC_list, isC_dict, isA_list_tuple, isQ_NoneType, isQ_bool, isQ_int, isQ_str, isQ_tuple, isQ_list, isQ_dict, true_and, and_true, Bool.not_true, Bool.not_false, Bool.false_eq_true, Bool.true_xor, Bool.false_xor]
    exact ⟨by omega, q _ ⟨_, _, rfl, .any⟩ N hb⟩
  · simp only [wb__law_cond_c4, w_any_from, w_any_has, w_any_is, w_any_not, w_any_and, w_any_or, w_from_any, w_from_has, w_from_is, w_from_not, w_from_and, w_from_or, w_has_any, w_has_from, w_has_is, w_has_not, w_has_and, w_has_or, w_is_any, w_is_from, w_is_has, w_is_not, w_is_and, w_is_or, w_not_any, w_not_from, w_not_has, w_not_is, w_not_and, w_not_or, w_and_any, w_and_from, w_and_has, w_and_is, w_and_not, w_and_or, w_or_any, w_or_from, w_or_has, w_or_is, w_or_not, w_or_and, or_self, or_true, true_or, or_false, false_or, decide_true, decide_false, grD, ↓pVar, ↓pGet, ↓pC, ↓pOp, ↓pUn, ↓pCB, ↓pNil, ↓pCons, ↓pTest, ↓pBl, ↓pAndT, ↓pOrT, ↓pNotT, ↓pAndV, ↓pOrV, ↓pNotV, ↓pIfE, ↓pTup, ↓pLst, ↓pLstO, ↓pCall, ↓pMeth, ↓pFld, ↓pProp, ↓pMake, ↓pCv, ↓pSl, ↓pNo, ↓pSome, ↓pIntK, ↓pN, ↓pT, ↓pGC, ↓pGN, ↓pIf, ↓pRet, ↓pRetN, ↓pDrop, ↓pAsg, ↓pNx, ↓pBrk, ↓pCnt, ↓pNever, ↓pSub, ↓pAug, ↓pPar, ↓pParK, ↓pBM, ↓pFor, ↓pLc, ↓pLcO, ↓pYes, ↓piSeq, ↓piStr, ↓pStrK, ↓piRng1, ↓pRng1K, ↓piRng2, ↓pRng2K, ↓piEnum, ↓pEnumK, ↓piZip, ↓pZipL, ↓pZipT, ↓pFz, ↓pLenSet, ↓pIsT, ↓rIx_lst, ↓rIx_tup, ↓rIx_ref, ↓rIx_str, ↓rLen_str, ↓rLen_lst, ↓rLen_tup, ↓rLen_ref, ↓rIs_p, ↓rInt_int, ↓rInt_bl, ↓rStr_int, ↓rList_p, ↓rListO_p, ↓rTup_p, ↓rAdd_int, ↓rAdd_str, ↓rAdd_tup, ↓rAdd_lst, ↓rIntD_p, ↓rInt0_p, ↓rEq_int, ↓rEq_str, ↓rEq_bl, ↓rEq_lst, ↓rEq_tup, ↓rIsN_non, ↓rIsN_bl, ↓rIsN_int, ↓rIsN_str, ↓rIsN_tup, ↓rIsN_lst, ↓rNeg_p, ↓rSl_str, ↓rSl_tup, ↓rSl_lst, ↓rSl_scr, ↓rRep_p, ↓pOptK, ↓pChain, ↓pIfT, ↓pCallK, ↓pDzip, ↓pDzipK, ↓pDzipO, ↓pDzipKO, ↓rIsB_bl, ↓rDix_str, ↓rDix_int, ↓rIn_tup, ↓rIn_lst, ↓rEq_ns, ↓rEq_sn, ↓rRepT_p, ↓rAll_f, ↓rAll_t, ↓wSeq_p, ↓seqE_nx, ↓reduceIte, at_0, at_1, at_2, at_3, cut_1, cut_2, dl_0_0, dl_0_1, dl_0_2, dl_0_3, dl_0_4, dl_0_5, dl_1_0, dl_1_1, dl_1_2, dl_1_3, dl_1_4, dl_1_5, dl_2_0, dl_2_1, dl_2_2, dl_2_3, dl_2_4, dl_2_5, dl_3_0, dl_3_1, dl_3_2, dl_3_3, dl_3_4, dl_3_5, dl_4_0, dl_4_1, dl_4_2, dl_4_3, dl_4_4, dl_4_5, dn_1_0, dn_2_0, dn_2_1, dn_3_0, dn_3_1, dn_3_2, dn_4_0, dn_4_1, dn_4_2, dn_4_3, seqE_rt, seqE_bk, seqE_ct, seqE_ex, wipeD, frz_lst, frz_tup, at1_0, at2_0, at2_1, at3_0, at3_1, at3_2, at4_0, at4_1, at4_2, at4_3, at5_0, at5_1, at5_2, at5_3, at5_4, seqOf_put, seqOf_lst, seqOf_tup, insK_same, tyN_non, tyN_bl, tyN_int, tyN_str, tyN_tup, tyN_lst, tyN_dct, List.getElem?_cons_zero, List.getElem?_cons_succ, List.set_cons_zero, List.set_cons_succ, List.length_cons, List.length_nil, isB_NoneType_bool, isB_NoneType_int, isB_NoneType_str, isB_NoneType_tuple, isB_NoneType_list, isB_NoneType_dict, isB_bool_bool, isB_bool_int, isB_bool_str, isB_bool_tuple, isB_bool_list, isB_bool_dict, isB_int_bool, isB_int_int, isB_int_str, isB_int_tuple, isB_int_list, isB_int_dict, isB_str_bool, isB_str_int, isB_str_str, isB_str_tuple, isB_str_list, isB_str_dict, isB_tuple_bool, isB_tuple_int, isB_tuple_str, isB_tuple_tuple, isB_tuple_list, isB_tuple_dict, isB_list_bool, isB_list_int, isB_list_str, isB_list_tuple, isB_list_list, isB_list_dict, isB_dict_bool, isB_dict_int, isB_dict_str, isB_dict_tuple, isB_dict_list, isB_dict_dict, isC_bool, isC_int, isC_str, isC_tuple, isC_list, isC_dict, isA_list_tuple, isQ_NoneType, isQ_bool, isQ_int, isQ_str, isQ_tuple, isQ_list, isQ_dict, true_and, and_true, Bool.not_true, Bool.not_false, Bool.false_eq_true, Bool.true_xor, Bool.false_xor]
    refine any_b A hb nes (by rw [List.length_map]; omega) fun x hx N2 h2 _ => ⟨by omega, ?_⟩
    obtain ⟨s, hs, rfl⟩ := List.mem_map.mp hx
    exact q _ ⟨_, _, rfl, .frm hs⟩ N2 h2
  · simp only [wb__law_cond_c4, w_any_from, w_any_has, w_any_is, w_any_not, w_any_and, w_any_or, w_from_any, w_from_has, w_from_is, w_from_not, w_from_and, w_from_or, w_has_any, w_has_from, w_has_is, w_has_not, w_has_and, w_has_or, w_is_any, w_is_from, w_is_has, w_is_not, w_is_and, w_is_or, w_not_any, w_not_from, w_not_has, w_not_is, w_not_and, w_not_or, w_and_any, w_and_from, w_and_has, w_and_is, w_and_not, w_and_or, w_or_any, w_or_from, w_or_has, w_or_is, w_or_not, w_or_and, or_self, or_true, true_or, or_false, false_or, decide_true, decide_false, ↓pVar, ↓pGet, ↓pC, ↓pOp, ↓pUn, ↓pCB, ↓pNil, ↓pCons, ↓pTest, ↓pBl, ↓pAndT, ↓pOrT, ↓pNotT, ↓pAndV, ↓pOrV, ↓pNotV, ↓pIfE, ↓pTup, ↓pLst, ↓pLstO, ↓pCall, ↓pMeth, ↓pFld, ↓pProp, ↓pMake, ↓pCv, ↓pSl, ↓pNo, ↓pSome, ↓pIntK, ↓pN, ↓pT, ↓pGC, ↓pGN, ↓pIf, ↓pRet, ↓pRetN, ↓pDrop, ↓pAsg, ↓pNx, ↓pBrk, ↓pCnt, ↓pNever, ↓pSub, ↓pAug, ↓pPar, ↓pParK, ↓pBM, ↓pFor, ↓pLc, ↓pLcO, ↓pYes, ↓piSeq, ↓piStr, ↓pStrK, ↓piRng1, ↓pRng1K, ↓piRng2, ↓pRng2K, ↓piEnum, ↓pEnumK, ↓piZip, ↓pZipL, ↓pZipT, ↓pFz, ↓pLenSet, ↓pIsT, ↓rIx_lst, ↓rIx_tup, ↓rIx_ref, ↓rIx_str, ↓rLen_str, ↓rLen_lst, ↓rLen_tup, ↓rLen_ref, ↓rIs_p, ↓rInt_int, ↓rInt_bl, ↓rStr_int, ↓rList_p, ↓rListO_p, ↓rTup_p, ↓rAdd_int, ↓rAdd_str, ↓rAdd_tup, ↓rAdd_lst, ↓rIntD_p, ↓rInt0_p, ↓rEq_int, ↓rEq_str, ↓rEq_bl, ↓rEq_lst, ↓rEq_tup, ↓rIsN_non, ↓rIsN_bl, ↓rIsN_int, ↓rIsN_str, ↓rIsN_tup, ↓rIsN_lst, ↓rNeg_p, ↓rSl_str, ↓rSl_tup, ↓rSl_lst, ↓rSl_scr, ↓rRep_p, ↓pOptK, ↓pChain, ↓pIfT, ↓pCallK, ↓pDzip, ↓pDzipK, ↓pDzipO, ↓pDzipKO, ↓rIsB_bl, ↓rDix_str, ↓rDix_int, ↓rIn_tup, ↓rIn_lst, ↓rEq_ns, ↓rEq_sn, ↓rRepT_p, ↓rAll_f, ↓rAll_t, ↓wSeq_p, ↓seqE_nx, ↓reduceIte, at_0, at_1, at_2, at_3, cut_1, cut_2, dl_0_0, dl_0_1, dl_0_2, dl_0_3, dl_0_4, dl_0_5, dl_1_0, dl_1_1, dl_1_2, dl_1_3, dl_1_4, dl_1_5, dl_2_0, dl_2_1, dl_2_2, dl_2_3, dl_2_4, dl_2_5, dl_3_0, dl_3_1, dl_3_2, dl_3_3, dl_3_4, dl_3_5, dl_4_0, dl_4_1, dl_4_2, dl_4_3, dl_4_4, dl_4_5, dn_1_0, dn_2_0, dn_2_1, dn_3_0, dn_3_1, dn_3_2, dn_4_0, dn_4_1, dn_4_2, dn_4_3, seqE_rt, seqE_bk, seqE_ct, seqE_ex, wipeD, frz_lst, frz_tup, at1_0, at2_0, at2_1, at3_0, at3_1, at3_2, at4_0, at4_1, at4_2, at4_3, at5_0, at5_1, at5_2, at5_3, at5_4, seqOf_put, seqOf_lst, seqOf_tup, insK_same, tyN_non, tyN_bl, tyN_int, tyN_str, tyN_tup, tyN_lst, tyN_dct, List.getElem?_cons_zero, List.getElem?_cons_succ, List.set_cons_zero, List.set_cons_succ, List.length_cons, List.length_nil, isB_NoneType_bool, isB_NoneType_int, isB_NoneType_str, isB_NoneType_tuple, isB_NoneType_list, isB_NoneType_dict, isB_bool_bool, isB_bool_int, isB_bool_str, isB_bool_tuple, isB_bool_list, isB_bool_dict, isB_int_bool, isB_int_int, isB_int_str, isB_int_tuple, isB_int_list, isB_int_dict, isB_str_bool, isB_str_int, isB_str_str, isB_str_tuple, isB_str_list, isB_str_dict, isB_tuple_bool, isB_tuple_int, isB_tuple_str, isB_tuple_tuple, isB_tuple_list, isB_tuple_dict, isB_list_bool, isB_list_int, isB_list_str, isB_list_tuple, isB_list_list, isB_list_dict, isB_dict_bool, isB_dict_int, isB_dict_str, isB_dict_tuple, isB_dict_list, isB_dict_dict, isC_bool, isC_int, isC_str, isC_tuple, isC_list, isC_dict, isA_list_tuple, isQ_NoneType, isQ_bool, isQ_int, isQ_str, isQ_tuple, isQ_list, isQ_dict, true_and, and_true, Bool.not_true, Bool.not_false, Bool.false_eq_true, Bool.true_xor, Bool.false_xor]
    refine any_b A hb nef (by rw [List.length_map]; omega) fun x hx N2 h2 _ => ⟨by omega, ?_⟩
    obtain ⟨s, hs, rfl⟩ := List.mem_map.mp hx
    exact q _ ⟨_, _, rfl, .has hs⟩ N2 h2
  · simp only [wb__law_cond_c4, w_any_from, w_any_has, w_any_is, w_any_not, w_any_and, w_any_or, w_from_any, w_from_has, w_from_is, w_from_not, w_from_and, w_from_or, w_has_any, w_has_from, w_has_is, w_has_not, w_has_and, w_has_or, w_is_any, w_is_from, w_is_has, w_is_not, w_is_and, w_is_or, w_not_any, w_not_from, w_not_has, w_not_is, w_not_and, w_not_or, w_and_any, w_and_from, w_and_has, w_and_is, w_and_not, w_and_or, w_or_any, w_or_from, w_or_has, w_or_is, w_or_not, w_or_and, or_self, or_true, true_or, or_false, false_or, decide_true, decide_false, grD, ↓pVar, ↓pGet, ↓pC, ↓pOp, ↓pUn, ↓pCB, ↓pNil, ↓pCons, ↓pTest, ↓pBl, ↓pAndT, ↓pOrT, ↓pNotT, ↓pAndV, ↓pOrV, ↓pNotV, ↓pIfE, ↓pTup, ↓pLst, ↓pLstO, ↓pCall, ↓pMeth, ↓pFld, ↓pProp, ↓pMake, ↓pCv, ↓pSl, ↓pNo, ↓pSome, ↓pIntK, ↓pN, ↓pT, ↓pGC, ↓pGN, ↓pIf, ↓pRet, ↓pRetN, ↓pDrop, ↓pAsg, ↓pNx, ↓pBrk, ↓pCnt, ↓pNever, ↓pSub, ↓pAug, ↓pPar, ↓pParK, ↓pBM, ↓pFor, ↓pLc, ↓pLcO, ↓pYes, ↓piSeq, ↓piStr, ↓pStrK, ↓piRng1, ↓pRng1K, ↓piRng2, ↓pRng2K, ↓piEnum, ↓pEnumK, ↓piZip, ↓pZipL, ↓pZipT, ↓pFz, ↓pLenSet, ↓pIsT, ↓rIx_lst, ↓rIx_tup, ↓rIx_ref, ↓rIx_str, ↓rLen_str, ↓rLen_lst, ↓rLen_tup, ↓rLen_ref, ↓rIs_p, ↓rInt_int, ↓rInt_bl, ↓rStr_int, ↓rList_p, ↓rListO_p, ↓rTup_p, ↓rAdd_int, ↓rAdd_str, ↓rAdd_tup, ↓rAdd_lst, ↓rIntD_p, ↓rInt0_p, ↓rEq_int, ↓rEq_str, ↓rEq_bl, ↓rEq_lst, ↓rEq_tup, ↓rIsN_non, ↓rIsN_bl, ↓rIsN_int, ↓rIsN_str, ↓rIsN_tup, ↓rIsN_lst, ↓rNeg_p, ↓rSl_str, ↓rSl_tup, ↓rSl_lst, ↓rSl_scr, ↓rRep_p, ↓pOptK, ↓pChain, ↓pIfT, ↓pCallK, ↓pDzip, ↓pDzipK, ↓pDzipO, ↓pDzipKO, ↓rIsB_bl, ↓rDix_str, ↓rDix_int, ↓rIn_tup, ↓rIn_lst, ↓rEq_ns, ↓rEq_sn, ↓rRepT_p, ↓rAll_f, ↓rAll_t, ↓wSeq_p, ↓seqE_nx, ↓reduceIte, at_0, at_1, at_2, at_3, cut_1, cut_2, dl_0_0, dl_0_1, dl_0_2, dl_0_3, dl_0_4, dl_0_5, dl_1_0, dl_1_1, dl_1_2, dl_1_3, dl_1_4, dl_1_5, dl_2_0, dl_2_1, dl_2_2, dl_2_3, dl_2_4, dl_2_5, dl_3_0, dl_3_1, dl_3_2, dl_3_3, dl_3_4, dl_3_5, dl_4_0, dl_4_1, dl_4_2, dl_4_3, dl_4_4, dl_4_5, dn_1_0, dn_2_0, dn_2_1, dn_3_0, dn_3_1, dn_3_2, dn_4_0, dn_4_1, dn_4_2, dn_4_3, seqE_rt, seqE_bk, seqE_ct, seqE_ex, wipeD, frz_lst, frz_tup, at1_0, at2_0, at2_1, at3_0, at3_1, at3_2, at4_0, at4_1, at4_2, at4_3, at5_0, at5_1, at5_2, at5_3, at5_4, seqOf_put, seqOf_lst, seqOf_tup, insK_same, tyN_non, tyN_bl, tyN_int, tyN_str, tyN_tup, tyN_lst, tyN_dct, List.getElem?_cons_zero, List.getElem?_cons_succ, List.set_cons_zero, List.set_cons_succ, List.length_cons, List.length_nil, isB_NoneType_bool, isB_NoneType_int, isB_NoneType_str, isB_NoneType_tuple, isB_NoneType_list, isB_NoneType_dict, isB_bool_bool, isB_bool_int, isB_bool_str, isB_bool_tuple, isB_bool_list, isB_bool_dict, isB_int_bool, isB_int_int, isB_int_str, isB_int_tuple, isB_int_list, isB_int_dict, isB_str_bool, isB_str_int, isB_str_str, isB_str_tuple, isB_str_list, isB_str_dict, isB_tuple_bool, isB_tuple_int, isB_tuple_str, isB_tuple_tuple, isB_tuple_list, isB_tuple_dict, isB_list_bool, isB_list_int, isB_list_str, isB_list_tuple, isB_list_list, isB_list_dict, isB_dict_bool, isB_dict_int, isB_dict_str, isB_dict_tuple, isB_dict_list, isB_dict_dict, isC_bool, isC_int, isC_str, isC_tuple, isC_list, isC_dict, isA_list_tuple, isQ_NoneType, isQ_bool, isQ_int, isQ_str, isQ_tuple, isQ_list, isQ_dict, true_and, and_true, Bool.not_true, Bool.not_false, Bool.false_eq_true, Bool.true_xor, Bool.false_xor]
    refine any_b A hb nef (by rw [List.length_map]; omega) fun x hx N2 h2 _ => ?_
    obtain ⟨s, hs, rfl⟩ := List.mem_map.mp hx
    have e : cutL (ws.map D.str) none (some 2) = (ws.map D.str).take 2 := cut_to (k := 2) (by rw [List.length_map]; omega)
    rw [e]
    refine any_b A h2 (fun z => ?_) (by rw [List.length_take]; omega) fun y hy N3 h3 _ => ⟨by omega, ?_⟩
    · have := congrArg List.length z
      rw [List.length_take, List.length_map, w5] at this
      cases this
    · obtain ⟨v, hv, rfl⟩ := List.mem_map.mp (List.mem_of_mem_take hy)
      exact q _ ⟨_, _, rfl, .is hs (gr.w.ok v hv)⟩ N3 h3
  · simp only [wb__law_cond_c4, w_any_from, w_any_has, w_any_is, w_any_not, w_any_and, w_any_or, w_from_any, w_from_has, w_from_is, w_from_not, w_from_and, w_from_or, w_has_any, w_has_from, w_has_is, w_has_not, w_has_and, w_has_or, w_is_any, w_is_from, w_is_has, w_is_not, w_is_and, w_is_or, w_not_any, w_not_from, w_not_has, w_not_is, w_not_and, w_not_or, w_and_any, w_and_from, w_and_has, w_and_is, w_and_not, w_and_or, w_or_any, w_or_from, w_or_has, w_or_is, w_or_not, w_or_and, or_self, or_true, true_or, or_false, false_or, decide_true, decide_false, ↓pVar, ↓pGet, ↓pC, ↓pOp, ↓pUn, ↓pCB, ↓pNil, ↓pCons, ↓pTest, ↓pBl, ↓pAndT, ↓pOrT, ↓pNotT, ↓pAndV, ↓pOrV, ↓pNotV, ↓pIfE, ↓pTup, ↓pLst, ↓pLstO, ↓pCall, ↓pMeth, ↓pFld, ↓pProp, ↓pMake, ↓pCv, ↓pSl, ↓pNo, ↓pSome, ↓pIntK, ↓pN, ↓pT, ↓pGC, ↓pGN, ↓pIf, ↓pRet, ↓pRetN, ↓pDrop, ↓pAsg, ↓pNx, ↓pBrk, ↓pCnt, ↓pNever, ↓pSub, ↓pAug, ↓pPar, ↓pParK, ↓pBM, ↓pFor, ↓pLc, ↓pLcO, ↓pYes, ↓piSeq, ↓piStr, ↓pStrK, ↓piRng1, ↓pRng1K, ↓piRng2, ↓pRng2K, ↓piEnum, ↓pEnumK, ↓piZip, ↓pZipL, ↓pZipT, ↓pFz, ↓pLenSet, ↓pIsT, ↓rIx_lst, ↓rIx_tup, ↓rIx_ref, ↓rIx_str, ↓rLen_str, ↓rLen_lst, ↓rLen_tup, ↓rLen_ref, ↓rIs_p, ↓rInt_int, ↓rInt_bl, ↓rStr_int, ↓rList_p, ↓rListO_p, ↓rTup_p, ↓rAdd_int, ↓rAdd_str, ↓rAdd_tup, ↓rAdd_lst, ↓rIntD_p, ↓rInt0_p, ↓rEq_int, ↓rEq_str, ↓rEq_bl, ↓rEq_lst, ↓rEq_tup, ↓rIsN_non, ↓rIsN_bl, ↓rIsN_int, ↓rIsN_str, ↓rIsN_tup, ↓rIsN_lst, ↓rNeg_p, ↓rSl_str, ↓rSl_tup, ↓rSl_lst, ↓rSl_scr, ↓rRep_p, ↓pOptK, ↓pChain, ↓pIfT, ↓pCallK, ↓pDzip, ↓pDzipK, ↓pDzipO, ↓pDzipKO, ↓rIsB_bl, ↓rDix_str, ↓rDix_int, ↓rIn_tup, ↓rIn_lst, ↓rEq_ns, ↓rEq_sn, ↓rRepT_p, ↓rAll_f, ↓rAll_t, ↓wSeq_p, ↓seqE_nx, ↓reduceIte, at_0, at_1, at_2, at_3, cut_1, cut_2, dl_0_0, dl_0_1, dl_0_2, dl_0_3, dl_0_4, dl_0_5, dl_1_0, dl_1_1, dl_1_2, dl_1_3, dl_1_4, dl_1_5, dl_2_0, dl_2_1, dl_2_2, dl_2_3, dl_2_4, dl_2_5, dl_3_0, dl_3_1, dl_3_2, dl_3_3, dl_3_4, dl_3_5, dl_4_0, dl_4_1, dl_4_2, dl_4_3, dl_4_4, dl_4_5, dn_1_0, dn_2_0, dn_2_1, dn_3_0, dn_3_1, dn_3_2, dn_4_0, dn_4_1, dn_4_2, dn_4_3, seqE_rt, seqE_bk, seqE_ct, seqE_ex, wipeD, frz_lst, frz_tup, at1_0, at2_0, at2_1, at3_0, at3_1, at3_2, at4_0, at4_1, at4_2, at4_3, at5_0, at5_1, at5_2, at5_3, at5_4, seqOf_put, seqOf_lst, seqOf_tup, insK_same, tyN_non, tyN_bl, tyN_int, tyN_str, tyN_tup, tyN_lst, tyN_dct, List.getElem?_cons_zero, List.getElem?_cons_succ, List.set_cons_zero, List.set_cons_succ, List.length_cons, List.length_nil, isB_NoneType_bool, isB_NoneType_int, isB_NoneType_str, isB_NoneType_tuple, isB_NoneType_list, isB_NoneType_dict, isB_bool_bool, isB_bool_int, isB_bool_str, isB_bool_tuple, isB_bool_list, isB_bool_dict, isB_int_bool, isB_int_int, isB_int_str, isB_int_tuple, isB_int_list, isB_int_dict, isB_str_bool, isB_str_int, isB_str_str, isB_str_tuple, isB_str_list, isB_str_dict, isB_tuple_bool, isB_tuple_int, isB_tuple_str, isB_tuple_tuple, isB_tuple_list, isB_tuple_dict, isB_list_bool, isB_list_int, isB_list_str, isB_list_tuple, isB_list_list, isB_list_dict, isB_dict_bool, isB_dict_int, isB_dict_str, isB_dict_tuple, isB_dict_list, isB_dict_dict, isC_bool, isC_int, isC_str, isC_tuple, isC_list, isC_dict, isA_list_tuple, isQ_NoneType, isQ_bool, isQ_int, isQ_str, isQ_tuple, isQ_list, isQ_dict, true_and, and_true, Bool.not_true, Bool.not_false, Bool.false_eq_true, Bool.true_xor, Bool.false_xor]
    obtain ⟨o3, e3, b3⟩ := bgd_at hb
    exact ⟨b, fs, ss, ws, o3, nf, ns, k - 1, rfl, gr, e3, b3, by omega, by omega, fun d hd o4 b4 => ⟨by omega, q _ ⟨_, _, rfl, .nt hd⟩ _ (bgd_put hb b4)⟩⟩
  · simp only [wb__law_cond_c4, w_any_from, w_any_has, w_any_is, w_any_not, w_any_and, w_any_or, w_from_any, w_from_has, w_from_is, w_from_not, w_from_and, w_from_or, w_has_any, w_has_from, w_has_is, w_has_not, w_has_and, w_has_or, w_is_any, w_is_from, w_is_has, w_is_not, w_is_and, w_is_or, w_not_any, w_not_from, w_not_has, w_not_is, w_not_and, w_not_or, w_and_any, w_and_from, w_and_has, w_and_is, w_and_not, w_and_or, w_or_any, w_or_from, w_or_has, w_or_is, w_or_not, w_or_and, or_self, or_true, true_or, or_false, false_or, decide_true, decide_false, ↓pVar, ↓pGet, ↓pC, ↓pOp, ↓pUn, ↓pCB, ↓pNil, ↓pCons, ↓pTest, ↓pBl, ↓pAndT, ↓pOrT, ↓pNotT, ↓pAndV, ↓pOrV, ↓pNotV, ↓pIfE, ↓pTup, ↓pLst, ↓pLstO, ↓pCall, ↓pMeth, ↓pFld, ↓pProp, ↓pMake, ↓pCv, ↓pSl, ↓pNo, ↓pSome, ↓pIntK, ↓pN, ↓pT, ↓pGC, ↓pGN, ↓pIf, ↓pRet, ↓pRetN, ↓pDrop, ↓pAsg, ↓pNx, ↓pBrk, ↓pCnt, ↓pNever, ↓pSub, ↓pAug, ↓pPar, ↓pParK, ↓pBM, ↓pFor, ↓pLc, ↓pLcO, ↓pYes, ↓piSeq, ↓piStr, ↓pStrK, ↓piRng1, ↓pRng1K, ↓piRng2, ↓pRng2K, ↓piEnum, ↓pEnumK, ↓piZip, ↓pZipL, ↓pZipT, ↓pFz, ↓pLenSet, ↓pIsT, ↓rIx_lst, ↓rIx_tup, ↓rIx_ref, ↓rIx_str, ↓rLen_str, ↓rLen_lst, ↓rLen_tup, ↓rLen_ref, ↓rIs_p, ↓rInt_int, ↓rInt_bl, ↓rStr_int, ↓rList_p, ↓rListO_p, ↓rTup_p, ↓rAdd_int, ↓rAdd_str, ↓rAdd_tup, ↓rAdd_lst, ↓rIntD_p, ↓rInt0_p, ↓rEq_int, ↓rEq_str, ↓rEq_bl, ↓rEq_lst, ↓rEq_tup, ↓rIsN_non, ↓rIsN_bl, ↓rIsN_int, ↓rIsN_str, ↓rIsN_tup, ↓rIsN_lst, ↓rNeg_p, ↓rSl_str, ↓rSl_tup, ↓rSl_lst, ↓rSl_scr, ↓rRep_p, ↓pOptK, ↓pChain, ↓pIfT, ↓pCallK, ↓pDzip, ↓pDzipK, ↓pDzipO, ↓pDzipKO, ↓rIsB_bl, ↓rDix_str, ↓rDix_int, ↓rIn_tup, ↓rIn_lst, ↓rEq_ns, ↓rEq_sn, ↓rRepT_p, ↓rAll_f, ↓rAll_t, ↓wSeq_p, ↓seqE_nx, ↓reduceIte, at_0, at_1, at_2, at_3, cut_1, cut_2, dl_0_0, dl_0_1, dl_0_2, dl_0_3, dl_0_4, dl_0_5, dl_1_0, dl_1_1, dl_1_2, dl_1_3, dl_1_4, dl_1_5, dl_2_0, dl_2_1, dl_2_2, dl_2_3, dl_2_4, dl_2_5, dl_3_0, dl_3_1, dl_3_2, dl_3_3, dl_3_4, dl_3_5, dl_4_0, dl_4_1, dl_4_2, dl_4_3, dl_4_4, dl_4_5, dn_1_0, dn_2_0, dn_2_1, dn_3_0, dn_3_1, dn_3_2, dn_4_0, dn_4_1, dn_4_2, dn_4_3, seqE_rt, seqE_bk, seqE_ct, seqE_ex, wipeD, frz_lst, frz_tup, at1_0, at2_0, at2_1, at3_0, at3_1, at3_2, at4_0, at4_1, at4_2, at4_3, at5_0, at5_1, at5_2, at5_3, at5_4, seqOf_put, seqOf_lst, seqOf_tup, insK_same, tyN_non, tyN_bl, tyN_int, tyN_str, tyN_tup, tyN_lst, tyN_dct, List.getElem?_cons_zero, List.getElem?_cons_succ, List.set_cons_zero, List.set_cons_succ, List.length_cons, List.length_nil, isB_NoneType_bool, isB_NoneType_int, isB_NoneType_str, isB_NoneType_tuple, isB_NoneType_list, isB_NoneType_dict, isB_bool_bool, isB_bool_int, isB_bool_str, isB_bool_tuple, isB_bool_list, isB_bool_dict, isB_int_bool, isB_int_int, isB_int_str, isB_int_tuple, isB_int_list, isB_int_dict, isB_str_bool, isB_str_int, isB_str_str, isB_str_tuple, isB_str_list, isB_str_dict, isB_tuple_bool, isB_tuple_int, isB_tuple_str, isB_tuple_tuple, isB_tuple_list, isB_tuple_dict, isB_list_bool, isB_list_int, isB_list_str, isB_list_tuple, isB_list_list, isB_list_dict, isB_dict_bool, isB_dict_int, isB_dict_str, isB_dict_tuple, isB_dict_list, isB_dict_dict, isC_bool, isC_int, isC_str, isC_tuple, isC_list, isC_dict, isA_list_tuple, isQ_NoneType, isQ_bool, isQ_int, isQ_str, isQ_tuple, isQ_list, isQ_dict, true_and, and_true, Bool.not_true, Bool.not_false, Bool.false_eq_true, Bool.true_xor, Bool.false_xor]
    exact lcond_c5 A n gr hb kp kn (.inl rfl) q
  · simp only [wb__law_cond_c4, w_any_from, w_any_has, w_any_is, w_any_not, w_any_and, w_any_or, w_from_any, w_from_has, w_from_is, w_from_not, w_from_and, w_from_or, w_has_any, w_has_from, w_has_is, w_has_not, w_has_and, w_has_or, w_is_any, w_is_from, w_is_has, w_is_not, w_is_and, w_is_or, w_not_any, w_not_from, w_not_has, w_not_is, w_not_and, w_not_or, w_and_any, w_and_from, w_and_has, w_and_is, w_and_not, w_and_or, w_or_any, w_or_from, w_or_has, w_or_is, w_or_not, w_or_and, or_self, or_true, true_or, or_false, false_or, decide_true, decide_false, ↓pVar, ↓pGet, ↓pC, ↓pOp, ↓pUn, ↓pCB, ↓pNil, ↓pCons, ↓pTest, ↓pBl, ↓pAndT, ↓pOrT, ↓pNotT, ↓pAndV, ↓pOrV, ↓pNotV, ↓pIfE, ↓pTup, ↓pLst, ↓pLstO, ↓pCall, ↓pMeth, ↓pFld, ↓pProp, ↓pMake, ↓pCv, ↓pSl, ↓pNo, ↓pSome, ↓pIntK, ↓pN, ↓pT, ↓pGC, ↓pGN, ↓pIf, ↓pRet, ↓pRetN, ↓pDrop, ↓pAsg, ↓pNx, ↓pBrk, ↓pCnt, ↓pNever, ↓pSub, ↓pAug, ↓pPar, ↓pParK, ↓pBM, ↓pFor, ↓pLc, ↓pLcO, ↓pYes, ↓piSeq, ↓piStr, ↓pStrK, ↓piRng1, ↓pRng1K, ↓piRng2, ↓pRng2K, ↓piEnum, ↓pEnumK, ↓piZip, ↓pZipL, ↓pZipT, ↓pFz, ↓pLenSet, ↓pIsT, ↓rIx_lst, ↓rIx_tup, ↓rIx_ref, ↓rIx_str, ↓rLen_str, ↓rLen_lst, ↓rLen_tup, ↓rLen_ref, ↓rIs_p, ↓rInt_int, ↓rInt_bl, ↓rStr_int, ↓rList_p, ↓rListO_p, ↓rTup_p, ↓rAdd_int, ↓rAdd_str, ↓rAdd_tup, ↓rAdd_lst, ↓rIntD_p, ↓rInt0_p, ↓rEq_int, ↓rEq_str, ↓rEq_bl, ↓rEq_lst, ↓rEq_tup, ↓rIsN_non, ↓rIsN_bl, ↓rIsN_int, ↓rIsN_str, ↓rIsN_tup, ↓rIsN_lst, ↓rNeg_p, ↓rSl_str, ↓rSl_tup, ↓rSl_lst, ↓rSl_scr, ↓rRep_p, ↓pOptK, ↓pChain, ↓pIfT, ↓pCallK, ↓pDzip, ↓pDzipK, ↓pDzipO, ↓pDzipKO, ↓rIsB_bl, ↓rDix_str, ↓rDix_int, ↓rIn_tup, ↓rIn_lst, ↓rEq_ns, ↓rEq_sn, ↓rRepT_p, ↓rAll_f, ↓rAll_t, ↓wSeq_p, ↓seqE_nx, ↓reduceIte, at_0, at_1, at_2, at_3, cut_1, cut_2, dl_0_0, dl_0_1, dl_0_2, dl_0_3, dl_0_4, dl_0_5, dl_1_0, dl_1_1, dl_1_2, dl_1_3, dl_1_4, dl_1_5, dl_2_0, dl_2_1, dl_2_2, dl_2_3, dl_2_4, dl_2_5, dl_3_0, dl_3_1, dl_3_2, dl_3_3, dl_3_4, dl_3_5, dl_4_0, dl_4_1, dl_4_2, dl_4_3, dl_4_4, dl_4_5, dn_1_0, dn_2_0, dn_2_1, dn_3_0, dn_3_1, dn_3_2, dn_4_0, dn_4_1, dn_4_2, dn_4_3, seqE_rt, seqE_bk, seqE_ct, seqE_ex, wipeD, frz_lst, frz_tup, at1_0, at2_0, at2_1, at3_0, at3_1, at3_2, at4_0, at4_1, at4_2, at4_3, at5_0, at5_1, at5_2, at5_3, at5_4, seqOf_put, seqOf_lst, seqOf_tup, insK_same, tyN_non, tyN_bl, tyN_int, tyN_str, tyN_tup, tyN_lst, tyN_dct, List.getElem?_cons_zero, List.getElem?_cons_succ, List.set_cons_zero, List.set_cons_succ, List.length_cons, List.length_nil, isB_NoneType_bool, isB_NoneType_int, isB_NoneType_str, isB_NoneType_tuple, isB_NoneType_list, isB_NoneType_dict, isB_bool_bool, isB_bool_int, isB_bool_str, isB_bool_tuple, isB_bool_list, isB_bool_dict, isB_int_bool, isB_int_int, isB_int_str, isB_int_tuple, isB_int_list, isB_int_dict, isB_str_bool, isB_str_int, isB_str_str, isB_str_tuple, isB_str_list, isB_str_dict, isB_tuple_bool, isB_tuple_int, isB_tuple_str, isB_tuple_tuple, isB_tuple_list, isB_tuple_dict, isB_list_bool, isB_list_int, isB_list_str, isB_list_tuple, isB_list_list, isB_list_dict, isB_dict_bool, isB_dict_int, isB_dict_str, isB_dict_tuple, isB_dict_list, isB_dict_dict, isC_bool, isC_int, isC_str, isC_tuple, isC_list, isC_dict, isA_list_tuple, isQ_NoneType, isQ_bool, isQ_int, isQ_str, isQ_tuple, isQ_list, isQ_dict, true_and, and_true, Bool.not_true, Bool.not_false, Bool.false_eq_true, Bool.true_xor, Bool.false_xor]
    exact lcond_c5 A n gr hb kp kn (.inr rfl) q
theorem lcond_c3 (A : Ad) (n : Nat) {b : Addr} {fs ss ws : List Str} {nf ns k : Int} {W : List D} {M N : Mem} {E : ED} {x6 x7 x8 x9 : Option D} (gr : GrOk nf ns fs ss ws) (hb : Bgd M b N) (k0 : 0 ≤ k) (kn : k ≤ n)
    (ne : W ≠ []) (hl : W.length < 1000) (hW : ∀ x ∈ W, ∃ w, x = .str w ∧ (w = "any" ∨ w = "from" ∨ w = "has" ∨ w = "is" ∨ (0 < k ∧ (w = "not" ∨ w = "and" ∨ w = "or"))))
    (q : ∀ d, CondD fs ss (n + 1) d → ∀ N', Bgd M b N' → E.rt d N') :
    wb__law_cond_c3 A n E [some (.ref b), some (grD fs ss ws), some (.lst ((cols fs).map D.str)), some (.int k), some (.lst (fs.map D.str)), some (.lst W), x6, x7, x8, x9] N := by
  simp only [wb__law_cond_c3, ↓pVar, ↓pGet, ↓pC, ↓pOp, ↓pUn, ↓pCB, ↓pNil, ↓pCons, ↓pTest, ↓pBl, ↓pAndT, ↓pOrT, ↓pNotT, ↓pAndV, ↓pOrV, ↓pNotV, ↓pIfE, ↓pTup, ↓pLst, ↓pLstO, ↓pCall, ↓pMeth, ↓pFld, ↓pProp, ↓pMake, ↓pCv, ↓pSl, ↓pNo, ↓pSome, ↓pIntK, ↓pN, ↓pT, ↓pGC, ↓pGN, ↓pIf, ↓pRet, ↓pRetN, ↓pDrop, ↓pAsg, ↓pNx, ↓pBrk, ↓pCnt, ↓pNever, ↓pSub, ↓pAug, ↓pPar, ↓pParK, ↓pBM, ↓pFor, ↓pLc, ↓pLcO, ↓pYes, ↓piSeq, ↓piStr, ↓pStrK, ↓piRng1, ↓pRng1K, ↓piRng2, ↓pRng2K, ↓piEnum, ↓pEnumK, ↓piZip, ↓pZipL, ↓pZipT, ↓pFz, ↓pLenSet, ↓pIsT, ↓rIx_lst, ↓rIx_tup, ↓rIx_ref, ↓rIx_str, ↓rLen_str, ↓rLen_lst, ↓rLen_tup, ↓rLen_ref, ↓rIs_p, ↓rInt_int, ↓rInt_bl, ↓rStr_int, ↓rList_p, ↓rListO_p, ↓rTup_p, ↓rAdd_int, ↓rAdd_str, ↓rAdd_tup, ↓rAdd_lst, ↓rIntD_p, ↓rInt0_p, ↓rEq_int, ↓rEq_str, ↓rEq_bl, ↓rEq_lst, ↓rEq_tup, ↓rIsN_non, ↓rIsN_bl, ↓rIsN_int, ↓rIsN_str, ↓rIsN_tup, ↓rIsN_lst, ↓rNeg_p, ↓rSl_str, ↓rSl_tup, ↓rSl_lst, ↓rSl_scr, ↓rRep_p, ↓pOptK, ↓pChain, ↓pIfT, ↓pCallK, ↓pDzip, ↓pDzipK, ↓pDzipO, ↓pDzipKO, ↓rIsB_bl, ↓rDix_str, ↓rDix_int, ↓rIn_tup, ↓rIn_lst, ↓rEq_ns, ↓rEq_sn, ↓rRepT_p, ↓rAll_f, ↓rAll_t, ↓wSeq_p, ↓seqE_nx, ↓reduceIte, at_0, at_1, at_2, at_3, cut_1, cut_2, dl_0_0, dl_0_1, dl_0_2, dl_0_3, dl_0_4, dl_0_5, dl_1_0, dl_1_1, dl_1_2, dl_1_3, dl_1_4, dl_1_5, dl_2_0, dl_2_1, dl_2_2, dl_2_3, dl_2_4, dl_2_5, dl_3_0, dl_3_1, dl_3_2, dl_3_3, dl_3_4, dl_3_5, dl_4_0, dl_4_1, dl_4_2, dl_4_3, dl_4_4, dl_4_5, dn_1_0, dn_2_0, dn_2_1, dn_3_0, dn_3_1, dn_3_2, dn_4_0, dn_4_1, dn_4_2, dn_4_3, seqE_rt, seqE_bk, seqE_ct, seqE_ex, wipeD, frz_lst, frz_tup, at1_0, at2_0, at2_1, at3_0, at3_1, at3_2, at4_0, at4_1, at4_2, at4_3, at5_0, at5_1, at5_2, at5_3, at5_4, seqOf_put, seqOf_lst, seqOf_tup, insK_same, tyN_non, tyN_bl, tyN_int, tyN_str, tyN_tup, tyN_lst, tyN_dct, List.getElem?_cons_zero, List.getElem?_cons_succ, List.set_cons_zero, List.set_cons_succ, List.length_cons, List.length_nil, isB_NoneType_bool, isB_NoneType_int, isB_NoneType_str, isB_NoneType_tuple, isB_NoneType_list, isB_NoneType_dict, isB_bool_bool, isB_bool_int, isB_bool_str, isB_bool_tuple, isB_bool_list, isB_bool_dict, isB_int_bool, isB_int_int, isB_int_str, isB_int_tuple, isB_int_list, isB_int_dict, isB_str_bool, isB_str_int, isB_str_str, isB_str_tuple, isB_str_list, isB_str_dict, isB_tuple_bool, isB_tuple_int, isB_tuple_str, isB_tuple_tuple, isB_tuple_list, isB_tuple_dict, isB_list_bool, isB_list_int, isB_list_str, isB_list_tuple, isB_list_list, isB_list_dict, isB_dict_bool, isB_dict_int, isB_dict_str, isB_dict_tuple, isB_dict_list, isB_dict_dict, isC_bool, isC_int, isC_str, isC_tuple, isC_list, isC_dict, isA_list_tuple, isQ_NoneType, isQ_bool, isQ_int, isQ_str, isQ_tuple, isQ_list, isQ_dict, true_and, and_true, Bool.not_true, Bool.not_false, Bool.false_eq_true, Bool.true_xor, Bool.false_xor]
  refine fin_of (any_b A hb ne (by omega) fun x hx N2 h2 _ => ?_)
  obtain ⟨w, rfl, hw⟩ := hW x hx
  exact lcond_c4 A n gr h2 k0 kn hw q
theorem names_nc {fs : List Str} (h : NamesOk fs) {n : Nat} (hn : 0 < n) : Nc (.lst (fs.map D.str)) n := ⟨⟨hn, by rw [List.length_map]; have := h.hi; omega⟩, Ncs_iff.mpr fun d hd => by
  obtain ⟨x, hx, rfl⟩ := List.mem_map.mp hd
  exact made_nc okLET (h.ok x hx)⟩
theorem rd__law_cond (A : Ad) (n : Nat) : ∀ ds M Q Xc, sp__law_cond A (n + 1) ds M Q Xc → ds.length = P__law_cond.length ∧ RD (wb__law_cond A n) Q Xc (startD N__law_cond ds) M := by
  rintro _ M Q Xc ⟨b, fs, ss, ws, o, nf, ns, k, rfl, gr, hb, g, k0, kn, q⟩
  refine ⟨rfl, ?_⟩
  rw [st__law_cond]
  have big := sizeLine_big
  have f5 := gr.f.hi
  have ina : ∀ x, x ∈ cols fs → inD (.str x) ((cols fs).map D.str) = true := fun x hx => by
    rw [inD_flat rfl, strIn_str, decide_eq_true hx]
  simp only [RD, wb__law_cond, ↓pVar, ↓pGet, ↓pC, ↓pOp, ↓pUn, ↓pCB, ↓pNil, ↓pCons, ↓pTest, ↓pBl, ↓pAndT, ↓pOrT, ↓pNotT, ↓pAndV, ↓pOrV, ↓pNotV, ↓pIfE, ↓pTup, ↓pLst, ↓pLstO, ↓pCall, ↓pMeth, ↓pFld, ↓pProp, ↓pMake, ↓pCv, ↓pSl, ↓pNo, ↓pSome, ↓pIntK, ↓pN, ↓pT, ↓pGC, ↓pGN, ↓pIf, ↓pRet, ↓pRetN, ↓pDrop, ↓pAsg, ↓pNx, ↓pBrk, ↓pCnt, ↓pNever, ↓pSub, ↓pAug, ↓pPar, ↓pParK, ↓pBM, ↓pFor, ↓pLc, ↓pLcO, ↓pYes, ↓piSeq, ↓piStr, ↓pStrK, ↓piRng1, ↓pRng1K, ↓piRng2, ↓pRng2K, ↓piEnum, ↓pEnumK, ↓piZip, ↓pZipL, ↓pZipT, ↓pFz, ↓pLenSet, ↓pIsT, ↓rIx_lst, ↓rIx_tup, ↓rIx_ref, ↓rIx_str, ↓rLen_str, ↓rLen_lst, ↓rLen_tup, ↓rLen_ref, ↓rIs_p, ↓rInt_int, ↓rInt_bl, ↓rStr_int, ↓rList_p, ↓rListO_p, ↓rTup_p, ↓rAdd_int, ↓rAdd_str, ↓rAdd_tup, ↓rAdd_lst, ↓rIntD_p, ↓rInt0_p, ↓rEq_int, ↓rEq_str, ↓rEq_bl, ↓rEq_lst, ↓rEq_tup, ↓rIsN_non, ↓rIsN_bl, ↓rIsN_int, ↓rIsN_str, ↓rIsN_tup, ↓rIsN_lst, ↓rNeg_p, ↓rSl_str, ↓rSl_tup, ↓rSl_lst, ↓rSl_scr, ↓rRep_p, ↓pOptK, ↓pChain, ↓pIfT, ↓pCallK, ↓pDzip, ↓pDzipK, ↓pDzipO, ↓pDzipKO, ↓rIsB_bl, ↓rDix_str, ↓rDix_int, ↓rIn_tup, ↓rIn_lst, ↓rEq_ns, ↓rEq_sn, ↓rRepT_p, ↓rAll_f, ↓rAll_t, ↓wSeq_p, ↓seqE_nx, ↓reduceIte, at_0, at_1, at_2, at_3, cut_1, cut_2, dl_0_0, dl_0_1, dl_0_2, dl_0_3, dl_0_4, dl_0_5, dl_1_0, dl_1_1, dl_1_2, dl_1_3, dl_1_4, dl_1_5, dl_2_0, dl_2_1, dl_2_2, dl_2_3, dl_2_4, dl_2_5, dl_3_0, dl_3_1, dl_3_2, dl_3_3, dl_3_4, dl_3_5, dl_4_0, dl_4_1, dl_4_2, dl_4_3, dl_4_4, dl_4_5, dn_1_0, dn_2_0, dn_2_1, dn_3_0, dn_3_1, dn_3_2, dn_4_0, dn_4_1, dn_4_2, dn_4_3, seqE_rt, seqE_bk, seqE_ct, seqE_ex, wipeD, frz_lst, frz_tup, at1_0, at2_0, at2_1, at3_0, at3_1, at3_2, at4_0, at4_1, at4_2, at4_3, at5_0, at5_1, at5_2, at5_3, at5_4, seqOf_put, seqOf_lst, seqOf_tup, insK_same, tyN_non, tyN_bl, tyN_int, tyN_str, tyN_tup, tyN_lst, tyN_dct, List.getElem?_cons_zero, List.getElem?_cons_succ, List.set_cons_zero, List.set_cons_succ, List.length_cons, List.length_nil, isB_NoneType_bool, isB_NoneType_int, isB_NoneType_str, isB_NoneType_tuple, isB_NoneType_list, isB_NoneType_dict, isB_bool_bool, isB_bool_int, isB_bool_str, isB_bool_tuple, isB_bool_list, isB_bool_dict, isB_int_bool, isB_int_int, isB_int_str, isB_int_tuple, isB_int_list, isB_int_dict, isB_str_bool, isB_str_int, isB_str_str, isB_str_tuple, isB_str_list, isB_str_dict, isB_tuple_bool, isB_tuple_int, isB_tuple_str, isB_tuple_tuple, isB_tuple_list, isB_tuple_dict, isB_list_bool, isB_list_int, isB_list_str, isB_list_tuple, isB_list_list, isB_list_dict, isB_dict_bool, isB_dict_int, isB_dict_str, isB_dict_tuple, isB_dict_list, isB_dict_dict, isC_bool, isC_int, isC_str, isC_tuple, isC_list, isC_dict, isA_list_tuple, isQ_NoneType, isQ_bool, isQ_int, isQ_str, isQ_tuple, isQ_list, isQ_dict, true_and, and_true, Bool.not_true, Bool.not_false, Bool.false_eq_true, Bool.true_xor, Bool.false_xor, grD]
  refine lcR_filt D.str D.str (fun x => decide (x ∈ cols fs)) (fun x => x ∈ fs) (fun x acc R hx h => ?_) fs [] (fun x h => h) (by simp only [List.length_nil]; omega) ?_
  · simp only [↓pVar, ↓pGet, ↓pC, ↓pOp, ↓pUn, ↓pCB, ↓pNil, ↓pCons, ↓pTest, ↓pBl, ↓pAndT, ↓pOrT, ↓pNotT, ↓pAndV, ↓pOrV, ↓pNotV, ↓pIfE, ↓pTup, ↓pLst, ↓pLstO, ↓pCall, ↓pMeth, ↓pFld, ↓pProp, ↓pMake, ↓pCv, ↓pSl, ↓pNo, ↓pSome, ↓pIntK, ↓pN, ↓pT, ↓pGC, ↓pGN, ↓pIf, ↓pRet, ↓pRetN, ↓pDrop, ↓pAsg, ↓pNx, ↓pBrk, ↓pCnt, ↓pNever, ↓pSub, ↓pAug, ↓pPar, ↓pParK, ↓pBM, ↓pFor, ↓pLc, ↓pLcO, ↓pYes, ↓piSeq, ↓piStr, ↓pStrK, ↓piRng1, ↓pRng1K, ↓piRng2, ↓pRng2K, ↓piEnum, ↓pEnumK, ↓piZip, ↓pZipL, ↓pZipT, ↓pFz, ↓pLenSet, ↓pIsT, ↓rIx_lst, ↓rIx_tup, ↓rIx_ref, ↓rIx_str, ↓rLen_str, ↓rLen_lst, ↓rLen_tup, ↓rLen_ref, ↓rIs_p, ↓rInt_int, ↓rInt_bl, ↓rStr_int, ↓rList_p, ↓rListO_p, ↓rTup_p, ↓rAdd_int, ↓rAdd_str, ↓rAdd_tup, ↓rAdd_lst, ↓rIntD_p, ↓rInt0_p, ↓rEq_int, ↓rEq_str, ↓rEq_bl, ↓rEq_lst, ↓rEq_tup, ↓rIsN_non, ↓rIsN_bl, ↓rIsN_int, ↓rIsN_str, ↓rIsN_tup, ↓rIsN_lst, ↓rNeg_p, ↓rSl_str, ↓rSl_tup, ↓rSl_lst, ↓rSl_scr, ↓rRep_p, ↓pOptK, ↓pChain, ↓pIfT, ↓pCallK, ↓pDzip, ↓pDzipK, ↓pDzipO, ↓pDzipKO, ↓rIsB_bl, ↓rDix_str, ↓rDix_int, ↓rIn_tup, ↓rIn_lst, ↓rEq_ns, ↓rEq_sn, ↓rRepT_p, ↓rAll_f, ↓rAll_t, ↓wSeq_p, ↓seqE_nx, ↓reduceIte, at_0, at_1, at_2, at_3, cut_1, cut_2, dl_0_0, dl_0_1, dl_0_2, dl_0_3, dl_0_4, dl_0_5, dl_1_0, dl_1_1, dl_1_2, dl_1_3, dl_1_4, dl_1_5, dl_2_0, dl_2_1, dl_2_2, dl_2_3, dl_2_4, dl_2_5, dl_3_0, dl_3_1, dl_3_2, dl_3_3, dl_3_4, dl_3_5, dl_4_0, dl_4_1, dl_4_2, dl_4_3, dl_4_4, dl_4_5, dn_1_0, dn_2_0, dn_2_1, dn_3_0, dn_3_1, dn_3_2, dn_4_0, dn_4_1, dn_4_2, dn_4_3, seqE_rt, seqE_bk, seqE_ct, seqE_ex, wipeD, frz_lst, frz_tup, at1_0, at2_0, at2_1, at3_0, at3_1, at3_2, at4_0, at4_1, at4_2, at4_3, at5_0, at5_1, at5_2, at5_3, at5_4, seqOf_put, seqOf_lst, seqOf_tup, insK_same, tyN_non, tyN_bl, tyN_int, tyN_str, tyN_tup, tyN_lst, tyN_dct, List.getElem?_cons_zero, List.getElem?_cons_succ, List.set_cons_zero, List.set_cons_succ, List.length_cons, List.length_nil, isB_NoneType_bool, isB_NoneType_int, isB_NoneType_str, isB_NoneType_tuple, isB_NoneType_list, isB_NoneType_dict, isB_bool_bool, isB_bool_int, isB_bool_str, isB_bool_tuple, isB_bool_list, isB_bool_dict, isB_int_bool, isB_int_int, isB_int_str, isB_int_tuple, isB_int_list, isB_int_dict, isB_str_bool, isB_str_int, isB_str_str, isB_str_tuple, isB_str_list, isB_str_dict, isB_tuple_bool, isB_tuple_int, isB_tuple_str, isB_tuple_tuple, isB_tuple_list, isB_tuple_dict, isB_list_bool, isB_list_int, isB_list_str, isB_list_tuple, isB_list_list, isB_list_dict, isB_dict_bool, isB_dict_int, isB_dict_str, isB_dict_tuple, isB_dict_list, isB_dict_dict, isC_bool, isC_int, isC_str, isC_tuple, isC_list, isC_dict, isA_list_tuple, isQ_NoneType, isQ_bool, isQ_int, isQ_str, isQ_tuple, isQ_list, isQ_dict, true_and, and_true, Bool.not_true, Bool.not_false, Bool.false_eq_true, Bool.true_xor, Bool.false_xor]
    rw [ina x (mem_cols hx)]
    rw [decide_eq_true (mem_cols hx)] at h
    exact ⟨rfl, flat_map _, h⟩
  · have ef : fs.filter (fun x => decide (x ∈ cols fs)) = fs := List.filter_eq_self.mpr fun x hx => decide_eq_true (mem_cols hx)
    obtain ⟨f, fr, e⟩ : ∃ f fr, fs = f :: fr := by
      cases h : fs with
      | nil => have := gr.f.lo; rw [h] at this; cases this
      | cons a r => exact ⟨a, r, rfl⟩
    have ne : deq (.lst (fs.map D.str)) (.lst []) = false := by rw [e]; rfl
    simp only [wb__law_cond_c0, wb__law_cond_c1, wb__law_cond_c2, ↓pVar, ↓pGet, ↓pC, ↓pOp, ↓pUn, ↓pCB, ↓pNil, ↓pCons, ↓pTest, ↓pBl, ↓pAndT, ↓pOrT, ↓pNotT, ↓pAndV, ↓pOrV, ↓pNotV, ↓pIfE, ↓pTup, ↓pLst, ↓pLstO, ↓pCall, ↓pMeth, ↓pFld, ↓pProp, ↓pMake, ↓pCv, ↓pSl, ↓pNo, ↓pSome, ↓pIntK, ↓pN, ↓pT, ↓pGC, ↓pGN, ↓pIf, ↓pRet, ↓pRetN, ↓pDrop, ↓pAsg, ↓pNx, ↓pBrk, ↓pCnt, ↓pNever, ↓pSub, ↓pAug, ↓pPar, ↓pParK, ↓pBM, ↓pFor, ↓pLc, ↓pLcO, ↓pYes, ↓piSeq, ↓piStr, ↓pStrK, ↓piRng1, ↓pRng1K, ↓piRng2, ↓pRng2K, ↓piEnum, ↓pEnumK, ↓piZip, ↓pZipL, ↓pZipT, ↓pFz, ↓pLenSet, ↓pIsT, ↓rIx_lst, ↓rIx_tup, ↓rIx_ref, ↓rIx_str, ↓rLen_str, ↓rLen_lst, ↓rLen_tup, ↓rLen_ref, ↓rIs_p, ↓rInt_int, ↓rInt_bl, ↓rStr_int, ↓rList_p, ↓rListO_p, ↓rTup_p, ↓rAdd_int, ↓rAdd_str, ↓rAdd_tup, ↓rAdd_lst, ↓rIntD_p, ↓rInt0_p, ↓rEq_int, ↓rEq_str, ↓rEq_bl, ↓rEq_lst, ↓rEq_tup, ↓rIsN_non, ↓rIsN_bl, ↓rIsN_int, ↓rIsN_str, ↓rIsN_tup, ↓rIsN_lst, ↓rNeg_p, ↓rSl_str, ↓rSl_tup, ↓rSl_lst, ↓rSl_scr, ↓rRep_p, ↓pOptK, ↓pChain, ↓pIfT, ↓pCallK, ↓pDzip, ↓pDzipK, ↓pDzipO, ↓pDzipKO, ↓rIsB_bl, ↓rDix_str, ↓rDix_int, ↓rIn_tup, ↓rIn_lst, ↓rEq_ns, ↓rEq_sn, ↓rRepT_p, ↓rAll_f, ↓rAll_t, ↓wSeq_p, ↓seqE_nx, ↓reduceIte, at_0, at_1, at_2, at_3, cut_1, cut_2, dl_0_0, dl_0_1, dl_0_2, dl_0_3, dl_0_4, dl_0_5, dl_1_0, dl_1_1, dl_1_2, dl_1_3, dl_1_4, dl_1_5, dl_2_0, dl_2_1, dl_2_2, dl_2_3, dl_2_4, dl_2_5, dl_3_0, dl_3_1, dl_3_2, dl_3_3, dl_3_4, dl_3_5, dl_4_0, dl_4_1, dl_4_2, dl_4_3, dl_4_4, dl_4_5, dn_1_0, dn_2_0, dn_2_1, dn_3_0, dn_3_1, dn_3_2, dn_4_0, dn_4_1, dn_4_2, dn_4_3, seqE_rt, seqE_bk, seqE_ct, seqE_ex, wipeD, frz_lst, frz_tup, at1_0, at2_0, at2_1, at3_0, at3_1, at3_2, at4_0, at4_1, at4_2, at4_3, at5_0, at5_1, at5_2, at5_3, at5_4, seqOf_put, seqOf_lst, seqOf_tup, insK_same, tyN_non, tyN_bl, tyN_int, tyN_str, tyN_tup, tyN_lst, tyN_dct, List.getElem?_cons_zero, List.getElem?_cons_succ, List.set_cons_zero, List.set_cons_succ, List.length_cons, List.length_nil, isB_NoneType_bool, isB_NoneType_int, isB_NoneType_str, isB_NoneType_tuple, isB_NoneType_list, isB_NoneType_dict, isB_bool_bool, isB_bool_int, isB_bool_str, isB_bool_tuple, isB_bool_list, isB_bool_dict, isB_int_bool, isB_int_int, isB_int_str, isB_int_tuple, isB_int_list, isB_int_dict, isB_str_bool, isB_str_int, isB_str_str, isB_str_tuple, isB_str_list, isB_str_dict, isB_tuple_bool, isB_tuple_int, isB_tuple_str, isB_tuple_tuple, isB_tuple_list, isB_tuple_dict, isB_list_bool, isB_list_int, isB_list_str, isB_list_tuple, isB_list_list, isB_list_dict, isB_dict_bool, isB_dict_int, isB_dict_str, isB_dict_tuple, isB_dict_list, isB_dict_dict, isC_bool, isC_int, isC_str, isC_tuple, isC_list, isC_dict, isA_list_tuple, isQ_NoneType, isQ_bool, isQ_int, isQ_str, isQ_tuple, isQ_list, isQ_dict, true_and, and_true, Bool.not_true, Bool.not_false, Bool.false_eq_true, Bool.true_xor, Bool.false_xor, ef, List.nil_append, ne, ina _ src_cols]
    refine ⟨by omega, fun a ha => ⟨rfl, flat_map _, tyD_own mput_same, app_own mput_same (by simp only [List.length_cons, List.length_nil]; omega) ⟨by omega, (names_nc gr.f (by decide)).dat, ⟨by decide, trivial⟩, ?_⟩⟩⟩
    rw [mput_mput]
    refine fin_lst mput_same (M' := M) ha (fun c u hc => ?_) ⟨by omega, ?_⟩
    · have e : c ≠ a := fun e => by subst e; rw [ha] at hc; cases hc
      rw [mput_ne e]
      exact hc
    simp only [↓pVar, ↓pGet, ↓pC, ↓pOp, ↓pUn, ↓pCB, ↓pNil, ↓pCons, ↓pTest, ↓pBl, ↓pAndT, ↓pOrT, ↓pNotT, ↓pAndV, ↓pOrV, ↓pNotV, ↓pIfE, ↓pTup, ↓pLst, ↓pLstO, ↓pCall, ↓pMeth, ↓pFld, ↓pProp, ↓pMake, ↓pCv, ↓pSl, ↓pNo, ↓pSome, ↓pIntK, ↓pN, ↓pT, ↓pGC, ↓pGN, ↓pIf, ↓pRet, ↓pRetN, ↓pDrop, ↓pAsg, ↓pNx, ↓pBrk, ↓pCnt, ↓pNever, ↓pSub, ↓pAug, ↓pPar, ↓pParK, ↓pBM, ↓pFor, ↓pLc, ↓pLcO, ↓pYes, ↓piSeq, ↓piStr, ↓pStrK, ↓piRng1, ↓pRng1K, ↓piRng2, ↓pRng2K, ↓piEnum, ↓pEnumK, ↓piZip, ↓pZipL, ↓pZipT, ↓pFz, ↓pLenSet, ↓pIsT, ↓rIx_lst, ↓rIx_tup, ↓rIx_ref, ↓rIx_str, ↓rLen_str, ↓rLen_lst, ↓rLen_tup, ↓rLen_ref, ↓rIs_p, ↓rInt_int, ↓rInt_bl, ↓rStr_int, ↓rList_p, ↓rListO_p, ↓rTup_p, ↓rAdd_int, ↓rAdd_str, ↓rAdd_tup, ↓rAdd_lst, ↓rIntD_p, ↓rInt0_p, ↓rEq_int, ↓rEq_str, ↓rEq_bl, ↓rEq_lst, ↓rEq_tup, ↓rIsN_non, ↓rIsN_bl, ↓rIsN_int, ↓rIsN_str, ↓rIsN_tup, ↓rIsN_lst, ↓rNeg_p, ↓rSl_str, ↓rSl_tup, ↓rSl_lst, ↓rSl_scr, ↓rRep_p, ↓pOptK, ↓pChain, ↓pIfT, ↓pCallK, ↓pDzip, ↓pDzipK, ↓pDzipO, ↓pDzipKO, ↓rIsB_bl, ↓rDix_str, ↓rDix_int, ↓rIn_tup, ↓rIn_lst, ↓rEq_ns, ↓rEq_sn, ↓rRepT_p, ↓rAll_f, ↓rAll_t, ↓wSeq_p, ↓seqE_nx, ↓reduceIte, at_0, at_1, at_2, at_3, cut_1, cut_2, dl_0_0, dl_0_1, dl_0_2, dl_0_3, dl_0_4, dl_0_5, dl_1_0, dl_1_1, dl_1_2, dl_1_3, dl_1_4, dl_1_5, dl_2_0, dl_2_1, dl_2_2, dl_2_3, dl_2_4, dl_2_5, dl_3_0, dl_3_1, dl_3_2, dl_3_3, dl_3_4, dl_3_5, dl_4_0, dl_4_1, dl_4_2, dl_4_3, dl_4_4, dl_4_5, dn_1_0, dn_2_0, dn_2_1, dn_3_0, dn_3_1, dn_3_2, dn_4_0, dn_4_1, dn_4_2, dn_4_3, seqE_rt, seqE_bk, seqE_ct, seqE_ex, wipeD, frz_lst, frz_tup, at1_0, at2_0, at2_1, at3_0, at3_1, at3_2, at4_0, at4_1, at4_2, at4_3, at5_0, at5_1, at5_2, at5_3, at5_4, seqOf_put, seqOf_lst, seqOf_tup, insK_same, tyN_non, tyN_bl, tyN_int, tyN_str, tyN_tup, tyN_lst, tyN_dct, List.getElem?_cons_zero, List.getElem?_cons_succ, List.set_cons_zero, List.set_cons_succ, List.length_cons, List.length_nil, isB_NoneType_bool, isB_NoneType_int, isB_NoneType_str, isB_NoneType_tuple, isB_NoneType_list, isB_NoneType_dict, isB_bool_bool, isB_bool_int, isB_bool_str, isB_bool_tuple, isB_bool_list, isB_bool_dict, isB_int_bool, isB_int_int, isB_int_str, isB_int_tuple, isB_int_list, isB_int_dict, isB_str_bool, isB_str_int, isB_str_str, isB_str_tuple, isB_str_list, isB_str_dict, isB_tuple_bool, isB_tuple_int, isB_tuple_str, isB_tuple_tuple, isB_tuple_list, isB_tuple_dict, isB_list_bool, isB_list_int, isB_list_str, isB_list_tuple, isB_list_list, isB_list_dict, isB_dict_bool, isB_dict_int, isB_dict_str, isB_dict_tuple, isB_dict_list, isB_dict_dict, isC_bool, isC_int, isC_str, isC_tuple, isC_list, isC_dict, isA_list_tuple, isQ_NoneType, isQ_bool, isQ_int, isQ_str, isQ_tuple, isQ_list, isQ_dict, true_and, and_true, Bool.not_true, Bool.not_false, Bool.false_eq_true, Bool.true_xor, Bool.false_xor]
    refine ⟨by simp only [List.length_append, List.length_cons, List.length_nil]; omega, ?_⟩
    by_cases hk : 0 < k
    · simp only [hk, decide_true, ↓pVar, ↓pGet, ↓pC, ↓pOp, ↓pUn, ↓pCB, ↓pNil, ↓pCons, ↓pTest, ↓pBl, ↓pAndT, ↓pOrT, ↓pNotT, ↓pAndV, ↓pOrV, ↓pNotV, ↓pIfE, ↓pTup, ↓pLst, ↓pLstO, ↓pCall, ↓pMeth, ↓pFld, ↓pProp, ↓pMake, ↓pCv, ↓pSl, ↓pNo, ↓pSome, ↓pIntK, ↓pN, ↓pT, ↓pGC, ↓pGN, ↓pIf, ↓pRet, ↓pRetN, ↓pDrop, ↓pAsg, ↓pNx, ↓pBrk, ↓pCnt, ↓pNever, ↓pSub, ↓pAug, ↓pPar, ↓pParK, ↓pBM, ↓pFor, ↓pLc, ↓pLcO, ↓pYes, ↓piSeq, ↓piStr, ↓pStrK, ↓piRng1, ↓pRng1K, ↓piRng2, ↓pRng2K, ↓piEnum, ↓pEnumK, ↓piZip, ↓pZipL, ↓pZipT, ↓pFz, ↓pLenSet, ↓pIsT, ↓rIx_lst, ↓rIx_tup, ↓rIx_ref, ↓rIx_str, ↓rLen_str, ↓rLen_lst, ↓rLen_tup, ↓rLen_ref, ↓rIs_p, ↓rInt_int, ↓rInt_bl, ↓rStr_int, ↓rList_p, ↓rListO_p, ↓rTup_p, ↓rAdd_int, ↓rAdd_str, ↓rAdd_tup, ↓rAdd_lst, ↓rIntD_p, ↓rInt0_p, ↓rEq_int, ↓rEq_str, ↓rEq_bl, ↓rEq_lst, ↓rEq_tup, ↓rIsN_non, ↓rIsN_bl, ↓rIsN_int, ↓rIsN_str, ↓rIsN_tup, ↓rIsN_lst, ↓rNeg_p, ↓rSl_str, ↓rSl_tup, ↓rSl_lst, ↓rSl_scr, ↓rRep_p, ↓pOptK, ↓pChain, ↓pIfT, ↓pCallK, ↓pDzip, ↓pDzipK, ↓pDzipO, ↓pDzipKO, ↓rIsB_bl, ↓rDix_str, ↓rDix_int, ↓rIn_tup, ↓rIn_lst, ↓rEq_ns, ↓rEq_sn, ↓rRepT_p, ↓rAll_f, ↓rAll_t, ↓wSeq_p, ↓seqE_nx, ↓reduceIte, at_0, at_1, at_2, at_3, cut_1, cut_2, dl_0_0, dl_0_1, dl_0_2, dl_0_3, dl_0_4, dl_0_5, dl_1_0, dl_1_1, dl_1_2, dl_1_3, dl_1_4, dl_1_5, dl_2_0, dl_2_1, dl_2_2, dl_2_3, dl_2_4, dl_2_5, dl_3_0, dl_3_1, dl_3_2, dl_3_3, dl_3_4, dl_3_5, dl_4_0, dl_4_1, dl_4_2, dl_4_3, dl_4_4, dl_4_5, dn_1_0, dn_2_0, dn_2_1, dn_3_0, dn_3_1, dn_3_2, dn_4_0, dn_4_1, dn_4_2, dn_4_3, seqE_rt, seqE_bk, seqE_ct, seqE_ex, wipeD, frz_lst, frz_tup, at1_0, at2_0, at2_1, at3_0, at3_1, at3_2, at4_0, at4_1, at4_2, at4_3, at5_0, at5_1, at5_2, at5_3, at5_4, seqOf_put, seqOf_lst, seqOf_tup, insK_same, tyN_non, tyN_bl, tyN_int, tyN_str, tyN_tup, tyN_lst, tyN_dct, List.getElem?_cons_zero, List.getElem?_cons_succ, List.set_cons_zero, List.set_cons_succ, List.length_cons, List.length_nil, isB_NoneType_bool, isB_NoneType_int, isB_NoneType_str, isB_NoneType_tuple, isB_NoneType_list, isB_NoneType_dict, isB_bool_bool, isB_bool_int, isB_bool_str, isB_bool_tuple, isB_bool_list, isB_bool_dict, isB_int_bool, isB_int_int, isB_int_str, isB_int_tuple, isB_int_list, isB_int_dict, isB_str_bool, isB_str_int, isB_str_str, isB_str_tuple, isB_str_list, isB_str_dict, isB_tuple_bool, isB_tuple_int, isB_tuple_str, isB_tuple_tuple, isB_tuple_list, isB_tuple_dict, isB_list_bool, isB_list_int, isB_list_str, isB_list_tuple, isB_list_list, isB_list_dict, isB_dict_bool, isB_dict_int, isB_dict_str, isB_dict_tuple, isB_dict_list, isB_dict_dict, isC_bool, isC_int, isC_str, isC_tuple, isC_list, isC_dict, isA_list_tuple, isQ_NoneType, isQ_bool, isQ_int, isQ_str, isQ_tuple, isQ_list, isQ_dict, true_and, and_true, Bool.not_true, Bool.not_false, Bool.false_eq_true, Bool.true_xor, Bool.false_xor]
      refine fin_of ⟨by omega, ?_⟩
      simp only [↓pVar, ↓pGet, ↓pC, ↓pOp, ↓pUn, ↓pCB, ↓pNil, ↓pCons, ↓pTest, ↓pBl, ↓pAndT, ↓pOrT, ↓pNotT, ↓pAndV, ↓pOrV, ↓pNotV, ↓pIfE, ↓pTup, ↓pLst, ↓pLstO, ↓pCall, ↓pMeth, ↓pFld, ↓pProp, ↓pMake, ↓pCv, ↓pSl, ↓pNo, ↓pSome, ↓pIntK, ↓pN, ↓pT, ↓pGC, ↓pGN, ↓pIf, ↓pRet, ↓pRetN, ↓pDrop, ↓pAsg, ↓pNx, ↓pBrk, ↓pCnt, ↓pNever, ↓pSub, ↓pAug, ↓pPar, ↓pParK, ↓pBM, ↓pFor, ↓pLc, ↓pLcO, ↓pYes, ↓piSeq, ↓piStr, ↓pStrK, ↓piRng1, ↓pRng1K, ↓piRng2, ↓pRng2K, ↓piEnum, ↓pEnumK, ↓piZip, ↓pZipL, ↓pZipT, ↓pFz, ↓pLenSet, ↓pIsT, ↓rIx_lst, ↓rIx_tup, ↓rIx_ref, ↓rIx_str, ↓rLen_str, ↓rLen_lst, ↓rLen_tup, ↓rLen_ref, ↓rIs_p, ↓rInt_int, ↓rInt_bl, ↓rStr_int, ↓rList_p, ↓rListO_p, ↓rTup_p, ↓rAdd_int, ↓rAdd_str, ↓rAdd_tup, ↓rAdd_lst, ↓rIntD_p, ↓rInt0_p, ↓rEq_int, ↓rEq_str, ↓rEq_bl, ↓rEq_lst, ↓rEq_tup, ↓rIsN_non, ↓rIsN_bl, ↓rIsN_int, ↓rIsN_str, ↓rIsN_tup, ↓rIsN_lst, ↓rNeg_p, ↓rSl_str, ↓rSl_tup, ↓rSl_lst, ↓rSl_scr, ↓rRep_p, ↓pOptK, ↓pChain, ↓pIfT, ↓pCallK, ↓pDzip, ↓pDzipK, ↓pDzipO, ↓pDzipKO, ↓rIsB_bl, ↓rDix_str, ↓rDix_int, ↓rIn_tup, ↓rIn_lst, ↓rEq_ns, ↓rEq_sn, ↓rRepT_p, ↓rAll_f, ↓rAll_t, ↓wSeq_p, ↓seqE_nx, ↓reduceIte, at_0, at_1, at_2, at_3, cut_1, cut_2, dl_0_0, dl_0_1, dl_0_2, dl_0_3, dl_0_4, dl_0_5, dl_1_0, dl_1_1, dl_1_2, dl_1_3, dl_1_4, dl_1_5, dl_2_0, dl_2_1, dl_2_2, dl_2_3, dl_2_4, dl_2_5, dl_3_0, dl_3_1, dl_3_2, dl_3_3, dl_3_4, dl_3_5, dl_4_0, dl_4_1, dl_4_2, dl_4_3, dl_4_4, dl_4_5, dn_1_0, dn_2_0, dn_2_1, dn_3_0, dn_3_1, dn_3_2, dn_4_0, dn_4_1, dn_4_2, dn_4_3, seqE_rt, seqE_bk, seqE_ct, seqE_ex, wipeD, frz_lst, frz_tup, at1_0, at2_0, at2_1, at3_0, at3_1, at3_2, at4_0, at4_1, at4_2, at4_3, at5_0, at5_1, at5_2, at5_3, at5_4, seqOf_put, seqOf_lst, seqOf_tup, insK_same, tyN_non, tyN_bl, tyN_int, tyN_str, tyN_tup, tyN_lst, tyN_dct, List.getElem?_cons_zero, List.getElem?_cons_succ, List.set_cons_zero, List.set_cons_succ, List.length_cons, List.length_nil, isB_NoneType_bool, isB_NoneType_int, isB_NoneType_str, isB_NoneType_tuple, isB_NoneType_list, isB_NoneType_dict, isB_bool_bool, isB_bool_int, isB_bool_str, isB_bool_tuple, isB_bool_list, isB_bool_dict, isB_int_bool, isB_int_int, isB_int_str, isB_int_tuple, isB_int_list, isB_int_dict, isB_str_bool, isB_str_int, isB_str_str, isB_str_tuple, isB_str_list, isB_str_dict, isB_tuple_bool, isB_tuple_int, isB_tuple_str, isB_tuple_tuple, isB_tuple_list, isB_tuple_dict, isB_list_bool, isB_list_int, isB_list_str, isB_list_tuple, isB_list_list, isB_list_dict, isB_dict_bool, isB_dict_int, isB_dict_str, isB_dict_tuple, isB_dict_list, isB_dict_dict, isC_bool, isC_int, isC_str, isC_tuple, isC_list, isC_dict, isA_list_tuple, isQ_NoneType, isQ_bool, isQ_int, isQ_str, isQ_tuple, isQ_list, isQ_dict, true_and, and_true, Bool.not_true, Bool.not_false, Bool.false_eq_true, Bool.true_xor, Bool.false_xor]
      refine ⟨by simp only [List.length_append, List.length_cons, List.length_nil]; omega, ?_⟩
      refine lcond_c3 A n gr (bgd_rfl hb g) k0 (by omega) (by simp) (by simp) (fun x hx => ?_) fun d hd N' ⟨o', ho, e⟩ => e ▸ fin_of (q d hd o' ho)
      simp at hx
      rcases hx with rfl | rfl | rfl | rfl | rfl | rfl | rfl | rfl | rfl
      all_goals exact ⟨_, rfl, by simp [hk]⟩
    · simp only [hk, decide_false, ↓pVar, ↓pGet, ↓pC, ↓pOp, ↓pUn, ↓pCB, ↓pNil, ↓pCons, ↓pTest, ↓pBl, ↓pAndT, ↓pOrT, ↓pNotT, ↓pAndV, ↓pOrV, ↓pNotV, ↓pIfE, ↓pTup, ↓pLst, ↓pLstO, ↓pCall, ↓pMeth, ↓pFld, ↓pProp, ↓pMake, ↓pCv, ↓pSl, ↓pNo, ↓pSome, ↓pIntK, ↓pN, ↓pT, ↓pGC, ↓pGN, ↓pIf, ↓pRet, ↓pRetN, ↓pDrop, ↓pAsg, ↓pNx, ↓pBrk, ↓pCnt, ↓pNever, ↓pSub, ↓pAug, ↓pPar, ↓pParK, ↓pBM, ↓pFor, ↓pLc, ↓pLcO, ↓pYes, ↓piSeq, ↓piStr, ↓pStrK, ↓piRng1, ↓pRng1K, ↓piRng2, ↓pRng2K, ↓piEnum, ↓pEnumK, ↓piZip, ↓pZipL, ↓pZipT, ↓pFz, ↓pLenSet, ↓pIsT, ↓rIx_lst, ↓rIx_tup, ↓rIx_ref, ↓rIx_str, ↓rLen_str, ↓rLen_lst, ↓rLen_tup, ↓rLen_ref, ↓rIs_p, ↓rInt_int, ↓rInt_bl, ↓rStr_int, ↓rList_p, ↓rListO_p, ↓rTup_p, ↓rAdd_int, ↓rAdd_str, ↓rAdd_tup, ↓rAdd_lst, ↓rIntD_p, ↓rInt0_p, ↓rEq_int, ↓rEq_str, ↓rEq_bl, ↓rEq_lst, ↓rEq_tup, ↓rIsN_non, ↓rIsN_bl, ↓rIsN_int, ↓rIsN_str, ↓rIsN_tup, ↓rIsN_lst, ↓rNeg_p, ↓rSl_str, ↓rSl_tup, ↓rSl_lst, ↓rSl_scr, ↓rRep_p, ↓pOptK, ↓pChain, ↓pIfT, ↓pCallK, ↓pDzip, ↓pDzipK, ↓pDzipO, ↓pDzipKO, ↓rIsB_bl, ↓rDix_str, ↓rDix_int, ↓rIn_tup, ↓rIn_lst, ↓rEq_ns, ↓rEq_sn, ↓rRepT_p, ↓rAll_f, ↓rAll_t, ↓wSeq_p, ↓seqE_nx, ↓reduceIte, at_0, at_1, at_2, at_3, cut_1, cut_2, dl_0_0, dl_0_1, dl_0_2, dl_0_3, dl_0_4, dl_0_5, dl_1_0, dl_1_1, dl_1_2, dl_1_3, dl_1_4, dl_1_5, dl_2_0, dl_2_1, dl_2_2, dl_2_3, dl_2_4, dl_2_5, dl_3_0, dl_3_1, dl_3_2, dl_3_3, dl_3_4, dl_3_5, dl_4_0, dl_4_1, dl_4_2, dl_4_3, dl_4_4, dl_4_5, dn_1_0, dn_2_0, dn_2_1, dn_3_0, dn_3_1, dn_3_2, dn_4_0, dn_4_1, dn_4_2, dn_4_3, seqE_rt, seqE_bk, seqE_ct, seqE_ex, wipeD, frz_lst, frz_tup, at1_0, at2_0, at2_1, at3_0, at3_1, at3_2, at4_0, at4_1, at4_2, at4_3, at5_0, at5_1, at5_2, at5_3, at5_4, seqOf_put, seqOf_lst, seqOf_tup, insK_same, tyN_non, tyN_bl, tyN_int, tyN_str, tyN_tup, tyN_lst, tyN_dct, List.getElem?_cons_zero, List.getElem?_cons_succ, List.set_cons_zero, List.set_cons_succ, List.length_cons, List.length_nil, isB_NoneType_bool, isB_NoneType_int, isB_NoneType_str, isB_NoneType_tuple, isB_NoneType_list, isB_NoneType_dict, isB_bool_bool, isB_bool_int, isB_bool_str, isB_bool_tuple, isB_bool_list, isB_bool_dict, isB_int_bool, isB_int_int, isB_int_str, isB_int_tuple, isB_int_list, isB_int_dict, isB_str_bool, isB_str_int, isB_str_str, isB_str_tuple, isB_str_list, isB_str_dict, isB_tuple_bool, isB_tuple_int, isB_tuple_str, isB_tuple_tuple, isB_tuple_list, isB_tuple_dict, isB_list_bool, isB_list_int, isB_list_str, isB_list_tuple, isB_list_list, isB_list_dict, isB_dict_bool, isB_dict_int, isB_dict_str, isB_dict_tuple, isB_dict_list, isB_dict_dict, isC_bool, isC_int, isC_str, isC_tuple, isC_list, isC_dict, isA_list_tuple, isQ_NoneType, isQ_bool, isQ_int, isQ_str, isQ_tuple, isQ_list, isQ_dict, true_and, and_true, Bool.not_true, Bool.not_false, Bool.false_eq_true, Bool.true_xor, Bool.false_xor]
      refine lcond_c3 A n gr (bgd_rfl hb g) k0 (by omega) (by simp) (by simp) (fun x hx => ?_) fun d hd N' ⟨o', ho, e⟩ => e ▸ fin_of (q d hd o' ho)
      simp at hx
      rcases hx with rfl | rfl | rfl | rfl | rfl | rfl
      all_goals exact ⟨_, rfl, by simp⟩
theorem ok__law_cond {P : Program} {w : World} {K : PySem.W.Frag} {mg : Str → Option Value} {base : Heap} {A : Ad} (T : Txt K mg A) : ∀ n, FnJ P w K mg base (3 + n) A.f__law_cond (sp__law_cond A n)
  | 0 => FnJ.mkAt (k := 2) (wb := wNever) T.d__law_cond sc__law_cond (fun cdv R outer s H E hr tk => jss_never) (fun _ _ _ _ ⟨_, _, _, _, _, _, _, _, _, _, _, _, h1, h2, _⟩ => by exfalso; omega)
  | n + 1 => FnJ.mkAt (k := 3 + n) T.d__law_cond sc__law_cond (fun cdv R outer s H E hr tk => bd__law_cond T n (ok__law_cond T n) cdv R outer s H E hr tk) (rd__law_cond A n)

end DL.K09
namespace DL.K09
open PySem PySem.Spec PyProof.Rows L2 RZ
theorem valD_app : ∀ {ks : List Key} {xs : List D} {k : Key} {v : D}, valD ks xs k = some v → ∀ {js : List Key} {ys : List D}, valD (ks ++ js) (xs ++ ys) k = some v
  | [], _, k, v, h, js, ys => nomatch h
  | j :: ks, [], k, v, h, js, ys => nomatch h
  | j :: ks, x :: xs, k, v, h, js, ys => by
    rw [List.cons_append, List.cons_append]
    by_cases e : j = k
    · rw [show valD (j :: ks) (x :: xs) k = some x from if_pos e] at h
      rw [show valD (j :: (ks ++ js)) (x :: (xs ++ ys)) k = some x from if_pos e]
      exact h
    · rw [val_skip e] at h ⊢
      exact valD_app h
theorem valD_end : ∀ {ks : List Key} {xs : List D} {k : Key} {v : D}, ks.length = xs.length → k ∉ ks → valD (ks ++ [k]) (xs ++ [v]) k = some v
  | [], [], k, v, _, _ => if_pos rfl
  | j :: ks, x :: xs, k, v, hl, h => by
    rw [List.cons_append, List.cons_append, val_skip (fun e => by subst e; exact h List.mem_cons_self)]
    rw [List.length_cons, List.length_cons] at hl
    exact valD_end (by omega) fun q => h (List.mem_cons_of_mem _ q)
theorem put_new {ks : List Key} {xs : List D} {k : Key} {d : D} (h : k ∉ ks) : putDk ks xs k d = (ks ++ [k], xs ++ [d]) := by
  unfold putDk
  rw [if_neg]
  intro q
  obtain ⟨j, hj, e⟩ := List.any_eq_true.mp q
  exact h (of_decide_eq_true e ▸ hj)
theorem dset_own {M : Mem} {a : Addr} {ks : List Key} {xs : List D} {x : Str} {v : D} {k : Mem → Prop} (h : M a = some (.dct ks xs)) (hl : xs.length < sizeLine) (nw : (.inr x : Key) ∉ ks) (q : k (mput M a (.dct (ks ++ [.inr x]) (xs ++ [v])))) : rDsetD (.ref a) (.str x) v M k := by
  have e : moDct (M a) = some (ks, xs) := by rw [h]; rfl
  show optK (moDct (M a)) _
  rw [e]
  refine (show xs.length < sizeLine ∧ k (mput M a (.dct (putDk ks xs (.inr x) v).1 (putDk ks xs (.inr x) v).2)) from ⟨hl, ?_⟩)
  rw [put_new nw]
  exact q
theorem fin_dct {Q : KN} {a : Addr} {ks : List Key} {xs : List D} {M M' : Mem} (e : M a = some (.dct ks xs)) (n : M' a = none) (h : ∀ b o, M' b = some o → M b = some o) (q : Q (.dct ks xs) M') : Fin Q (.ref a) M :=
  ⟨.dct ks xs, M', ⟨h, fun K H F v R g => by
    obtain ⟨kvs, h1, h2, h3⟩ := R.get e
    exact ⟨a, kvs, g, .inl h1, by rw [uni_get (R.fr e)]; exact n, h2, DVs.down (sub_none h) _ _ h3⟩⟩, q⟩
def sp__law_sheet (A : Ad) : SpD := fun ds M Q _ => ∃ (fs ss ws : List Str) (m : Int) (s : Str) (vs : List D), ds = [grD fs ss ws, rowD m s vs] ∧ NamesOk fs ∧ OwnOk fs ∧ vs.length = fs.length ∧ (∀ v ∈ vs, Wd v) ∧ ∀ ks xs, Sht fs s (fldOf fs vs) ks xs → valD ks xs (.inr "moment") = some (.int m) → Q (.dct ks xs) M
def wb__law_sheet (A : Ad) : WS :=
  (wSeq (wAsg (wDzipO (wCons (wOp rIxD (wVar 0) (wC (.int 0))) (wCons (wOp rIxD (wVar 1) (wC (.int 2))) wNil))) (gN 2))
  (wSeq (wSub (wOp rIxD (wVar 1) (wC (.int 0))) (wVar 2) (wC (.str "moment")) rDsetD)
  (wSeq (wSub (wOp rIxD (wVar 1) (wC (.int 1))) (wVar 2) (wC (.str "source")) rDsetD)
  (wRet (wVar 2)))))
theorem bd__law_sheet {P : Program} {w : World} {K : PySem.W.Frag} {mg : Str → Option Value} {base : Heap} {A : Ad} (T : Txt K mg A) (cdv : Value) (R : Around) (outer : List Env) (s : Shared) (H : Hp) (E : XK) (hr : Room 0 (R.deeper (envOfC "_law_sheet" (defScope s__law_sheet) s.heap.objs.size A.f__law_sheet cdv)))
    (tk : Takes (cxOf (L2.CX P w) P w K mg base N__law_sheet "_law_sheet" (defScope s__law_sheet) A.f__law_sheet cdv R outer s H E) (WD E)) : JSs (cxOf (L2.CX P w) P w K mg base N__law_sheet "_law_sheet" (defScope s__law_sheet) A.f__law_sheet cdv R outer s H E) (WD E) (defBody s__law_sheet) (wb__law_sheet A) :=
  (js_cons (js_set (i := 2) sc__law_sheet.nd (j_dzipO rfl T.n_dict T.n_zip (j_cons (j_ix id_ix (jv 0) j_int) (j_cons (j_ix id_ix (jv 1) j_int) j_nil))))
  (js_cons (js_dsub (Nat.lt_of_le_of_lt (Nat.add_le_add_left (by decide : 1 ≤ 64) _) hr.units) (j_ix id_ix (jv 1) j_int) (jv 2) j_str)
  (js_cons (js_dsub (Nat.lt_of_le_of_lt (Nat.add_le_add_left (by decide : 1 ≤ 64) _) hr.units) (j_ix id_ix (jv 1) j_int) (jv 2) j_str)
  (js_one (js_ret (jv 2))))))
theorem rd__law_sheet (A : Ad) : ∀ ds M Q Xc, sp__law_sheet A ds M Q Xc → ds.length = P__law_sheet.length ∧ RD (wb__law_sheet A) Q Xc (startD N__law_sheet ds) M := by
  rintro _ M Q Xc ⟨fs, ss, ws, m, s, vs, rfl, hf, ho, hl, hv, q⟩
  refine ⟨rfl, ?_⟩
  rw [st__law_sheet]
  have big := sizeLine_big
  have f5 := hf.hi
  have nm : (.inr "moment" : Key) ∉ fs.map (Sum.inr : Str → Key) := fun h => by
    obtain ⟨x, hx, e⟩ := List.mem_map.mp h
    cases e
    exact ho.m hx
  have nsr : (.inr "source" : Key) ∉ fs.map (Sum.inr : Str → Key) ++ [(.inr "moment" : Key)] := fun h => by
    rcases List.mem_append.mp h with h | h
    · obtain ⟨x, hx, e⟩ := List.mem_map.mp h
      cases e
      exact ho.s hx
    · rw [List.mem_singleton] at h
      exact inr_ne (by decide +kernel) h
  simp only [RD, wb__law_sheet, grD, rowD, ↓pVar, ↓pGet, ↓pC, ↓pOp, ↓pUn, ↓pCB, ↓pNil, ↓pCons, ↓pTest, ↓pBl, ↓pAndT, ↓pOrT, ↓pNotT, ↓pAndV, ↓pOrV, ↓pNotV, ↓pIfE, ↓pTup, ↓pLst, ↓pLstO, ↓pCall, ↓pMeth, ↓pFld, ↓pProp, ↓pMake, ↓pCv, ↓pSl, ↓pNo, ↓pSome, ↓pIntK, ↓pN, ↓pT, ↓pGC, ↓pGN, ↓pIf, ↓pRet, ↓pRetN, ↓pDrop, ↓pAsg, ↓pNx, ↓pBrk, ↓pCnt, ↓pNever, ↓pSub, ↓pAug, ↓pPar, ↓pParK, ↓pBM, ↓pFor, ↓pLc, ↓pLcO, ↓pYes, ↓piSeq, ↓piStr, ↓pStrK, ↓piRng1, ↓pRng1K, ↓piRng2, ↓pRng2K, ↓piEnum, ↓pEnumK, ↓piZip, ↓pZipL, ↓pZipT, ↓pFz, ↓pLenSet, ↓pIsT, ↓rIx_lst, ↓rIx_tup, ↓rIx_ref, ↓rIx_str, ↓rLen_str, ↓rLen_lst, ↓rLen_tup, ↓rLen_ref, ↓rIs_p, ↓rInt_int, ↓rInt_bl, ↓rStr_int, ↓rList_p, ↓rListO_p, ↓rTup_p, ↓rAdd_int, ↓rAdd_str, ↓rAdd_tup, ↓rAdd_lst, ↓rIntD_p, ↓rInt0_p, ↓rEq_int, ↓rEq_str, ↓rEq_bl, ↓rEq_lst, ↓rEq_tup, ↓rIsN_non, ↓rIsN_bl, ↓rIsN_int, ↓rIsN_str, ↓rIsN_tup, ↓rIsN_lst, ↓rNeg_p, ↓rSl_str, ↓rSl_tup, ↓rSl_lst, ↓rSl_scr, ↓rRep_p, ↓pOptK, ↓pChain, ↓pIfT, ↓pCallK, ↓pDzip, ↓pDzipK, ↓pDzipO, ↓pDzipKO, ↓rIsB_bl, ↓rDix_str, ↓rDix_int, ↓rIn_tup, ↓rIn_lst, ↓rEq_ns, ↓rEq_sn, ↓rRepT_p, ↓rAll_f, ↓rAll_t, ↓wSeq_p, ↓seqE_nx, ↓reduceIte, at_0, at_1, at_2, at_3, cut_1, cut_2, dl_0_0, dl_0_1, dl_0_2, dl_0_3, dl_0_4, dl_0_5, dl_1_0, dl_1_1, dl_1_2, dl_1_3, dl_1_4, dl_1_5, dl_2_0, dl_2_1, dl_2_2, dl_2_3, dl_2_4, dl_2_5, dl_3_0, dl_3_1, dl_3_2, dl_3_3, dl_3_4, dl_3_5, dl_4_0, dl_4_1, dl_4_2, dl_4_3, dl_4_4, dl_4_5, dn_1_0, dn_2_0, dn_2_1, dn_3_0, dn_3_1, dn_3_2, dn_4_0, dn_4_1, dn_4_2, dn_4_3, seqE_rt, seqE_bk, seqE_ct, seqE_ex, wipeD, frz_lst, frz_tup, at1_0, at2_0, at2_1, at3_0, at3_1, at3_2, at4_0, at4_1, at4_2, at4_3, at5_0, at5_1, at5_2, at5_3, at5_4, seqOf_put, seqOf_lst, seqOf_tup, insK_same, tyN_non, tyN_bl, tyN_int, tyN_str, tyN_tup, tyN_lst, tyN_dct, List.getElem?_cons_zero, List.getElem?_cons_succ, List.set_cons_zero, List.set_cons_succ, List.length_cons, List.length_nil, isB_NoneType_bool, isB_NoneType_int, isB_NoneType_str, isB_NoneType_tuple, isB_NoneType_list, isB_NoneType_dict, isB_bool_bool, isB_bool_int, isB_bool_str, isB_bool_tuple, isB_bool_list, isB_bool_dict, isB_int_bool, isB_int_int, isB_int_str, isB_int_tuple, isB_int_list, isB_int_dict, isB_str_bool, isB_str_int, isB_str_str, isB_str_tuple, isB_str_list, isB_str_dict, isB_tuple_bool, isB_tuple_int, isB_tuple_str, isB_tuple_tuple, isB_tuple_list, isB_tuple_dict, isB_list_bool, isB_list_int, isB_list_str, isB_list_tuple, isB_list_list, isB_list_dict, isB_dict_bool, isB_dict_int, isB_dict_str, isB_dict_tuple, isB_dict_list, isB_dict_dict, isC_bool, isC_int, isC_str, isC_tuple, isC_list, isC_dict, isA_list_tuple, isQ_NoneType, isQ_bool, isQ_int, isQ_str, isQ_tuple, isQ_list, isQ_dict, true_and, and_true, Bool.not_true, Bool.not_false, Bool.false_eq_true, Bool.true_xor, Bool.false_xor, keysD_strs]
  refine ⟨keys_nd hf.nd, by rw [List.length_map, hl], by rw [List.length_map]; omega, fun a ha => ?_⟩
  refine dset_own mput_same (by omega) nm ?_
  rw [mput_mput]
  refine dset_own mput_same (by rw [List.length_append, List.length_singleton]; omega) nsr ?_
  rw [mput_mput]
  refine fin_dct mput_same (M' := M) ha (fun c u hc => ?_) (q _ _ ⟨?_, fun f hf => ?_, fun f hf => ?_⟩ ?_)
  · have e : c ≠ a := fun e => by subst e; rw [ha] at hc; cases hc
    rw [mput_ne e]
    exact hc
  · exact valD_end (by simp [hl]) nsr
  · exact valD_app (valD_app (val_fld hf hl).1)
  · rcases hv _ (val_fld hf hl).2 with h | ⟨w, h, _⟩
    · exact .inl h
    · exact .inr ⟨w, h⟩
  · exact valD_app (valD_end (by simp [hl]) nm)
theorem ok__law_sheet {P : Program} {w : World} {K : PySem.W.Frag} {mg : Str → Option Value} {base : Heap} {A : Ad} (T : Txt K mg A) : FnJ P w K mg base 1 A.f__law_sheet (sp__law_sheet A) :=
  FnJ.mkAt T.d__law_sheet sc__law_sheet (fun cdv R outer s H E hr tk => bd__law_sheet T cdv R outer s H E hr tk) (rd__law_sheet A)
def sp__law_met (A : Ad) (n : Nat) : SpD := fun ds M Q _ => ∃ (fs ss : List Str) (s : Str) (lf : Str → D) (ks : List Key) (xs : List D) (d : D), ds = [d, .dct ks xs] ∧ CondD fs ss n d ∧ Sht fs s lf ks xs ∧ Q (.bl (mt s lf n d)) M
def wb__law_met_c0 (A : Ad) (n : Nat) : WS :=
  (wSeq (wIf (wTest (wOp (rEqD false) (wVar 2) (wC (.str "any"))))
  (wRet (wC (.bl true)))
  wNx)
  (wSeq (wIf (wTest (wOp (rEqD false) (wVar 2) (wC (.str "from"))))
  (wRet (wOp (rEqD false) (wOp rDixD (wVar 1) (wC (.str "source"))) (wOp rIxD (wVar 0) (wC (.int 1)))))
  wNx)
  (wRet (wIfE (wTest (wOp (rEqD false) (wVar 2) (wC (.str "has")))) (wOp (rIsND true) (wOp rDixD (wVar 1) (wOp rIxD (wVar 0) (wC (.int 1)))) (wC .non)) (wOp (rEqD false) (wOp rDixD (wVar 1) (wOp rIxD (wVar 0) (wC (.int 1)))) (wOp rIxD (wVar 0) (wC (.int 2))))))))
def wb__law_met (A : Ad) (n : Nat) : WS :=
  (wSeq (wAsg (wOp rIxD (wVar 0) (wC (.int 0))) (gN 2))
  (wSeq (wIf (wTest (wOp (rEqD false) (wVar 2) (wC (.str "not"))))
  (wRet (wNotV (wCall (sp__law_met A n) (wCons (wOp rIxD (wVar 0) (wC (.int 1))) (wCons (wVar 1) wNil)))))
  wNx)
  (wSeq (wIf (wTest (wOp (rInD false) (wVar 2) (wTup (wCons (wC (.str "and")) (wCons (wC (.str "or")) wNil)))))
  (wSeq (wAsg (wLc (wiSeq (wSl (wVar 0) (wSome (wC (.int 1))) wNo)) (gN 4) wYes (wCall (sp__law_met A n) (wCons (wVar 4) (wCons (wVar 1) wNil))) [4]) (gN 3))
  (wRet (wIfE (wTest (wOp (rEqD false) (wVar 2) (wC (.str "and")))) (wOp (rInD true) (wC (.bl false)) (wVar 3)) (wOp (rInD false) (wC (.bl true)) (wVar 3)))))
  wNx)
  (wb__law_met_c0 A n))))
theorem bd__law_met {P : Program} {w : World} {K : PySem.W.Frag} {mg : Str → Option Value} {base : Heap} {A : Ad} (T : Txt K mg A) (n : Nat) (ih : FnJ P w K mg base (1 + n) A.f__law_met (sp__law_met A n)) (cdv : Value) (R : Around) (outer : List Env) (s : Shared) (H : Hp) (E : XK) (hr : Room (1 + n) (R.deeper (envOfC "_law_met" (defScope s__law_met) s.heap.objs.size A.f__law_met cdv)))
    (tk : Takes (cxOf (L2.CX P w) P w K mg base N__law_met "_law_met" (defScope s__law_met) A.f__law_met cdv R outer s H E) (WD E)) : JSs (cxOf (L2.CX P w) P w K mg base N__law_met "_law_met" (defScope s__law_met) A.f__law_met cdv R outer s H E) (WD E) (defBody s__law_met) (wb__law_met A n) :=
  (js_cons (js_set (i := 2) sc__law_met.nd (j_ix id_ix (jv 0) j_int))
  (js_cons (js_if (jt_cmp (od_eq hr.units) (jv 2) j_str)
  (js_one (js_ret (j_not (j_call ih hr (Nat.le_refl _) T.g__law_met tk (j_cons (j_ix id_ix (jv 0) j_int) (j_cons (jv 1) j_nil))))))
  js_nil)
  (js_cons (js_if (jt_cmp od_in (jv 2) (j_tup (j_cons j_str (j_cons j_str j_nil))))
  (js_cons (js_setLc (own := [("_law_part", 4)]) rfl sc__law_met.nd (ji_seq (j_sl (jv 0) (jo_some j_int) jo_none)) (blkOk_by (own := [("_law_part", 4)]) (N := N__law_met) (sc := defScope s__law_met) (by decide +kernel)) (fun _ _ _ _ _ => (jg_name (i := 4) sc__law_met.nd)) (fun _ _ _ _ _ => jts_nil) (fun _ _ _ _ _ => (j_call ih hr (Nat.le_refl _) T.g__law_met tkF (j_cons (jv 4) (j_cons (jv 1) j_nil)))))
  (js_one (js_ret (j_if (jt_cmp (od_eq hr.units) (jv 2) j_str) (j_cmp od_notIn j_bl (jv 3)) (j_cmp od_in j_bl (jv 3))))))
  js_nil)
  (js_cons (js_if (jt_cmp (od_eq hr.units) (jv 2) j_str)
  (js_one (js_ret j_bl))
  js_nil)
  (js_cons (js_if (jt_cmp (od_eq hr.units) (jv 2) j_str)
  (js_one (js_ret (j_cmp (od_eq hr.units) (j_dix (Nat.lt_of_le_of_lt (Nat.add_le_add_left (by decide : 1 ≤ 64) _) hr.units) (jv 1) j_str) (j_ix id_ix (jv 0) j_int))))
  js_nil)
  (js_one (js_ret (j_if (jt_cmp (od_eq hr.units) (jv 2) j_str) (j_cmp od_notN (j_dix (Nat.lt_of_le_of_lt (Nat.add_le_add_left (by decide : 1 ≤ 64) _) hr.units) (jv 1) (j_ix id_ix (jv 0) j_int)) j_non) (j_cmp (od_eq hr.units) (j_dix (Nat.lt_of_le_of_lt (Nat.add_le_add_left (by decide : 1 ≤ 64) _) hr.units) (jv 1) (j_ix id_ix (jv 0) j_int)) (j_ix id_ix (jv 0) j_int))))))))))
theorem inB {b : Bool} : ∀ bs : List Bool, inD (.bl b) (bs.map D.bl) = decide (b ∈ bs)
  | [] => rfl
  | c :: bs => by
    show (deq (.bl c) (.bl b) || inD (.bl b) (bs.map D.bl)) = _
    rw [inB bs]
    cases c <;> cases b <;> simp [deq, toPy, PyData.eqv]
theorem rd__law_met (A : Ad) (n : Nat) : ∀ ds M Q Xc, sp__law_met A (n + 1) ds M Q Xc → ds.length = P__law_met.length ∧ RD (wb__law_met A n) Q Xc (startD N__law_met ds) M := by
  rintro _ M Q Xc ⟨fs, ss, s, lf, ks, xs, _, rfl, ⟨w, cs, rfl, hc⟩, hS, q⟩
  refine ⟨rfl, ?_⟩
  rw [st__law_met]
  have big := sizeLine_big
  have ino : ∀ w : Str, inD (.str w) [.str "and", .str "or"] = decide (w = "and" ∨ w = "or") := fun w => by
    have e := inD_strs (x := w) [("and" : Str), ("or" : Str)]
    rw [show inD (.str w) [.str "and", .str "or"] = inD (.str w) ([("and" : Str), ("or" : Str)].map D.str) from rfl, e]
    simp only [List.any_cons, List.any_nil, Bool.or_false, Bool.decide_or, eq_comm]
  cases hc
  all_goals simp only [RD, wb__law_met, wb__law_met_c0, w_any_from, w_any_has, w_any_is, w_any_not, w_any_and, w_any_or, w_from_any, w_from_has, w_from_is, w_from_not, w_from_and, w_from_or, w_has_any, w_has_from, w_has_is, w_has_not, w_has_and, w_has_or, w_is_any, w_is_from, w_is_has, w_is_not, w_is_and, w_is_or, w_not_any, w_not_from, w_not_has, w_not_is, w_not_and, w_not_or, w_and_any, w_and_from, w_and_has, w_and_is, w_and_not, w_and_or, w_or_any, w_or_from, w_or_has, w_or_is, w_or_not, w_or_and, or_self, or_true, true_or, or_false, false_or, decide_true, decide_false, ↓pVar, ↓pGet, ↓pC, ↓pOp, ↓pUn, ↓pCB, ↓pNil, ↓pCons, ↓pTest, ↓pBl, ↓pAndT, ↓pOrT, ↓pNotT, ↓pAndV, ↓pOrV, ↓pNotV, ↓pIfE, ↓pTup, ↓pLst, ↓pLstO, ↓pCall, ↓pMeth, ↓pFld, ↓pProp, ↓pMake, ↓pCv, ↓pSl, ↓pNo, ↓pSome, ↓pIntK, ↓pN, ↓pT, ↓pGC, ↓pGN, ↓pIf, ↓pRet, ↓pRetN, ↓pDrop, ↓pAsg, ↓pNx, ↓pBrk, ↓pCnt, ↓pNever, ↓pSub, ↓pAug, ↓pPar, ↓pParK, ↓pBM, ↓pFor, ↓pLc, ↓pLcO, ↓pYes, ↓piSeq, ↓piStr, ↓pStrK, ↓piRng1, ↓pRng1K, ↓piRng2, ↓pRng2K, ↓piEnum, ↓pEnumK, ↓piZip, ↓pZipL, ↓pZipT, ↓pFz, ↓pLenSet, ↓pIsT, ↓rIx_lst, ↓rIx_tup, ↓rIx_ref, ↓rIx_str, ↓rLen_str, ↓rLen_lst, ↓rLen_tup, ↓rLen_ref, ↓rIs_p, ↓rInt_int, ↓rInt_bl, ↓rStr_int, ↓rList_p, ↓rListO_p, ↓rTup_p, ↓rAdd_int, ↓rAdd_str, ↓rAdd_tup, ↓rAdd_lst, ↓rIntD_p, ↓rInt0_p, ↓rEq_int, ↓rEq_str, ↓rEq_bl, ↓rEq_lst, ↓rEq_tup, ↓rIsN_non, ↓rIsN_bl, ↓rIsN_int, ↓rIsN_str, ↓rIsN_tup, ↓rIsN_lst, ↓rNeg_p, ↓rSl_str, ↓rSl_tup, ↓rSl_lst, ↓rSl_scr, ↓rRep_p, ↓pOptK, ↓pChain, ↓pIfT, ↓pCallK, ↓pDzip, ↓pDzipK, ↓pDzipO, ↓pDzipKO, ↓rIsB_bl, ↓rDix_str, ↓rDix_int, ↓rIn_tup, ↓rIn_lst, ↓rEq_ns, ↓rEq_sn, ↓rRepT_p, ↓rAll_f, ↓rAll_t, ↓wSeq_p, ↓seqE_nx, ↓reduceIte, at_0, at_1, at_2, at_3, cut_1, cut_2, dl_0_0, dl_0_1, dl_0_2, dl_0_3, dl_0_4, dl_0_5, dl_1_0, dl_1_1, dl_1_2, dl_1_3, dl_1_4, dl_1_5, dl_2_0, dl_2_1, dl_2_2, dl_2_3, dl_2_4, dl_2_5, dl_3_0, dl_3_1, dl_3_2, dl_3_3, dl_3_4, dl_3_5, dl_4_0, dl_4_1, dl_4_2, dl_4_3, dl_4_4, dl_4_5, dn_1_0, dn_2_0, dn_2_1, dn_3_0, dn_3_1, dn_3_2, dn_4_0, dn_4_1, dn_4_2, dn_4_3, seqE_rt, seqE_bk, seqE_ct, seqE_ex, wipeD, frz_lst, frz_tup, at1_0, at2_0, at2_1, at3_0, at3_1, at3_2, at4_0, at4_1, at4_2, at4_3, at5_0, at5_1, at5_2, at5_3, at5_4, seqOf_put, seqOf_lst, seqOf_tup, insK_same, tyN_non, tyN_bl, tyN_int, tyN_str, tyN_tup, tyN_lst, tyN_dct, List.getElem?_cons_zero, List.getElem?_cons_succ, List.set_cons_zero, List.set_cons_succ, List.length_cons, List.length_nil, isB_NoneType_bool, isB_NoneType_int, isB_NoneType_str, isB_NoneType_tuple, isB_NoneType_list, isB_NoneType_dict, isB_bool_bool, isB_bool_int, isB_bool_str, isB_bool_tuple, isB_bool_list, isB_bool_dict, isB_int_bool, isB_int_int, isB_int_str, isB_int_tuple, isB_int_list, isB_int_dict, isB_str_bool, isB_str_int, isB_str_str, isB_str_tuple, isB_str_list, isB_str_dict, isB_tuple_bool, isB_tuple_int, isB_tuple_str, isB_tuple_tuple, isB_tuple_list, isB_tuple_dict, isB_list_bool, isB_list_int, isB_list_str, isB_list_tuple, isB_list_list, isB_list_dict, isB_dict_bool, isB_dict_int, isB_dict_str, isB_dict_tuple, isB_dict_list, isB_dict_dict, isC_bool, isC_int, isC_str, isC_tuple, isC_list, isC_dict, isA_list_tuple, isQ_NoneType, isQ_bool, isQ_int, isQ_str, isQ_tuple, isQ_list, isQ_dict, true_and, and_true, Bool.not_true, Bool.not_false, Bool.false_eq_true, Bool.true_xor, Bool.false_xor, hS.src, ino]
  case any => rw [mt_any] at q; exact ⟨by omega, rfl, rfl, fin_of q⟩
  case frm => rw [mt_frm] at q; exact ⟨by omega, rfl, rfl, fin_of q⟩
  case has x h =>
    rw [mt_has] at q
    rw [hS.fld x h]
    refine ⟨by omega, rfl, rfl, ?_⟩
    rcases hS.wd x h with e | ⟨y, e⟩ <;> rw [e] at q ⊢ <;> simp only [↓pVar, ↓pGet, ↓pC, ↓pOp, ↓pUn, ↓pCB, ↓pNil, ↓pCons, ↓pTest, ↓pBl, ↓pAndT, ↓pOrT, ↓pNotT, ↓pAndV, ↓pOrV, ↓pNotV, ↓pIfE, ↓pTup, ↓pLst, ↓pLstO, ↓pCall, ↓pMeth, ↓pFld, ↓pProp, ↓pMake, ↓pCv, ↓pSl, ↓pNo, ↓pSome, ↓pIntK, ↓pN, ↓pT, ↓pGC, ↓pGN, ↓pIf, ↓pRet, ↓pRetN, ↓pDrop, ↓pAsg, ↓pNx, ↓pBrk, ↓pCnt, ↓pNever, ↓pSub, ↓pAug, ↓pPar, ↓pParK, ↓pBM, ↓pFor, ↓pLc, ↓pLcO, ↓pYes, ↓piSeq, ↓piStr, ↓pStrK, ↓piRng1, ↓pRng1K, ↓piRng2, ↓pRng2K, ↓piEnum, ↓pEnumK, ↓piZip, ↓pZipL, ↓pZipT, ↓pFz, ↓pLenSet, ↓pIsT, ↓rIx_lst, ↓rIx_tup, ↓rIx_ref, ↓rIx_str, ↓rLen_str, ↓rLen_lst, ↓rLen_tup, ↓rLen_ref, ↓rIs_p, ↓rInt_int, ↓rInt_bl, ↓rStr_int, ↓rList_p, ↓rListO_p, ↓rTup_p, ↓rAdd_int, ↓rAdd_str, ↓rAdd_tup, ↓rAdd_lst, ↓rIntD_p, ↓rInt0_p, ↓rEq_int, ↓rEq_str, ↓rEq_bl, ↓rEq_lst, ↓rEq_tup, ↓rIsN_non, ↓rIsN_bl, ↓rIsN_int, ↓rIsN_str, ↓rIsN_tup, ↓rIsN_lst, ↓rNeg_p, ↓rSl_str, ↓rSl_tup, ↓rSl_lst, ↓rSl_scr, ↓rRep_p, ↓pOptK, ↓pChain, ↓pIfT, ↓pCallK, ↓pDzip, ↓pDzipK, ↓pDzipO, ↓pDzipKO, ↓rIsB_bl, ↓rDix_str, ↓rDix_int, ↓rIn_tup, ↓rIn_lst, ↓rEq_ns, ↓rEq_sn, ↓rRepT_p, ↓rAll_f, ↓rAll_t, ↓wSeq_p, ↓seqE_nx, ↓reduceIte, at_0, at_1, at_2, at_3, cut_1, cut_2, dl_0_0, dl_0_1, dl_0_2, dl_0_3, dl_0_4, dl_0_5, dl_1_0, dl_1_1, dl_1_2, dl_1_3, dl_1_4, dl_1_5, dl_2_0, dl_2_1, dl_2_2, dl_2_3, dl_2_4, dl_2_5, dl_3_0, dl_3_1, dl_3_2, dl_3_3, dl_3_4, dl_3_5, dl_4_0, dl_4_1, dl_4_2, dl_4_3, dl_4_4, dl_4_5, dn_1_0, dn_2_0, dn_2_1, dn_3_0, dn_3_1, dn_3_2, dn_4_0, dn_4_1, dn_4_2, dn_4_3, seqE_rt, seqE_bk, seqE_ct, seqE_ex, wipeD, frz_lst, frz_tup, at1_0, at2_0, at2_1, at3_0, at3_1, at3_2, at4_0, at4_1, at4_2, at4_3, at5_0, at5_1, at5_2, at5_3, at5_4, seqOf_put, seqOf_lst, seqOf_tup, insK_same, tyN_non, tyN_bl, tyN_int, tyN_str, tyN_tup, tyN_lst, tyN_dct, List.getElem?_cons_zero, List.getElem?_cons_succ, List.set_cons_zero, List.set_cons_succ, List.length_cons, List.length_nil, isB_NoneType_bool, isB_NoneType_int, isB_NoneType_str, isB_NoneType_tuple, isB_NoneType_list, isB_NoneType_dict, isB_bool_bool, isB_bool_int, isB_bool_str, isB_bool_tuple, isB_bool_list, isB_bool_dict, isB_int_bool, isB_int_int, isB_int_str, isB_int_tuple, isB_int_list, isB_int_dict, isB_str_bool, isB_str_int, isB_str_str, isB_str_tuple, isB_str_list, isB_str_dict, isB_tuple_bool, isB_tuple_int, isB_tuple_str, isB_tuple_tuple, isB_tuple_list, isB_tuple_dict, isB_list_bool, isB_list_int, isB_list_str, isB_list_tuple, isB_list_list, isB_list_dict, isB_dict_bool, isB_dict_int, isB_dict_str, isB_dict_tuple, isB_dict_list, isB_dict_dict, isC_bool, isC_int, isC_str, isC_tuple, isC_list, isC_dict, isA_list_tuple, isQ_NoneType, isQ_bool, isQ_int, isQ_str, isQ_tuple, isQ_list, isQ_dict, true_and, and_true, Bool.not_true, Bool.not_false, Bool.false_eq_true, Bool.true_xor, Bool.false_xor] <;> exact fin_of q
  case is x v h hv =>
    rw [mt_is] at q
    rw [hS.fld x h]
    refine ⟨by omega, rfl, rfl, ?_⟩
    rcases hS.wd x h with e | ⟨y, e⟩ <;> rw [e] at q ⊢ <;> simp only [↓pVar, ↓pGet, ↓pC, ↓pOp, ↓pUn, ↓pCB, ↓pNil, ↓pCons, ↓pTest, ↓pBl, ↓pAndT, ↓pOrT, ↓pNotT, ↓pAndV, ↓pOrV, ↓pNotV, ↓pIfE, ↓pTup, ↓pLst, ↓pLstO, ↓pCall, ↓pMeth, ↓pFld, ↓pProp, ↓pMake, ↓pCv, ↓pSl, ↓pNo, ↓pSome, ↓pIntK, ↓pN, ↓pT, ↓pGC, ↓pGN, ↓pIf, ↓pRet, ↓pRetN, ↓pDrop, ↓pAsg, ↓pNx, ↓pBrk, ↓pCnt, ↓pNever, ↓pSub, ↓pAug, ↓pPar, ↓pParK, ↓pBM, ↓pFor, ↓pLc, ↓pLcO, ↓pYes, ↓piSeq, ↓piStr, ↓pStrK, ↓piRng1, ↓pRng1K, ↓piRng2, ↓pRng2K, ↓piEnum, ↓pEnumK, ↓piZip, ↓pZipL, ↓pZipT, ↓pFz, ↓pLenSet, ↓pIsT, ↓rIx_lst, ↓rIx_tup, ↓rIx_ref, ↓rIx_str, ↓rLen_str, ↓rLen_lst, ↓rLen_tup, ↓rLen_ref, ↓rIs_p, ↓rInt_int, ↓rInt_bl, ↓rStr_int, ↓rList_p, ↓rListO_p, ↓rTup_p, ↓rAdd_int, ↓rAdd_str, ↓rAdd_tup, ↓rAdd_lst, ↓rIntD_p, ↓rInt0_p, ↓rEq_int, ↓rEq_str, ↓rEq_bl, ↓rEq_lst, ↓rEq_tup, ↓rIsN_non, ↓rIsN_bl, ↓rIsN_int, ↓rIsN_str, ↓rIsN_tup, ↓rIsN_lst, ↓rNeg_p, ↓rSl_str, ↓rSl_tup, ↓rSl_lst, ↓rSl_scr, ↓rRep_p, ↓pOptK, ↓pChain, ↓pIfT, ↓pCallK, ↓pDzip, ↓pDzipK, ↓pDzipO, ↓pDzipKO, ↓rIsB_bl, ↓rDix_str, ↓rDix_int, ↓rIn_tup, ↓rIn_lst, ↓rEq_ns, ↓rEq_sn, ↓rRepT_p, ↓rAll_f, ↓rAll_t, ↓wSeq_p, ↓seqE_nx, ↓reduceIte, at_0, at_1, at_2, at_3, cut_1, cut_2, dl_0_0, dl_0_1, dl_0_2, dl_0_3, dl_0_4, dl_0_5, dl_1_0, dl_1_1, dl_1_2, dl_1_3, dl_1_4, dl_1_5, dl_2_0, dl_2_1, dl_2_2, dl_2_3, dl_2_4, dl_2_5, dl_3_0, dl_3_1, dl_3_2, dl_3_3, dl_3_4, dl_3_5, dl_4_0, dl_4_1, dl_4_2, dl_4_3, dl_4_4, dl_4_5, dn_1_0, dn_2_0, dn_2_1, dn_3_0, dn_3_1, dn_3_2, dn_4_0, dn_4_1, dn_4_2, dn_4_3, seqE_rt, seqE_bk, seqE_ct, seqE_ex, wipeD, frz_lst, frz_tup, at1_0, at2_0, at2_1, at3_0, at3_1, at3_2, at4_0, at4_1, at4_2, at4_3, at5_0, at5_1, at5_2, at5_3, at5_4, seqOf_put, seqOf_lst, seqOf_tup, insK_same, tyN_non, tyN_bl, tyN_int, tyN_str, tyN_tup, tyN_lst, tyN_dct, List.getElem?_cons_zero, List.getElem?_cons_succ, List.set_cons_zero, List.set_cons_succ, List.length_cons, List.length_nil, isB_NoneType_bool, isB_NoneType_int, isB_NoneType_str, isB_NoneType_tuple, isB_NoneType_list, isB_NoneType_dict, isB_bool_bool, isB_bool_int, isB_bool_str, isB_bool_tuple, isB_bool_list, isB_bool_dict, isB_int_bool, isB_int_int, isB_int_str, isB_int_tuple, isB_int_list, isB_int_dict, isB_str_bool, isB_str_int, isB_str_str, isB_str_tuple, isB_str_list, isB_str_dict, isB_tuple_bool, isB_tuple_int, isB_tuple_str, isB_tuple_tuple, isB_tuple_list, isB_tuple_dict, isB_list_bool, isB_list_int, isB_list_str, isB_list_tuple, isB_list_list, isB_list_dict, isB_dict_bool, isB_dict_int, isB_dict_str, isB_dict_tuple, isB_dict_list, isB_dict_dict, isC_bool, isC_int, isC_str, isC_tuple, isC_list, isC_dict, isA_list_tuple, isQ_NoneType, isQ_bool, isQ_int, isQ_str, isQ_tuple, isQ_list, isQ_dict, true_and, and_true, Bool.not_true, Bool.not_false, Bool.false_eq_true, Bool.true_xor, Bool.false_xor]
    · exact ⟨trivial, strOk_of ok36 (made_len hv).2.2, fin_of q⟩
    · exact fin_of q
  case nt c h =>
    rw [mt_not] at q
    exact ⟨fs, ss, s, lf, ks, xs, c, rfl, h, hS, fin_of q⟩
  case an h1 h2 h3 =>
    rw [mt_an] at q
    refine ⟨by omega, rfl, rfl, ?_⟩
    rw [← List.map_id cs]
    refine lcR_mapL id (fun c => .bl (mt s lf n c)) (fun c => CondD fs ss n c) (fun c acc R hx h => ?_) cs [] h3 (by simp only [List.length_nil]; omega) ?_
    · simp only [↓pVar, ↓pGet, ↓pC, ↓pOp, ↓pUn, ↓pCB, ↓pNil, ↓pCons, ↓pTest, ↓pBl, ↓pAndT, ↓pOrT, ↓pNotT, ↓pAndV, ↓pOrV, ↓pNotV, ↓pIfE, ↓pTup, ↓pLst, ↓pLstO, ↓pCall, ↓pMeth, ↓pFld, ↓pProp, ↓pMake, ↓pCv, ↓pSl, ↓pNo, ↓pSome, ↓pIntK, ↓pN, ↓pT, ↓pGC, ↓pGN, ↓pIf, ↓pRet, ↓pRetN, ↓pDrop, ↓pAsg, ↓pNx, ↓pBrk, ↓pCnt, ↓pNever, ↓pSub, ↓pAug, ↓pPar, ↓pParK, ↓pBM, ↓pFor, ↓pLc, ↓pLcO, ↓pYes, ↓piSeq, ↓piStr, ↓pStrK, ↓piRng1, ↓pRng1K, ↓piRng2, ↓pRng2K, ↓piEnum, ↓pEnumK, ↓piZip, ↓pZipL, ↓pZipT, ↓pFz, ↓pLenSet, ↓pIsT, ↓rIx_lst, ↓rIx_tup, ↓rIx_ref, ↓rIx_str, ↓rLen_str, ↓rLen_lst, ↓rLen_tup, ↓rLen_ref, ↓rIs_p, ↓rInt_int, ↓rInt_bl, ↓rStr_int, ↓rList_p, ↓rListO_p, ↓rTup_p, ↓rAdd_int, ↓rAdd_str, ↓rAdd_tup, ↓rAdd_lst, ↓rIntD_p, ↓rInt0_p, ↓rEq_int, ↓rEq_str, ↓rEq_bl, ↓rEq_lst, ↓rEq_tup, ↓rIsN_non, ↓rIsN_bl, ↓rIsN_int, ↓rIsN_str, ↓rIsN_tup, ↓rIsN_lst, ↓rNeg_p, ↓rSl_str, ↓rSl_tup, ↓rSl_lst, ↓rSl_scr, ↓rRep_p, ↓pOptK, ↓pChain, ↓pIfT, ↓pCallK, ↓pDzip, ↓pDzipK, ↓pDzipO, ↓pDzipKO, ↓rIsB_bl, ↓rDix_str, ↓rDix_int, ↓rIn_tup, ↓rIn_lst, ↓rEq_ns, ↓rEq_sn, ↓rRepT_p, ↓rAll_f, ↓rAll_t, ↓wSeq_p, ↓seqE_nx, ↓reduceIte, at_0, at_1, at_2, at_3, cut_1, cut_2, dl_0_0, dl_0_1, dl_0_2, dl_0_3, dl_0_4, dl_0_5, dl_1_0, dl_1_1, dl_1_2, dl_1_3, dl_1_4, dl_1_5, dl_2_0, dl_2_1, dl_2_2, dl_2_3, dl_2_4, dl_2_5, dl_3_0, dl_3_1, dl_3_2, dl_3_3, dl_3_4, dl_3_5, dl_4_0, dl_4_1, dl_4_2, dl_4_3, dl_4_4, dl_4_5, dn_1_0, dn_2_0, dn_2_1, dn_3_0, dn_3_1, dn_3_2, dn_4_0, dn_4_1, dn_4_2, dn_4_3, seqE_rt, seqE_bk, seqE_ct, seqE_ex, wipeD, frz_lst, frz_tup, at1_0, at2_0, at2_1, at3_0, at3_1, at3_2, at4_0, at4_1, at4_2, at4_3, at5_0, at5_1, at5_2, at5_3, at5_4, seqOf_put, seqOf_lst, seqOf_tup, insK_same, tyN_non, tyN_bl, tyN_int, tyN_str, tyN_tup, tyN_lst, tyN_dct, List.getElem?_cons_zero, List.getElem?_cons_succ, List.set_cons_zero, List.set_cons_succ, List.length_cons, List.length_nil, isB_NoneType_bool, isB_NoneType_int, isB_NoneType_str, isB_NoneType_tuple, isB_NoneType_list, isB_NoneType_dict, isB_bool_bool, isB_bool_int, isB_bool_str, isB_bool_tuple, isB_bool_list, isB_bool_dict, isB_int_bool, isB_int_int, isB_int_str, isB_int_tuple, isB_int_list, isB_int_dict, isB_str_bool, isB_str_int, isB_str_str, isB_str_tuple, isB_str_list, isB_str_dict, isB_tuple_bool, isB_tuple_int, isB_tuple_str, isB_tuple_tuple, isB_tuple_list, isB_tuple_dict, isB_list_bool, isB_list_int, isB_list_str, isB_list_tuple, isB_list_list, isB_list_dict, isB_dict_bool, isB_dict_int, isB_dict_str, isB_dict_tuple, isB_dict_list, isB_dict_dict, isC_bool, isC_int, isC_str, isC_tuple, isC_list, isC_dict, isA_list_tuple, isQ_NoneType, isQ_bool, isQ_int, isQ_str, isQ_tuple, isQ_list, isQ_dict, true_and, and_true, Bool.not_true, Bool.not_false, Bool.false_eq_true, Bool.true_xor, Bool.false_xor, List.map_id]
      exact ⟨fs, ss, s, lf, ks, xs, c, rfl, hx, hS, h⟩
    · have e : cs.map (fun c => D.bl (mt s lf n c)) = (cs.map (mt s lf n)).map D.bl := by rw [List.map_map]; rfl
      rw [List.nil_append, e, inB]
      refine ⟨rfl, by rw [List.all_map]; exact List.all_eq_true.mpr fun _ _ => rfl, ?_⟩
      have e2 : (!(decide (false ∈ cs.map (mt s lf n)))) = cs.all (mt s lf n) := by
        rw [Bool.eq_iff_iff, List.all_eq_true]
        simp
      rw [e2]
      exact fin_of q
  case orr h1 h2 h3 =>
    rw [mt_or] at q
    refine ⟨by omega, rfl, rfl, ?_⟩
    rw [← List.map_id cs]
    refine lcR_mapL id (fun c => .bl (mt s lf n c)) (fun c => CondD fs ss n c) (fun c acc R hx h => ?_) cs [] h3 (by simp only [List.length_nil]; omega) ?_
    · simp only [↓pVar, ↓pGet, ↓pC, ↓pOp, ↓pUn, ↓pCB, ↓pNil, ↓pCons, ↓pTest, ↓pBl, ↓pAndT, ↓pOrT, ↓pNotT, ↓pAndV, ↓pOrV, ↓pNotV, ↓pIfE, ↓pTup, ↓pLst, ↓pLstO, ↓pCall, ↓pMeth, ↓pFld, ↓pProp, ↓pMake, ↓pCv, ↓pSl, ↓pNo, ↓pSome, ↓pIntK, ↓pN, ↓pT, ↓pGC, ↓pGN, ↓pIf, ↓pRet, ↓pRetN, ↓pDrop, ↓pAsg, ↓pNx, ↓pBrk, ↓pCnt, ↓pNever, ↓pSub, ↓pAug, ↓pPar, ↓pParK, ↓pBM, ↓pFor, ↓pLc, ↓pLcO, ↓pYes, ↓piSeq, ↓piStr, ↓pStrK, ↓piRng1, ↓pRng1K, ↓piRng2, ↓pRng2K, ↓piEnum, ↓pEnumK, ↓piZip, ↓pZipL, ↓pZipT, ↓pFz, ↓pLenSet, ↓pIsT, ↓rIx_lst, ↓rIx_tup, ↓rIx_ref, ↓rIx_str, ↓rLen_str, ↓rLen_lst, ↓rLen_tup, ↓rLen_ref, ↓rIs_p, ↓rInt_int, ↓rInt_bl, ↓rStr_int, ↓rList_p, ↓rListO_p, ↓rTup_p, ↓rAdd_int, ↓rAdd_str, ↓rAdd_tup, ↓rAdd_lst, ↓rIntD_p, ↓rInt0_p, ↓rEq_int, ↓rEq_str, ↓rEq_bl, ↓rEq_lst, ↓rEq_tup, ↓rIsN_non, ↓rIsN_bl, ↓rIsN_int, ↓rIsN_str, ↓rIsN_tup, ↓rIsN_lst, ↓rNeg_p, ↓rSl_str, ↓rSl_tup, ↓rSl_lst, ↓rSl_scr, ↓rRep_p, ↓pOptK, ↓pChain, ↓pIfT, ↓pCallK, ↓pDzip, ↓pDzipK, ↓pDzipO, ↓pDzipKO, ↓rIsB_bl, ↓rDix_str, ↓rDix_int, ↓rIn_tup, ↓rIn_lst, ↓rEq_ns, ↓rEq_sn, ↓rRepT_p, ↓rAll_f, ↓rAll_t, ↓wSeq_p, ↓seqE_nx, ↓reduceIte, at_0, at_1, at_2, at_3, cut_1, cut_2, dl_0_0, dl_0_1, dl_0_2, dl_0_3, dl_0_4, dl_0_5, dl_1_0, dl_1_1, dl_1_2, dl_1_3, dl_1_4, dl_1_5, dl_2_0, dl_2_1, dl_2_2, dl_2_3, dl_2_4, dl_2_5, dl_3_0, dl_3_1, dl_3_2, dl_3_3, dl_3_4, dl_3_5, dl_4_0, dl_4_1, dl_4_2, dl_4_3, dl_4_4, dl_4_5, dn_1_0, dn_2_0, dn_2_1, dn_3_0, dn_3_1, dn_3_2, dn_4_0, dn_4_1, dn_4_2, dn_4_3, seqE_rt, seqE_bk, seqE_ct, seqE_ex, wipeD, frz_lst, frz_tup, at1_0, at2_0, at2_1, at3_0, at3_1, at3_2, at4_0, at4_1, at4_2, at4_3, at5_0, at5_1, at5_2, at5_3, at5_4, seqOf_put, seqOf_lst, seqOf_tup, insK_same, tyN_non, tyN_bl, tyN_int, tyN_str, tyN_tup, tyN_lst, tyN_dct, List.getElem?_cons_zero, List.getElem?_cons_succ, List.set_cons_zero, List.set_cons_succ, List.length_cons, List.length_nil, isB_NoneType_bool, isB_NoneType_int, isB_NoneType_str, isB_NoneType_tuple, isB_NoneType_list, isB_NoneType_dict, isB_bool_bool, isB_bool_int, isB_bool_str, isB_bool_tuple, isB_bool_list, isB_bool_dict, isB_int_bool, isB_int_int, isB_int_str, isB_int_tuple, isB_int_list, isB_int_dict, isB_str_bool, isB_str_int, isB_str_str, isB_str_tuple, isB_str_list, isB_str_dict, isB_tuple_bool, isB_tuple_int, isB_tuple_str, isB_tuple_tuple, isB_tuple_list, isB_tuple_dict, isB_list_bool, isB_list_int, isB_list_str, isB_list_tuple, isB_list_list, isB_list_dict, isB_dict_bool, isB_dict_int, isB_dict_str, isB_dict_tuple, isB_dict_list, isB_dict_dict, isC_bool, isC_int, isC_str, isC_tuple, isC_list, isC_dict, isA_list_tuple, isQ_NoneType, isQ_bool, isQ_int, isQ_str, isQ_tuple, isQ_list, isQ_dict, true_and, and_true, Bool.not_true, Bool.not_false, Bool.false_eq_true, Bool.true_xor, Bool.false_xor, List.map_id]
      exact ⟨fs, ss, s, lf, ks, xs, c, rfl, hx, hS, h⟩
    · have e : cs.map (fun c => D.bl (mt s lf n c)) = (cs.map (mt s lf n)).map D.bl := by rw [List.map_map]; rfl
      rw [List.nil_append, e, inB]
      refine ⟨rfl, by rw [List.all_map]; exact List.all_eq_true.mpr fun _ _ => rfl, ?_⟩
      have e2 : decide (true ∈ cs.map (mt s lf n)) = cs.any (mt s lf n) := by
        rw [Bool.eq_iff_iff, List.any_eq_true]
        simp
      rw [e2]
      exact fin_of q
theorem ok__law_met {P : Program} {w : World} {K : PySem.W.Frag} {mg : Str → Option Value} {base : Heap} {A : Ad} (T : Txt K mg A) : ∀ n, FnJ P w K mg base (1 + n) A.f__law_met (sp__law_met A n)
  | 0 => FnJ.mkAt (k := 0) (wb := wNever) T.d__law_met sc__law_met (fun cdv R outer s H E hr tk => jss_never) (fun _ _ _ _ ⟨_, _, _, _, _, _, _, _, h, _⟩ => h.elim)
  | n + 1 => FnJ.mkAt (k := 1 + n) T.d__law_met sc__law_met (fun cdv R outer s H E hr tk => bd__law_met T n (ok__law_met T n) cdv R outer s H E hr tk) (rd__law_met A n)

end DL.K09
namespace DL.K09
open PySem PySem.Spec PyProof.Rows L2 RZ
def sp_law (A : Ad) : SpD := fun ds M Q _ => ∃ ns, ds = [.scr ns] ∧ Q (.bl true) M
def wb_law_c8 (A : Ad) : WS :=
  (wIf (wNotT (wTest (wCall (sp__law_like A 4) (wCons (wVar 11) (wCons (wNotV (wVar 9)) wNil)))))
  (wRet (wC (.bl false)))
  wNx)
def wb_law_c7 (A : Ad) : WS :=
  (wSeq (wAsg (wCallK (sp_holds A) 1 2 [0, 2, 1] (wCons (wVar 3) wNil) (wCons (wVar 6) (wCons (wTup (wCons (wC (.str "not")) (wCons (wTup (wCons (wC (.str "or")) (wCons (wVar 8) (wCons (wTup (wCons (wC (.str "not")) (wCons (wTup (wCons (wC (.str "any")) wNil)) wNil))) wNil)))) wNil))) wNil))) (gN 11))
  (wb_law_c8 A))
def wb_law_c6 (A : Ad) : WS :=
  (wSeq (wIf (wOrT (wNotT (wTest (wCall (sp__law_like A 4) (wCons (wVar 10) (wCons (wVar 9) wNil))))) (wTest (wOp (rIsND true) (wCall (sp_check_condition A) (wCons (wVar 3) (wCons (wVar 8) wNil))) (wC .non))))
  (wRet (wC (.bl false)))
  wNx)
  (wb_law_c7 A))
def wb_law_c5 (A : Ad) : WS :=
  (wSeq (wAsg (wCall (sp_holds A) (wCons (wVar 3) (wCons (wVar 8) (wCons (wVar 6) wNil)))) (gN 10))
  (wb_law_c6 A))
def wb_law_c4 (A : Ad) : WS :=
  (wSeq (wAsg (wCall (sp__law_met A 7) (wCons (wVar 8) (wCons (wCall (sp__law_sheet A) (wCons (wVar 2) (wCons (wVar 6) wNil))) wNil))) (gN 9))
  (wb_law_c5 A))
def wb_law_c3 (A : Ad) : WS :=
  (wSeq (wAsg (wCall (sp__law_cond A 5) (wCons (wVar 1) (wCons (wVar 2) (wCons (wVar 4) (wCons (wCall (sp__law_pull A) (wCons (wVar 1) (wCons (wC (.int 5)) wNil))) wNil))))) (gN 8))
  (wb_law_c4 A))
def wb_law_c2 (A : Ad) : WS :=
  (wFor (wiRng1 (wCons (wC (.int 4)) wNil)) (gN 7)
  (wb_law_c3 A))
def wb_law_c9 (A : Ad) : WS :=
  (wRet (wAndV (wOp (rIsBD false) (wCall (sp_holds A) (wCons (wVar 3) (wCons (wVar 12) (wCons (wVar 13) wNil)))) (wC (.bl true))) (wOp (rIsBD false) (wCall (sp_holds A) (wCons (wVar 3) (wCons (wVar 12) (wCons (wTup (wCons (wC (.int 1)) (wCons (wOp rIxD (wOp rIxD (wVar 2) (wC (.int 1))) (wC (.int 0))) (wCons (wOp rRepTD (wTup (wCons (wC .non) wNil)) (wCB rLenD (wCons (wOp rIxD (wVar 2) (wC (.int 0))) wNil))) wNil)))) wNil)))) (wC (.bl false)))))
def wb_law_c1 (A : Ad) : WS :=
  (wSeq (wAsg (wTup (wCons (wC (.str "and")) (wCons (wTup (wCons (wC (.str "any")) wNil)) (wCons (wTup (wCons (wC (.str "has")) (wCons (wOp rIxD (wOp rIxD (wVar 2) (wC (.int 0))) (wC (.int 0))) wNil))) (wCons (wTup (wCons (wC (.str "from")) (wCons (wOp rIxD (wOp rIxD (wVar 2) (wC (.int 1))) (wC (.int 0))) wNil))) (wCons (wTup (wCons (wC (.str "is")) (wCons (wOp rIxD (wOp rIxD (wVar 2) (wC (.int 0))) (wC (.int 0))) (wCons (wC (.str "x0")) wNil)))) wNil)))))) (gN 12))
  (wSeq (wAsg (wTup (wCons (wC (.int 1)) (wCons (wOp rIxD (wOp rIxD (wVar 2) (wC (.int 1))) (wC (.int 0))) (wCons (wCB rTupD (wCons (wLc (wiSeq (wOp rIxD (wVar 2) (wC (.int 0)))) (gN 14) wYes (wC (.str "x0")) [14]) wNil)) wNil)))) (gN 13))
  (wb_law_c9 A)))
def wb_law_c0 (A : Ad) : WS :=
  (wSeq (wFor (wiRng1 (wCons (wC (.int 10)) wNil)) (gN 5)
  (wSeq (wAsg (wCall (sp__law_row A) (wCons (wVar 1) (wCons (wVar 2) (wCons (wOp (rInt0D fun i j => .int (i - j)) (wCall (sp__law_pull A) (wCons (wVar 1) (wCons (wC (.int 90)) wNil))) (wC (.int 40))) wNil)))) (gN 6))
  (wb_law_c2 A)))
  (wb_law_c1 A))
def wb_law (A : Ad) : WS :=
  (wSeq (wAsg (wCall (sp__law_opened A) (wCons (wVar 0) wNil)) (gN 1))
  (wSeq (wAsg (wCall (sp__law_ground A) (wCons (wVar 1) (wCons (wC (.int 4)) (wCons (wC (.int 4)) wNil)))) (gN 2))
  (wSeq (wPar 3 4 (wCons (wCall (sp__law_shape A) (wCons (wVar 2) wNil)) (wCons (wCall (sp__law_columns A) (wCons (wVar 2) wNil)) wNil)))
  (wb_law_c0 A))))
theorem bd_law {P : Program} {w : World} {K : PySem.W.Frag} {mg : Str → Option Value} {base : Heap} {A : Ad} (T : Txt K mg A) (cdv : Value) (R : Around) (outer : List Env) (s : Shared) (H : Hp) (E : XK) (hr : Room 16 (R.deeper (envOfC "law" (defScope s_law) s.heap.objs.size A.f_law cdv)))
    (tk : Takes (cxOf (L2.CX P w) P w K mg base N_law "law" (defScope s_law) A.f_law cdv R outer s H E) (WD E)) : JSs (cxOf (L2.CX P w) P w K mg base N_law "law" (defScope s_law) A.f_law cdv R outer s H E) (WD E) (defBody s_law) (wb_law A) :=
  (js_cons (js_set (i := 1) sc_law.nd (j_call (ok__law_opened T) hr (by decide) T.g__law_opened tk (j_cons (jv 0) j_nil)))
  (js_cons (js_set (i := 2) sc_law.nd (j_call (ok__law_ground T) hr (by decide) T.g__law_ground tk (j_cons (jv 1) (j_cons j_int (j_cons j_int j_nil)))))
  (js_cons (js_par (i := 3) (j := 4) rfl sc_law.nd (j_cons (j_call (ok__law_shape T) hr (by decide) T.g__law_shape tk (j_cons (jv 2) j_nil)) (j_cons (j_call (ok__law_columns T) hr (by decide) T.g__law_columns tk (j_cons (jv 2) j_nil)) j_nil)))
  (js_cons (js_for (passes_of rfl) rfl (ji_rng1 T.n_range (j_cons j_int j_nil)) (jg_name (i := 5) sc_law.nd)
  (js_cons (js_set (i := 6) sc_law.nd (j_call (ok__law_row T) hr (by decide) T.g__law_row tk (j_cons (jv 1) (j_cons (jv 2) (j_cons (j_op od_sub (j_call (ok__law_pull T) hr (by decide) T.g__law_pull tk (j_cons (jv 1) (j_cons j_int j_nil))) j_int) j_nil)))))
  (js_one (js_for (passes_of rfl) rfl (ji_rng1 T.n_range (j_cons j_int j_nil)) (jg_name (i := 7) sc_law.nd)
  (js_cons (js_set (i := 8) sc_law.nd (j_call (ok__law_cond T 5) hr (by decide) T.g__law_cond tk (j_cons (jv 1) (j_cons (jv 2) (j_cons (jv 4) (j_cons (j_call (ok__law_pull T) hr (by decide) T.g__law_pull tk (j_cons (jv 1) (j_cons j_int j_nil))) j_nil))))))
  (js_cons (js_set (i := 9) sc_law.nd (j_call (ok__law_met T 7) hr (by decide) T.g__law_met tk (j_cons (jv 8) (j_cons (j_call (ok__law_sheet T) hr (by decide) T.g__law_sheet tk (j_cons (jv 2) (j_cons (jv 6) j_nil))) j_nil))))
  (js_cons (js_set (i := 10) sc_law.nd (j_call (ok_holds T) hr (by decide) T.g_holds tk (j_cons (jv 3) (j_cons (jv 8) (j_cons (jv 6) j_nil)))))
  (js_cons (js_if (jt_bool (jt_or (jt_not (jt_val (j_call (ok__law_like T 4) hr (by decide) T.g__law_like tk (j_cons (jv 10) (j_cons (jv 9) j_nil))))) (jt_or1 (jt_cmp od_notN (j_call (ok_check_condition T) hr (by decide) T.g_check_condition tk (j_cons (jv 3) (j_cons (jv 8) j_nil))) j_non))))
  (js_one (js_ret j_bl))
  js_nil)
  (js_cons (js_set (i := 11) sc_law.nd (j_callK (okk_holds_row_condition T) hr (by decide) T.g_holds tk (j_cons (jv 3) j_nil) (jk_cons (jv 6) (jk_cons (j_tup (j_cons j_str (j_cons (j_tup (j_cons j_str (j_cons (jv 8) (j_cons (j_tup (j_cons j_str (j_cons (j_tup (j_cons j_str j_nil)) j_nil))) j_nil)))) j_nil))) jk_nil))))
  (js_one (js_if (jt_not (jt_val (j_call (ok__law_like T 4) hr (by decide) T.g__law_like tk (j_cons (jv 11) (j_cons (j_not (jv 9)) j_nil)))))
  (js_one (js_ret j_bl))
  js_nil)))))))))))
  (js_cons (js_set (i := 12) sc_law.nd (j_tup (j_cons j_str (j_cons (j_tup (j_cons j_str j_nil)) (j_cons (j_tup (j_cons j_str (j_cons (j_ix id_ix (j_ix id_ix (jv 2) j_int) j_int) j_nil))) (j_cons (j_tup (j_cons j_str (j_cons (j_ix id_ix (j_ix id_ix (jv 2) j_int) j_int) j_nil))) (j_cons (j_tup (j_cons j_str (j_cons (j_ix id_ix (j_ix id_ix (jv 2) j_int) j_int) (j_cons j_str j_nil)))) j_nil)))))))
  (js_cons (js_set (i := 13) sc_law.nd (j_tup (j_cons j_int (j_cons (j_ix id_ix (j_ix id_ix (jv 2) j_int) j_int) (j_cons (j_callTy cd_tup T.n_tuple bo_tuple (j_cons (j_lc (own := [("_law_name", 14)]) rfl sc_law.nd (ji_seq (j_ix id_ix (jv 2) j_int)) (blkOk_by (own := [("_law_name", 14)]) (N := N_law) (sc := defScope s_law) (by decide +kernel)) (fun _ _ _ _ _ => (jg_name (i := 14) sc_law.nd)) (fun _ _ _ _ _ => jts_nil) (fun _ _ _ _ _ => j_str)) j_nil)) j_nil)))))
  (js_one (js_ret (j_and (j_cmp od_isB (j_call (ok_holds T) hr (by decide) T.g_holds tk (j_cons (jv 3) (j_cons (jv 12) (j_cons (jv 13) j_nil)))) j_bl) (j_one (j_cmp od_isB (j_call (ok_holds T) hr (by decide) T.g_holds tk (j_cons (jv 3) (j_cons (jv 12) (j_cons (j_tup (j_cons j_int (j_cons (j_ix id_ix (j_ix id_ix (jv 2) j_int) j_int) (j_cons (j_op od_repT (j_tup (j_cons j_non j_nil)) (j_callB cd_len T.n_len bo_len (j_cons (j_ix id_ix (jv 2) j_int) j_nil))) j_nil)))) j_nil)))) j_bl)))))))))))
abbrev sl (s0 : Option D) (b : Addr) (A : Ad) (fs ss ws : List Str) (r : SD) : SD := s0 :: some (.ref b) :: some (grD fs ss ws) :: some (shp A fs ss) :: some (.lst ((cols fs).map D.str)) :: r
theorem g_021 {a b c : D} : gOrd 1 2 [0, 2, 1] [a] [b, c] = [a, c, b] := rfl
/-- a condition turned twice -/
def twi (c : D) : D := .tup [.str "not", .tup [.str "or", c, .tup [.str "not", .tup [.str "any"]]]]
theorem twi_ok {fs ss : List Str} {c : D} (h : CondD fs ss 5 c) : CondD fs ss 8 (twi c) :=
  ⟨_, _, rfl, .nt ⟨_, _, rfl, .orr (by simp) (by simp) fun x hx => by
    rcases List.mem_cons.mp hx with rfl | hx
    · exact h.up
    · rw [List.mem_singleton.mp hx]
      exact ⟨_, _, rfl, .nt ⟨_, _, rfl, .any⟩⟩⟩⟩
theorem twi_mt {fs ss : List Str} {s : Str} {lf : Str → D} {c : D} (h : CondD fs ss 5 c) : mt s lf 8 (twi c) = !(mt s lf 5 c) := by
  unfold twi
  rw [mt_not, mt_or, List.any_cons, List.any_cons, mt_not, mt_any, mt_up h]
  simp
theorem like_bl (A : Ad) {b : Bool} {M : Mem} {Q : KN} {X : KX} (q : Q (.bl true) M) : sp__law_like A 4 [.bl b, .bl b] M Q X := ⟨.bl b, rfl, trivial, q⟩
theorem step_c3 (A : Ad) {b : Addr} {fs ss ws : List Str} {nf ns m : Int} {s : Str} {vs : List D} {E : ED} {M N : Mem} {s0 x5 x7 x8 x9 x10 x11 x12 x13 x14 : Option D} (gr : GrOk nf ns fs ss ws) (hb : Bgd M b N) (hr : RowAt fs.length ss m (rowD m s vs))
    (q : ∀ r : SD, r.length = 8 → ∀ N', Bgd M b N' → E.nx (sl s0 b A fs ss ws (x5 :: some (rowD m s vs) :: r)) N') :
    wb_law_c3 A E (sl s0 b A fs ss ws [x5, some (rowD m s vs), x7, x8, x9, x10, x11, x12, x13, x14]) N := by
  have big := sizeLine_big
  have f5 := gr.f.hi
  obtain ⟨s', vs', e, r1, r2, r3⟩ := hr.ex
  cases e
  simp only [sl, wb_law_c3, ↓pVar, ↓pGet, ↓pC, ↓pOp, ↓pUn, ↓pCB, ↓pNil, ↓pCons, ↓pTest, ↓pBl, ↓pAndT, ↓pOrT, ↓pNotT, ↓pAndV, ↓pOrV, ↓pNotV, ↓pIfE, ↓pTup, ↓pLst, ↓pLstO, ↓pCall, ↓pMeth, ↓pFld, ↓pProp, ↓pMake, ↓pCv, ↓pSl, ↓pNo, ↓pSome, ↓pIntK, ↓pN, ↓pT, ↓pGC, ↓pGN, ↓pIf, ↓pRet, ↓pRetN, ↓pDrop, ↓pAsg, ↓pNx, ↓pBrk, ↓pCnt, ↓pNever, ↓pSub, ↓pAug, ↓pPar, ↓pParK, ↓pBM, ↓pFor, ↓pLc, ↓pLcO, ↓pYes, ↓piSeq, ↓piStr, ↓pStrK, ↓piRng1, ↓pRng1K, ↓piRng2, ↓pRng2K, ↓piEnum, ↓pEnumK, ↓piZip, ↓pZipL, ↓pZipT, ↓pFz, ↓pLenSet, ↓pIsT, ↓rIx_lst, ↓rIx_tup, ↓rIx_ref, ↓rIx_str, ↓rLen_str, ↓rLen_lst, ↓rLen_tup, ↓rLen_ref, ↓rIs_p, ↓rInt_int, ↓rInt_bl, ↓rStr_int, ↓rList_p, ↓rListO_p, ↓rTup_p, ↓rAdd_int, ↓rAdd_str, ↓rAdd_tup, ↓rAdd_lst, ↓rIntD_p, ↓rInt0_p, ↓rEq_int, ↓rEq_str, ↓rEq_bl, ↓rEq_lst, ↓rEq_tup, ↓rIsN_non, ↓rIsN_bl, ↓rIsN_int, ↓rIsN_str, ↓rIsN_tup, ↓rIsN_lst, ↓rNeg_p, ↓rSl_str, ↓rSl_tup, ↓rSl_lst, ↓rSl_scr, ↓rRep_p, ↓pOptK, ↓pChain, ↓pIfT, ↓pCallK, ↓pDzip, ↓pDzipK, ↓pDzipO, ↓pDzipKO, ↓rIsB_bl, ↓rDix_str, ↓rDix_int, ↓rIn_tup, ↓rIn_lst, ↓rEq_ns, ↓rEq_sn, ↓rRepT_p, ↓rAll_f, ↓rAll_t, ↓wSeq_p, ↓seqE_nx, ↓reduceIte, at_0, at_1, at_2, at_3, cut_1, cut_2, dl_0_0, dl_0_1, dl_0_2, dl_0_3, dl_0_4, dl_0_5, dl_1_0, dl_1_1, dl_1_2, dl_1_3, dl_1_4, dl_1_5, dl_2_0, dl_2_1, dl_2_2, dl_2_3, dl_2_4, dl_2_5, dl_3_0, dl_3_1, dl_3_2, dl_3_3, dl_3_4, dl_3_5, dl_4_0, dl_4_1, dl_4_2, dl_4_3, dl_4_4, dl_4_5, dn_1_0, dn_2_0, dn_2_1, dn_3_0, dn_3_1, dn_3_2, dn_4_0, dn_4_1, dn_4_2, dn_4_3, seqE_rt, seqE_bk, seqE_ct, seqE_ex, wipeD, frz_lst, frz_tup, at1_0, at2_0, at2_1, at3_0, at3_1, at3_2, at4_0, at4_1, at4_2, at4_3, at5_0, at5_1, at5_2, at5_3, at5_4, seqOf_put, seqOf_lst, seqOf_tup, insK_same, tyN_non, tyN_bl, tyN_int, tyN_str, tyN_tup, tyN_lst, tyN_dct, List.getElem?_cons_zero, List.getElem?_cons_succ, List.set_cons_zero, List.set_cons_succ, List.length_cons, List.length_nil, isB_NoneType_bool, isB_NoneType_int, isB_NoneType_str, isB_NoneType_tuple, isB_NoneType_list, isB_NoneType_dict, isB_bool_bool, isB_bool_int, isB_bool_str, isB_bool_tuple, isB_bool_list, isB_bool_dict, isB_int_bool, isB_int_int, isB_int_str, isB_int_tuple, isB_int_list, isB_int_dict, isB_str_bool, isB_str_int, isB_str_str, isB_str_tuple, isB_str_list, isB_str_dict, isB_tuple_bool, isB_tuple_int, isB_tuple_str, isB_tuple_tuple, isB_tuple_list, isB_tuple_dict, isB_list_bool, isB_list_int, isB_list_str, isB_list_tuple, isB_list_list, isB_list_dict, isB_dict_bool, isB_dict_int, isB_dict_str, isB_dict_tuple, isB_dict_list, isB_dict_dict, isC_bool, isC_int, isC_str, isC_tuple, isC_list, isC_dict, isA_list_tuple, isQ_NoneType, isQ_bool, isQ_int, isQ_str, isQ_tuple, isQ_list, isQ_dict, true_and, and_true, Bool.not_true, Bool.not_false, Bool.false_eq_true, Bool.true_xor, Bool.false_xor]
  refine pull_b A hb (by omega) (by omega) fun v hv N1 g1 _ => ?_
  obtain ⟨o1, e1, b1⟩ := bgd_at g1
  refine ⟨b, fs, ss, ws, o1, nf, ns, v, rfl, gr, e1, b1, by omega, by omega, fun c hc o2 b2 => ?_⟩
  have g2 := bgd_put g1 b2
  generalize mput N1 b o2 = N2 at g2 ⊢
  simp only [wb_law_c4, ↓pVar, ↓pGet, ↓pC, ↓pOp, ↓pUn, ↓pCB, ↓pNil, ↓pCons, ↓pTest, ↓pBl, ↓pAndT, ↓pOrT, ↓pNotT, ↓pAndV, ↓pOrV, ↓pNotV, ↓pIfE, ↓pTup, ↓pLst, ↓pLstO, ↓pCall, ↓pMeth, ↓pFld, ↓pProp, ↓pMake, ↓pCv, ↓pSl, ↓pNo, ↓pSome, ↓pIntK, ↓pN, ↓pT, ↓pGC, ↓pGN, ↓pIf, ↓pRet, ↓pRetN, ↓pDrop, ↓pAsg, ↓pNx, ↓pBrk, ↓pCnt, ↓pNever, ↓pSub, ↓pAug, ↓pPar, ↓pParK, ↓pBM, ↓pFor, ↓pLc, ↓pLcO, ↓pYes, ↓piSeq, ↓piStr, ↓pStrK, ↓piRng1, ↓pRng1K, ↓piRng2, ↓pRng2K, ↓piEnum, ↓pEnumK, ↓piZip, ↓pZipL, ↓pZipT, ↓pFz, ↓pLenSet, ↓pIsT, ↓rIx_lst, ↓rIx_tup, ↓rIx_ref, ↓rIx_str, ↓rLen_str, ↓rLen_lst, ↓rLen_tup, ↓rLen_ref, ↓rIs_p, ↓rInt_int, ↓rInt_bl, ↓rStr_int, ↓rList_p, ↓rListO_p, ↓rTup_p, ↓rAdd_int, ↓rAdd_str, ↓rAdd_tup, ↓rAdd_lst, ↓rIntD_p, ↓rInt0_p, ↓rEq_int, ↓rEq_str, ↓rEq_bl, ↓rEq_lst, ↓rEq_tup, ↓rIsN_non, ↓rIsN_bl, ↓rIsN_int, ↓rIsN_str, ↓rIsN_tup, ↓rIsN_lst, ↓rNeg_p, ↓rSl_str, ↓rSl_tup, ↓rSl_lst, ↓rSl_scr, ↓rRep_p, ↓pOptK, ↓pChain, ↓pIfT, ↓pCallK, ↓pDzip, ↓pDzipK, ↓pDzipO, ↓pDzipKO, ↓rIsB_bl, ↓rDix_str, ↓rDix_int, ↓rIn_tup, ↓rIn_lst, ↓rEq_ns, ↓rEq_sn, ↓rRepT_p, ↓rAll_f, ↓rAll_t, ↓wSeq_p, ↓seqE_nx, ↓reduceIte, at_0, at_1, at_2, at_3, cut_1, cut_2, dl_0_0, dl_0_1, dl_0_2, dl_0_3, dl_0_4, dl_0_5, dl_1_0, dl_1_1, dl_1_2, dl_1_3, dl_1_4, dl_1_5, dl_2_0, dl_2_1, dl_2_2, dl_2_3, dl_2_4, dl_2_5, dl_3_0, dl_3_1, dl_3_2, dl_3_3, dl_3_4, dl_3_5, dl_4_0, dl_4_1, dl_4_2, dl_4_3, dl_4_4, dl_4_5, dn_1_0, dn_2_0, dn_2_1, dn_3_0, dn_3_1, dn_3_2, dn_4_0, dn_4_1, dn_4_2, dn_4_3, seqE_rt, seqE_bk, seqE_ct, seqE_ex, wipeD, frz_lst, frz_tup, at1_0, at2_0, at2_1, at3_0, at3_1, at3_2, at4_0, at4_1, at4_2, at4_3, at5_0, at5_1, at5_2, at5_3, at5_4, seqOf_put, seqOf_lst, seqOf_tup, insK_same, tyN_non, tyN_bl, tyN_int, tyN_str, tyN_tup, tyN_lst, tyN_dct, List.getElem?_cons_zero, List.getElem?_cons_succ, List.set_cons_zero, List.set_cons_succ, List.length_cons, List.length_nil, isB_NoneType_bool, isB_NoneType_int, isB_NoneType_str, isB_NoneType_tuple, isB_NoneType_list, isB_NoneType_dict, isB_bool_bool, isB_bool_int, isB_bool_str, isB_bool_tuple, isB_bool_list, isB_bool_dict, isB_int_bool, isB_int_int, isB_int_str, isB_int_tuple, isB_int_list, isB_int_dict, isB_str_bool, isB_str_int, isB_str_str, isB_str_tuple, isB_str_list, isB_str_dict, isB_tuple_bool, isB_tuple_int, isB_tuple_str, isB_tuple_tuple, isB_tuple_list, isB_tuple_dict, isB_list_bool, isB_list_int, isB_list_str, isB_list_tuple, isB_list_list, isB_list_dict, isB_dict_bool, isB_dict_int, isB_dict_str, isB_dict_tuple, isB_dict_list, isB_dict_dict, isC_bool, isC_int, isC_str, isC_tuple, isC_list, isC_dict, isA_list_tuple, isQ_NoneType, isQ_bool, isQ_int, isQ_str, isQ_tuple, isQ_list, isQ_dict, true_and, and_true, Bool.not_true, Bool.not_false, Bool.false_eq_true, Bool.true_xor, Bool.false_xor]
  refine ⟨fs, ss, ws, m, s, vs, rfl, gr.f, gr.o, r2, r3, fun ks xs hS _ => ?_⟩
  refine ⟨fs, ss, s, fldOf fs vs, ks, xs, c, rfl, hc.mono (by decide), hS, ?_⟩
  rw [mt_mono hc (by decide : 5 ≤ 7)]
  simp only [wb_law_c5, ↓pVar, ↓pGet, ↓pC, ↓pOp, ↓pUn, ↓pCB, ↓pNil, ↓pCons, ↓pTest, ↓pBl, ↓pAndT, ↓pOrT, ↓pNotT, ↓pAndV, ↓pOrV, ↓pNotV, ↓pIfE, ↓pTup, ↓pLst, ↓pLstO, ↓pCall, ↓pMeth, ↓pFld, ↓pProp, ↓pMake, ↓pCv, ↓pSl, ↓pNo, ↓pSome, ↓pIntK, ↓pN, ↓pT, ↓pGC, ↓pGN, ↓pIf, ↓pRet, ↓pRetN, ↓pDrop, ↓pAsg, ↓pNx, ↓pBrk, ↓pCnt, ↓pNever, ↓pSub, ↓pAug, ↓pPar, ↓pParK, ↓pBM, ↓pFor, ↓pLc, ↓pLcO, ↓pYes, ↓piSeq, ↓piStr, ↓pStrK, ↓piRng1, ↓pRng1K, ↓piRng2, ↓pRng2K, ↓piEnum, ↓pEnumK, ↓piZip, ↓pZipL, ↓pZipT, ↓pFz, ↓pLenSet, ↓pIsT, ↓rIx_lst, ↓rIx_tup, ↓rIx_ref, ↓rIx_str, ↓rLen_str, ↓rLen_lst, ↓rLen_tup, ↓rLen_ref, ↓rIs_p, ↓rInt_int, ↓rInt_bl, ↓rStr_int, ↓rList_p, ↓rListO_p, ↓rTup_p, ↓rAdd_int, ↓rAdd_str, ↓rAdd_tup, ↓rAdd_lst, ↓rIntD_p, ↓rInt0_p, ↓rEq_int, ↓rEq_str, ↓rEq_bl, ↓rEq_lst, ↓rEq_tup, ↓rIsN_non, ↓rIsN_bl, ↓rIsN_int, ↓rIsN_str, ↓rIsN_tup, ↓rIsN_lst, ↓rNeg_p, ↓rSl_str, ↓rSl_tup, ↓rSl_lst, ↓rSl_scr, ↓rRep_p, ↓pOptK, ↓pChain, ↓pIfT, ↓pCallK, ↓pDzip, ↓pDzipK, ↓pDzipO, ↓pDzipKO, ↓rIsB_bl, ↓rDix_str, ↓rDix_int, ↓rIn_tup, ↓rIn_lst, ↓rEq_ns, ↓rEq_sn, ↓rRepT_p, ↓rAll_f, ↓rAll_t, ↓wSeq_p, ↓seqE_nx, ↓reduceIte, at_0, at_1, at_2, at_3, cut_1, cut_2, dl_0_0, dl_0_1, dl_0_2, dl_0_3, dl_0_4, dl_0_5, dl_1_0, dl_1_1, dl_1_2, dl_1_3, dl_1_4, dl_1_5, dl_2_0, dl_2_1, dl_2_2, dl_2_3, dl_2_4, dl_2_5, dl_3_0, dl_3_1, dl_3_2, dl_3_3, dl_3_4, dl_3_5, dl_4_0, dl_4_1, dl_4_2, dl_4_3, dl_4_4, dl_4_5, dn_1_0, dn_2_0, dn_2_1, dn_3_0, dn_3_1, dn_3_2, dn_4_0, dn_4_1, dn_4_2, dn_4_3, seqE_rt, seqE_bk, seqE_ct, seqE_ex, wipeD, frz_lst, frz_tup, at1_0, at2_0, at2_1, at3_0, at3_1, at3_2, at4_0, at4_1, at4_2, at4_3, at5_0, at5_1, at5_2, at5_3, at5_4, seqOf_put, seqOf_lst, seqOf_tup, insK_same, tyN_non, tyN_bl, tyN_int, tyN_str, tyN_tup, tyN_lst, tyN_dct, List.getElem?_cons_zero, List.getElem?_cons_succ, List.set_cons_zero, List.set_cons_succ, List.length_cons, List.length_nil, isB_NoneType_bool, isB_NoneType_int, isB_NoneType_str, isB_NoneType_tuple, isB_NoneType_list, isB_NoneType_dict, isB_bool_bool, isB_bool_int, isB_bool_str, isB_bool_tuple, isB_bool_list, isB_bool_dict, isB_int_bool, isB_int_int, isB_int_str, isB_int_tuple, isB_int_list, isB_int_dict, isB_str_bool, isB_str_int, isB_str_str, isB_str_tuple, isB_str_list, isB_str_dict, isB_tuple_bool, isB_tuple_int, isB_tuple_str, isB_tuple_tuple, isB_tuple_list, isB_tuple_dict, isB_list_bool, isB_list_int, isB_list_str, isB_list_tuple, isB_list_list, isB_list_dict, isB_dict_bool, isB_dict_int, isB_dict_str, isB_dict_tuple, isB_dict_list, isB_dict_dict, isC_bool, isC_int, isC_str, isC_tuple, isC_list, isC_dict, isA_list_tuple, isQ_NoneType, isQ_bool, isQ_int, isQ_str, isQ_tuple, isQ_list, isQ_dict, true_and, and_true, Bool.not_true, Bool.not_false, Bool.false_eq_true, Bool.true_xor, Bool.false_xor]
  refine ⟨fs, ss, c, m, s, vs, rfl, gr.f, gr.s, gr.o, hc.mono (by decide), hr, ?_⟩
  rw [mt_mono hc (by decide : 5 ≤ 8)]
  simp only [wb_law_c6, ↓pVar, ↓pGet, ↓pC, ↓pOp, ↓pUn, ↓pCB, ↓pNil, ↓pCons, ↓pTest, ↓pBl, ↓pAndT, ↓pOrT, ↓pNotT, ↓pAndV, ↓pOrV, ↓pNotV, ↓pIfE, ↓pTup, ↓pLst, ↓pLstO, ↓pCall, ↓pMeth, ↓pFld, ↓pProp, ↓pMake, ↓pCv, ↓pSl, ↓pNo, ↓pSome, ↓pIntK, ↓pN, ↓pT, ↓pGC, ↓pGN, ↓pIf, ↓pRet, ↓pRetN, ↓pDrop, ↓pAsg, ↓pNx, ↓pBrk, ↓pCnt, ↓pNever, ↓pSub, ↓pAug, ↓pPar, ↓pParK, ↓pBM, ↓pFor, ↓pLc, ↓pLcO, ↓pYes, ↓piSeq, ↓piStr, ↓pStrK, ↓piRng1, ↓pRng1K, ↓piRng2, ↓pRng2K, ↓piEnum, ↓pEnumK, ↓piZip, ↓pZipL, ↓pZipT, ↓pFz, ↓pLenSet, ↓pIsT, ↓rIx_lst, ↓rIx_tup, ↓rIx_ref, ↓rIx_str, ↓rLen_str, ↓rLen_lst, ↓rLen_tup, ↓rLen_ref, ↓rIs_p, ↓rInt_int, ↓rInt_bl, ↓rStr_int, ↓rList_p, ↓rListO_p, ↓rTup_p, ↓rAdd_int, ↓rAdd_str, ↓rAdd_tup, ↓rAdd_lst, ↓rIntD_p, ↓rInt0_p, ↓rEq_int, ↓rEq_str, ↓rEq_bl, ↓rEq_lst, ↓rEq_tup, ↓rIsN_non, ↓rIsN_bl, ↓rIsN_int, ↓rIsN_str, ↓rIsN_tup, ↓rIsN_lst, ↓rNeg_p, ↓rSl_str, ↓rSl_tup, ↓rSl_lst, ↓rSl_scr, ↓rRep_p, ↓pOptK, ↓pChain, ↓pIfT, ↓pCallK, ↓pDzip, ↓pDzipK, ↓pDzipO, ↓pDzipKO, ↓rIsB_bl, ↓rDix_str, ↓rDix_int, ↓rIn_tup, ↓rIn_lst, ↓rEq_ns, ↓rEq_sn, ↓rRepT_p, ↓rAll_f, ↓rAll_t, ↓wSeq_p, ↓seqE_nx, ↓reduceIte, at_0, at_1, at_2, at_3, cut_1, cut_2, dl_0_0, dl_0_1, dl_0_2, dl_0_3, dl_0_4, dl_0_5, dl_1_0, dl_1_1, dl_1_2, dl_1_3, dl_1_4, dl_1_5, dl_2_0, dl_2_1, dl_2_2, dl_2_3, dl_2_4, dl_2_5, dl_3_0, dl_3_1, dl_3_2, dl_3_3, dl_3_4, dl_3_5, dl_4_0, dl_4_1, dl_4_2, dl_4_3, dl_4_4, dl_4_5, dn_1_0, dn_2_0, dn_2_1, dn_3_0, dn_3_1, dn_3_2, dn_4_0, dn_4_1, dn_4_2, dn_4_3, seqE_rt, seqE_bk, seqE_ct, seqE_ex, wipeD, frz_lst, frz_tup, at1_0, at2_0, at2_1, at3_0, at3_1, at3_2, at4_0, at4_1, at4_2, at4_3, at5_0, at5_1, at5_2, at5_3, at5_4, seqOf_put, seqOf_lst, seqOf_tup, insK_same, tyN_non, tyN_bl, tyN_int, tyN_str, tyN_tup, tyN_lst, tyN_dct, List.getElem?_cons_zero, List.getElem?_cons_succ, List.set_cons_zero, List.set_cons_succ, List.length_cons, List.length_nil, isB_NoneType_bool, isB_NoneType_int, isB_NoneType_str, isB_NoneType_tuple, isB_NoneType_list, isB_NoneType_dict, isB_bool_bool, isB_bool_int, isB_bool_str, isB_bool_tuple, isB_bool_list, isB_bool_dict, isB_int_bool, isB_int_int, isB_int_str, isB_int_tuple, isB_int_list, isB_int_dict, isB_str_bool, isB_str_int, isB_str_str, isB_str_tuple, isB_str_list, isB_str_dict, isB_tuple_bool, isB_tuple_int, isB_tuple_str, isB_tuple_tuple, isB_tuple_list, isB_tuple_dict, isB_list_bool, isB_list_int, isB_list_str, isB_list_tuple, isB_list_list, isB_list_dict, isB_dict_bool, isB_dict_int, isB_dict_str, isB_dict_tuple, isB_dict_list, isB_dict_dict, isC_bool, isC_int, isC_str, isC_tuple, isC_list, isC_dict, isA_list_tuple, isQ_NoneType, isQ_bool, isQ_int, isQ_str, isQ_tuple, isQ_list, isQ_dict, true_and, and_true, Bool.not_true, Bool.not_false, Bool.false_eq_true, Bool.true_xor, Bool.false_xor]
  refine like_bl A ?_
  simp only [↓pVar, ↓pGet, ↓pC, ↓pOp, ↓pUn, ↓pCB, ↓pNil, ↓pCons, ↓pTest, ↓pBl, ↓pAndT, ↓pOrT, ↓pNotT, ↓pAndV, ↓pOrV, ↓pNotV, ↓pIfE, ↓pTup, ↓pLst, ↓pLstO, ↓pCall, ↓pMeth, ↓pFld, ↓pProp, ↓pMake, ↓pCv, ↓pSl, ↓pNo, ↓pSome, ↓pIntK, ↓pN, ↓pT, ↓pGC, ↓pGN, ↓pIf, ↓pRet, ↓pRetN, ↓pDrop, ↓pAsg, ↓pNx, ↓pBrk, ↓pCnt, ↓pNever, ↓pSub, ↓pAug, ↓pPar, ↓pParK, ↓pBM, ↓pFor, ↓pLc, ↓pLcO, ↓pYes, ↓piSeq, ↓piStr, ↓pStrK, ↓piRng1, ↓pRng1K, ↓piRng2, ↓pRng2K, ↓piEnum, ↓pEnumK, ↓piZip, ↓pZipL, ↓pZipT, ↓pFz, ↓pLenSet, ↓pIsT, ↓rIx_lst, ↓rIx_tup, ↓rIx_ref, ↓rIx_str, ↓rLen_str, ↓rLen_lst, ↓rLen_tup, ↓rLen_ref, ↓rIs_p, ↓rInt_int, ↓rInt_bl, ↓rStr_int, ↓rList_p, ↓rListO_p, ↓rTup_p, ↓rAdd_int, ↓rAdd_str, ↓rAdd_tup, ↓rAdd_lst, ↓rIntD_p, ↓rInt0_p, ↓rEq_int, ↓rEq_str, ↓rEq_bl, ↓rEq_lst, ↓rEq_tup, ↓rIsN_non, ↓rIsN_bl, ↓rIsN_int, ↓rIsN_str, ↓rIsN_tup, ↓rIsN_lst, ↓rNeg_p, ↓rSl_str, ↓rSl_tup, ↓rSl_lst, ↓rSl_scr, ↓rRep_p, ↓pOptK, ↓pChain, ↓pIfT, ↓pCallK, ↓pDzip, ↓pDzipK, ↓pDzipO, ↓pDzipKO, ↓rIsB_bl, ↓rDix_str, ↓rDix_int, ↓rIn_tup, ↓rIn_lst, ↓rEq_ns, ↓rEq_sn, ↓rRepT_p, ↓rAll_f, ↓rAll_t, ↓wSeq_p, ↓seqE_nx, ↓reduceIte, at_0, at_1, at_2, at_3, cut_1, cut_2, dl_0_0, dl_0_1, dl_0_2, dl_0_3, dl_0_4, dl_0_5, dl_1_0, dl_1_1, dl_1_2, dl_1_3, dl_1_4, dl_1_5, dl_2_0, dl_2_1, dl_2_2, dl_2_3, dl_2_4, dl_2_5, dl_3_0, dl_3_1, dl_3_2, dl_3_3, dl_3_4, dl_3_5, dl_4_0, dl_4_1, dl_4_2, dl_4_3, dl_4_4, dl_4_5, dn_1_0, dn_2_0, dn_2_1, dn_3_0, dn_3_1, dn_3_2, dn_4_0, dn_4_1, dn_4_2, dn_4_3, seqE_rt, seqE_bk, seqE_ct, seqE_ex, wipeD, frz_lst, frz_tup, at1_0, at2_0, at2_1, at3_0, at3_1, at3_2, at4_0, at4_1, at4_2, at4_3, at5_0, at5_1, at5_2, at5_3, at5_4, seqOf_put, seqOf_lst, seqOf_tup, insK_same, tyN_non, tyN_bl, tyN_int, tyN_str, tyN_tup, tyN_lst, tyN_dct, List.getElem?_cons_zero, List.getElem?_cons_succ, List.set_cons_zero, List.set_cons_succ, List.length_cons, List.length_nil, isB_NoneType_bool, isB_NoneType_int, isB_NoneType_str, isB_NoneType_tuple, isB_NoneType_list, isB_NoneType_dict, isB_bool_bool, isB_bool_int, isB_bool_str, isB_bool_tuple, isB_bool_list, isB_bool_dict, isB_int_bool, isB_int_int, isB_int_str, isB_int_tuple, isB_int_list, isB_int_dict, isB_str_bool, isB_str_int, isB_str_str, isB_str_tuple, isB_str_list, isB_str_dict, isB_tuple_bool, isB_tuple_int, isB_tuple_str, isB_tuple_tuple, isB_tuple_list, isB_tuple_dict, isB_list_bool, isB_list_int, isB_list_str, isB_list_tuple, isB_list_list, isB_list_dict, isB_dict_bool, isB_dict_int, isB_dict_str, isB_dict_tuple, isB_dict_list, isB_dict_dict, isC_bool, isC_int, isC_str, isC_tuple, isC_list, isC_dict, isA_list_tuple, isQ_NoneType, isQ_bool, isQ_int, isQ_str, isQ_tuple, isQ_list, isQ_dict, true_and, and_true, Bool.not_true, Bool.not_false, Bool.false_eq_true, Bool.true_xor, Bool.false_xor]
  refine ⟨fs, ss, c, rfl, hc.mono (by decide), gr.f, gr.s, ?_⟩
  simp only [wb_law_c7, ↓pVar, ↓pGet, ↓pC, ↓pOp, ↓pUn, ↓pCB, ↓pNil, ↓pCons, ↓pTest, ↓pBl, ↓pAndT, ↓pOrT, ↓pNotT, ↓pAndV, ↓pOrV, ↓pNotV, ↓pIfE, ↓pTup, ↓pLst, ↓pLstO, ↓pCall, ↓pMeth, ↓pFld, ↓pProp, ↓pMake, ↓pCv, ↓pSl, ↓pNo, ↓pSome, ↓pIntK, ↓pN, ↓pT, ↓pGC, ↓pGN, ↓pIf, ↓pRet, ↓pRetN, ↓pDrop, ↓pAsg, ↓pNx, ↓pBrk, ↓pCnt, ↓pNever, ↓pSub, ↓pAug, ↓pPar, ↓pParK, ↓pBM, ↓pFor, ↓pLc, ↓pLcO, ↓pYes, ↓piSeq, ↓piStr, ↓pStrK, ↓piRng1, ↓pRng1K, ↓piRng2, ↓pRng2K, ↓piEnum, ↓pEnumK, ↓piZip, ↓pZipL, ↓pZipT, ↓pFz, ↓pLenSet, ↓pIsT, ↓rIx_lst, ↓rIx_tup, ↓rIx_ref, ↓rIx_str, ↓rLen_str, ↓rLen_lst, ↓rLen_tup, ↓rLen_ref, ↓rIs_p, ↓rInt_int, ↓rInt_bl, ↓rStr_int, ↓rList_p, ↓rListO_p, ↓rTup_p, ↓rAdd_int, ↓rAdd_str, ↓rAdd_tup, ↓rAdd_lst, ↓rIntD_p, ↓rInt0_p, ↓rEq_int, ↓rEq_str, ↓rEq_bl, ↓rEq_lst, ↓rEq_tup, ↓rIsN_non, ↓rIsN_bl, ↓rIsN_int, ↓rIsN_str, ↓rIsN_tup, ↓rIsN_lst, ↓rNeg_p, ↓rSl_str, ↓rSl_tup, ↓rSl_lst, ↓rSl_scr, ↓rRep_p, ↓pOptK, ↓pChain, ↓pIfT, ↓pCallK, ↓pDzip, ↓pDzipK, ↓pDzipO, ↓pDzipKO, ↓rIsB_bl, ↓rDix_str, ↓rDix_int, ↓rIn_tup, ↓rIn_lst, ↓rEq_ns, ↓rEq_sn, ↓rRepT_p, ↓rAll_f, ↓rAll_t, ↓wSeq_p, ↓seqE_nx, ↓reduceIte, at_0, at_1, at_2, at_3, cut_1, cut_2, dl_0_0, dl_0_1, dl_0_2, dl_0_3, dl_0_4, dl_0_5, dl_1_0, dl_1_1, dl_1_2, dl_1_3, dl_1_4, dl_1_5, dl_2_0, dl_2_1, dl_2_2, dl_2_3, dl_2_4, dl_2_5, dl_3_0, dl_3_1, dl_3_2, dl_3_3, dl_3_4, dl_3_5, dl_4_0, dl_4_1, dl_4_2, dl_4_3, dl_4_4, dl_4_5, dn_1_0, dn_2_0, dn_2_1, dn_3_0, dn_3_1, dn_3_2, dn_4_0, dn_4_1, dn_4_2, dn_4_3, seqE_rt, seqE_bk, seqE_ct, seqE_ex, wipeD, frz_lst, frz_tup, at1_0, at2_0, at2_1, at3_0, at3_1, at3_2, at4_0, at4_1, at4_2, at4_3, at5_0, at5_1, at5_2, at5_3, at5_4, seqOf_put, seqOf_lst, seqOf_tup, insK_same, tyN_non, tyN_bl, tyN_int, tyN_str, tyN_tup, tyN_lst, tyN_dct, List.getElem?_cons_zero, List.getElem?_cons_succ, List.set_cons_zero, List.set_cons_succ, List.length_cons, List.length_nil, isB_NoneType_bool, isB_NoneType_int, isB_NoneType_str, isB_NoneType_tuple, isB_NoneType_list, isB_NoneType_dict, isB_bool_bool, isB_bool_int, isB_bool_str, isB_bool_tuple, isB_bool_list, isB_bool_dict, isB_int_bool, isB_int_int, isB_int_str, isB_int_tuple, isB_int_list, isB_int_dict, isB_str_bool, isB_str_int, isB_str_str, isB_str_tuple, isB_str_list, isB_str_dict, isB_tuple_bool, isB_tuple_int, isB_tuple_str, isB_tuple_tuple, isB_tuple_list, isB_tuple_dict, isB_list_bool, isB_list_int, isB_list_str, isB_list_tuple, isB_list_list, isB_list_dict, isB_dict_bool, isB_dict_int, isB_dict_str, isB_dict_tuple, isB_dict_list, isB_dict_dict, isC_bool, isC_int, isC_str, isC_tuple, isC_list, isC_dict, isA_list_tuple, isQ_NoneType, isQ_bool, isQ_int, isQ_str, isQ_tuple, isQ_list, isQ_dict, true_and, and_true, Bool.not_true, Bool.not_false, Bool.false_eq_true, Bool.true_xor, Bool.false_xor, g_021]
  refine ⟨by omega, by omega, by omega, by omega, ?_⟩
  refine ⟨fs, ss, twi c, m, s, vs, rfl, gr.f, gr.s, gr.o, twi_ok hc, hr, ?_⟩
  rw [twi_mt hc]
  simp only [wb_law_c8, ↓pVar, ↓pGet, ↓pC, ↓pOp, ↓pUn, ↓pCB, ↓pNil, ↓pCons, ↓pTest, ↓pBl, ↓pAndT, ↓pOrT, ↓pNotT, ↓pAndV, ↓pOrV, ↓pNotV, ↓pIfE, ↓pTup, ↓pLst, ↓pLstO, ↓pCall, ↓pMeth, ↓pFld, ↓pProp, ↓pMake, ↓pCv, ↓pSl, ↓pNo, ↓pSome, ↓pIntK, ↓pN, ↓pT, ↓pGC, ↓pGN, ↓pIf, ↓pRet, ↓pRetN, ↓pDrop, ↓pAsg, ↓pNx, ↓pBrk, ↓pCnt, ↓pNever, ↓pSub, ↓pAug, ↓pPar, ↓pParK, ↓pBM, ↓pFor, ↓pLc, ↓pLcO, ↓pYes, ↓piSeq, ↓piStr, ↓pStrK, ↓piRng1, ↓pRng1K, ↓piRng2, ↓pRng2K, ↓piEnum, ↓pEnumK, ↓piZip, ↓pZipL, ↓pZipT, ↓pFz, ↓pLenSet, ↓pIsT, ↓rIx_lst, ↓rIx_tup, ↓rIx_ref, ↓rIx_str, ↓rLen_str, ↓rLen_lst, ↓rLen_tup, ↓rLen_ref, ↓rIs_p, ↓rInt_int, ↓rInt_bl, ↓rStr_int, ↓rList_p, ↓rListO_p, ↓rTup_p, ↓rAdd_int, ↓rAdd_str, ↓rAdd_tup, ↓rAdd_lst, ↓rIntD_p, ↓rInt0_p, ↓rEq_int, ↓rEq_str, ↓rEq_bl, ↓rEq_lst, ↓rEq_tup, ↓rIsN_non, ↓rIsN_bl, ↓rIsN_int, ↓rIsN_str, ↓rIsN_tup, ↓rIsN_lst, ↓rNeg_p, ↓rSl_str, ↓rSl_tup, ↓rSl_lst, ↓rSl_scr, ↓rRep_p, ↓pOptK, ↓pChain, ↓pIfT, ↓pCallK, ↓pDzip, ↓pDzipK, ↓pDzipO, ↓pDzipKO, ↓rIsB_bl, ↓rDix_str, ↓rDix_int, ↓rIn_tup, ↓rIn_lst, ↓rEq_ns, ↓rEq_sn, ↓rRepT_p, ↓rAll_f, ↓rAll_t, ↓wSeq_p, ↓seqE_nx, ↓reduceIte, at_0, at_1, at_2, at_3, cut_1, cut_2, dl_0_0, dl_0_1, dl_0_2, dl_0_3, dl_0_4, dl_0_5, dl_1_0, dl_1_1, dl_1_2, dl_1_3, dl_1_4, dl_1_5, dl_2_0, dl_2_1, dl_2_2, dl_2_3, dl_2_4, dl_2_5, dl_3_0, dl_3_1, dl_3_2, dl_3_3, dl_3_4, dl_3_5, dl_4_0, dl_4_1, dl_4_2, dl_4_3, dl_4_4, dl_4_5, dn_1_0, dn_2_0, dn_2_1, dn_3_0, dn_3_1, dn_3_2, dn_4_0, dn_4_1, dn_4_2, dn_4_3, seqE_rt, seqE_bk, seqE_ct, seqE_ex, wipeD, frz_lst, frz_tup, at1_0, at2_0, at2_1, at3_0, at3_1, at3_2, at4_0, at4_1, at4_2, at4_3, at5_0, at5_1, at5_2, at5_3, at5_4, seqOf_put, seqOf_lst, seqOf_tup, insK_same, tyN_non, tyN_bl, tyN_int, tyN_str, tyN_tup, tyN_lst, tyN_dct, List.getElem?_cons_zero, List.getElem?_cons_succ, List.set_cons_zero, List.set_cons_succ, List.length_cons, List.length_nil, isB_NoneType_bool, isB_NoneType_int, isB_NoneType_str, isB_NoneType_tuple, isB_NoneType_list, isB_NoneType_dict, isB_bool_bool, isB_bool_int, isB_bool_str, isB_bool_tuple, isB_bool_list, isB_bool_dict, isB_int_bool, isB_int_int, isB_int_str, isB_int_tuple, isB_int_list, isB_int_dict, isB_str_bool, isB_str_int, isB_str_str, isB_str_tuple, isB_str_list, isB_str_dict, isB_tuple_bool, isB_tuple_int, isB_tuple_str, isB_tuple_tuple, isB_tuple_list, isB_tuple_dict, isB_list_bool, isB_list_int, isB_list_str, isB_list_tuple, isB_list_list, isB_list_dict, isB_dict_bool, isB_dict_int, isB_dict_str, isB_dict_tuple, isB_dict_list, isB_dict_dict, isC_bool, isC_int, isC_str, isC_tuple, isC_list, isC_dict, isA_list_tuple, isQ_NoneType, isQ_bool, isQ_int, isQ_str, isQ_tuple, isQ_list, isQ_dict, true_and, and_true, Bool.not_true, Bool.not_false, Bool.false_eq_true, Bool.true_xor, Bool.false_xor]
  refine like_bl A ?_
  simp only [↓pVar, ↓pGet, ↓pC, ↓pOp, ↓pUn, ↓pCB, ↓pNil, ↓pCons, ↓pTest, ↓pBl, ↓pAndT, ↓pOrT, ↓pNotT, ↓pAndV, ↓pOrV, ↓pNotV, ↓pIfE, ↓pTup, ↓pLst, ↓pLstO, ↓pCall, ↓pMeth, ↓pFld, ↓pProp, ↓pMake, ↓pCv, ↓pSl, ↓pNo, ↓pSome, ↓pIntK, ↓pN, ↓pT, ↓pGC, ↓pGN, ↓pIf, ↓pRet, ↓pRetN, ↓pDrop, ↓pAsg, ↓pNx, ↓pBrk, ↓pCnt, ↓pNever, ↓pSub, ↓pAug, ↓pPar, ↓pParK, ↓pBM, ↓pFor, ↓pLc, ↓pLcO, ↓pYes, ↓piSeq, ↓piStr, ↓pStrK, ↓piRng1, ↓pRng1K, ↓piRng2, ↓pRng2K, ↓piEnum, ↓pEnumK, ↓piZip, ↓pZipL, ↓pZipT, ↓pFz, ↓pLenSet, ↓pIsT, ↓rIx_lst, ↓rIx_tup, ↓rIx_ref, ↓rIx_str, ↓rLen_str, ↓rLen_lst, ↓rLen_tup, ↓rLen_ref, ↓rIs_p, ↓rInt_int, ↓rInt_bl, ↓rStr_int, ↓rList_p, ↓rListO_p, ↓rTup_p, ↓rAdd_int, ↓rAdd_str, ↓rAdd_tup, ↓rAdd_lst, ↓rIntD_p, ↓rInt0_p, ↓rEq_int, ↓rEq_str, ↓rEq_bl, ↓rEq_lst, ↓rEq_tup, ↓rIsN_non, ↓rIsN_bl, ↓rIsN_int, ↓rIsN_str, ↓rIsN_tup, ↓rIsN_lst, ↓rNeg_p, ↓rSl_str, ↓rSl_tup, ↓rSl_lst, ↓rSl_scr, ↓rRep_p, ↓pOptK, ↓pChain, ↓pIfT, ↓pCallK, ↓pDzip, ↓pDzipK, ↓pDzipO, ↓pDzipKO, ↓rIsB_bl, ↓rDix_str, ↓rDix_int, ↓rIn_tup, ↓rIn_lst, ↓rEq_ns, ↓rEq_sn, ↓rRepT_p, ↓rAll_f, ↓rAll_t, ↓wSeq_p, ↓seqE_nx, ↓reduceIte, at_0, at_1, at_2, at_3, cut_1, cut_2, dl_0_0, dl_0_1, dl_0_2, dl_0_3, dl_0_4, dl_0_5, dl_1_0, dl_1_1, dl_1_2, dl_1_3, dl_1_4, dl_1_5, dl_2_0, dl_2_1, dl_2_2, dl_2_3, dl_2_4, dl_2_5, dl_3_0, dl_3_1, dl_3_2, dl_3_3, dl_3_4, dl_3_5, dl_4_0, dl_4_1, dl_4_2, dl_4_3, dl_4_4, dl_4_5, dn_1_0, dn_2_0, dn_2_1, dn_3_0, dn_3_1, dn_3_2, dn_4_0, dn_4_1, dn_4_2, dn_4_3, seqE_rt, seqE_bk, seqE_ct, seqE_ex, wipeD, frz_lst, frz_tup, at1_0, at2_0, at2_1, at3_0, at3_1, at3_2, at4_0, at4_1, at4_2, at4_3, at5_0, at5_1, at5_2, at5_3, at5_4, seqOf_put, seqOf_lst, seqOf_tup, insK_same, tyN_non, tyN_bl, tyN_int, tyN_str, tyN_tup, tyN_lst, tyN_dct, List.getElem?_cons_zero, List.getElem?_cons_succ, List.set_cons_zero, List.set_cons_succ, List.length_cons, List.length_nil, isB_NoneType_bool, isB_NoneType_int, isB_NoneType_str, isB_NoneType_tuple, isB_NoneType_list, isB_NoneType_dict, isB_bool_bool, isB_bool_int, isB_bool_str, isB_bool_tuple, isB_bool_list, isB_bool_dict, isB_int_bool, isB_int_int, isB_int_str, isB_int_tuple, isB_int_list, isB_int_dict, isB_str_bool, isB_str_int, isB_str_str, isB_str_tuple, isB_str_list, isB_str_dict, isB_tuple_bool, isB_tuple_int, isB_tuple_str, isB_tuple_tuple, isB_tuple_list, isB_tuple_dict, isB_list_bool, isB_list_int, isB_list_str, isB_list_tuple, isB_list_list, isB_list_dict, isB_dict_bool, isB_dict_int, isB_dict_str, isB_dict_tuple, isB_dict_list, isB_dict_dict, isC_bool, isC_int, isC_str, isC_tuple, isC_list, isC_dict, isA_list_tuple, isQ_NoneType, isQ_bool, isQ_int, isQ_str, isQ_tuple, isQ_list, isQ_dict, true_and, and_true, Bool.not_true, Bool.not_false, Bool.false_eq_true, Bool.true_xor, Bool.false_xor]
  exact q _ rfl N2 g2
theorem turn_c2 (A : Ad) {b : Addr} {fs ss ws : List Str} {nf ns m : Int} {s : Str} {vs : List D} {E : ED} {M N : Mem} {s0 x5 : Option D} (gr : GrOk nf ns fs ss ws) (hb : Bgd M b N) (hr : RowAt fs.length ss m (rowD m s vs))
    (q : ∀ r : SD, r.length = 10 → ∀ N', Bgd M b N' → E.nx (sl s0 b A fs ss ws r) N') {r0 : SD} (h0 : r0.length = 8) :
    wb_law_c2 A E (sl s0 b A fs ss ws (x5 :: some (rowD m s vs) :: r0)) N := by
  simp only [wb_law_c2, ↓pVar, ↓pGet, ↓pC, ↓pOp, ↓pUn, ↓pCB, ↓pNil, ↓pCons, ↓pTest, ↓pBl, ↓pAndT, ↓pOrT, ↓pNotT, ↓pAndV, ↓pOrV, ↓pNotV, ↓pIfE, ↓pTup, ↓pLst, ↓pLstO, ↓pCall, ↓pMeth, ↓pFld, ↓pProp, ↓pMake, ↓pCv, ↓pSl, ↓pNo, ↓pSome, ↓pIntK, ↓pN, ↓pT, ↓pGC, ↓pGN, ↓pIf, ↓pRet, ↓pRetN, ↓pDrop, ↓pAsg, ↓pNx, ↓pBrk, ↓pCnt, ↓pNever, ↓pSub, ↓pAug, ↓pPar, ↓pParK, ↓pBM, ↓pFor, ↓pLc, ↓pLcO, ↓pYes, ↓piSeq, ↓piStr, ↓pStrK, ↓piRng1, ↓pRng1K, ↓piRng2, ↓pRng2K, ↓piEnum, ↓pEnumK, ↓piZip, ↓pZipL, ↓pZipT, ↓pFz, ↓pLenSet, ↓pIsT, ↓rIx_lst, ↓rIx_tup, ↓rIx_ref, ↓rIx_str, ↓rLen_str, ↓rLen_lst, ↓rLen_tup, ↓rLen_ref, ↓rIs_p, ↓rInt_int, ↓rInt_bl, ↓rStr_int, ↓rList_p, ↓rListO_p, ↓rTup_p, ↓rAdd_int, ↓rAdd_str, ↓rAdd_tup, ↓rAdd_lst, ↓rIntD_p, ↓rInt0_p, ↓rEq_int, ↓rEq_str, ↓rEq_bl, ↓rEq_lst, ↓rEq_tup, ↓rIsN_non, ↓rIsN_bl, ↓rIsN_int, ↓rIsN_str, ↓rIsN_tup, ↓rIsN_lst, ↓rNeg_p, ↓rSl_str, ↓rSl_tup, ↓rSl_lst, ↓rSl_scr, ↓rRep_p, ↓pOptK, ↓pChain, ↓pIfT, ↓pCallK, ↓pDzip, ↓pDzipK, ↓pDzipO, ↓pDzipKO, ↓rIsB_bl, ↓rDix_str, ↓rDix_int, ↓rIn_tup, ↓rIn_lst, ↓rEq_ns, ↓rEq_sn, ↓rRepT_p, ↓rAll_f, ↓rAll_t, ↓wSeq_p, ↓seqE_nx, ↓reduceIte, at_0, at_1, at_2, at_3, cut_1, cut_2, dl_0_0, dl_0_1, dl_0_2, dl_0_3, dl_0_4, dl_0_5, dl_1_0, dl_1_1, dl_1_2, dl_1_3, dl_1_4, dl_1_5, dl_2_0, dl_2_1, dl_2_2, dl_2_3, dl_2_4, dl_2_5, dl_3_0, dl_3_1, dl_3_2, dl_3_3, dl_3_4, dl_3_5, dl_4_0, dl_4_1, dl_4_2, dl_4_3, dl_4_4, dl_4_5, dn_1_0, dn_2_0, dn_2_1, dn_3_0, dn_3_1, dn_3_2, dn_4_0, dn_4_1, dn_4_2, dn_4_3, seqE_rt, seqE_bk, seqE_ct, seqE_ex, wipeD, frz_lst, frz_tup, at1_0, at2_0, at2_1, at3_0, at3_1, at3_2, at4_0, at4_1, at4_2, at4_3, at5_0, at5_1, at5_2, at5_3, at5_4, seqOf_put, seqOf_lst, seqOf_tup, insK_same, tyN_non, tyN_bl, tyN_int, tyN_str, tyN_tup, tyN_lst, tyN_dct, List.getElem?_cons_zero, List.getElem?_cons_succ, List.set_cons_zero, List.set_cons_succ, List.length_cons, List.length_nil, isB_NoneType_bool, isB_NoneType_int, isB_NoneType_str, isB_NoneType_tuple, isB_NoneType_list, isB_NoneType_dict, isB_bool_bool, isB_bool_int, isB_bool_str, isB_bool_tuple, isB_bool_list, isB_bool_dict, isB_int_bool, isB_int_int, isB_int_str, isB_int_tuple, isB_int_list, isB_int_dict, isB_str_bool, isB_str_int, isB_str_str, isB_str_tuple, isB_str_list, isB_str_dict, isB_tuple_bool, isB_tuple_int, isB_tuple_str, isB_tuple_tuple, isB_tuple_list, isB_tuple_dict, isB_list_bool, isB_list_int, isB_list_str, isB_list_tuple, isB_list_list, isB_list_dict, isB_dict_bool, isB_dict_int, isB_dict_str, isB_dict_tuple, isB_dict_list, isB_dict_dict, isC_bool, isC_int, isC_str, isC_tuple, isC_list, isC_dict, isA_list_tuple, isQ_NoneType, isQ_bool, isQ_int, isQ_str, isQ_tuple, isQ_list, isQ_dict, true_and, and_true, Bool.not_true, Bool.not_false, Bool.false_eq_true, Bool.true_xor, Bool.false_xor]
  refine ⟨⟨by omega, by omega⟩, forR_ind (fun its ds N' => ∃ r : SD, r.length = 8 ∧ ds = sl s0 b A fs ss ws (x5 :: some (rowD m s vs) :: r) ∧ Bgd M b N') ?_ ?_ _ _ _ ⟨r0, h0, rfl, hb⟩⟩
  · rintro ds N' ⟨r, hl, rfl, hN⟩
    exact q _ (by simp [hl]) N' hN
  · rintro d its ds N' R hR ⟨r, hl, rfl, hN⟩
    rcases r with _ | ⟨x7, _ | ⟨x8, _ | ⟨x9, _ | ⟨x10, _ | ⟨x11, _ | ⟨x12, _ | ⟨x13, _ | ⟨x14, _ | ⟨z, r⟩⟩⟩⟩⟩⟩⟩⟩⟩ <;> try (simp only [List.length_cons, List.length_nil] at hl; omega)
    exact step_c3 A gr hN hr fun r2 h2 N2 hN2 => hR _ _ ⟨r2, h2, rfl, hN2⟩
def allC (f s : Str) : D := .tup [.str "and", .tup [.str "any"], .tup [.str "has", .str f], .tup [.str "from", .str s], .tup [.str "is", .str f, .str "x0"]]
theorem allC_ok {fs ss : List Str} {f s : Str} (hf : f ∈ fs) (hs : s ∈ ss) : CondD fs ss 8 (allC f s) :=
  ⟨_, _, rfl, .an (by simp) (by simp) fun x hx => by
    simp only [List.mem_cons, List.not_mem_nil, or_false] at hx
    rcases hx with rfl | rfl | rfl | rfl
    · exact ⟨_, _, rfl, .any⟩
    · exact ⟨_, _, rfl, .has hf⟩
    · exact ⟨_, _, rfl, .frm hs⟩
    · exact ⟨_, _, rfl, .is hf (by decide +kernel)⟩⟩
theorem allC_yes {f s : Str} {lf : Str → D} (h : lf f = .str "x0") : mt s lf 8 (allC f s) = true := by
  unfold allC
  rw [mt_an]
  simp only [List.all_cons, List.all_nil, mt_any, mt_has, mt_frm, mt_is, h, decide_true, Bool.and_true]
theorem allC_no {f s : Str} {lf : Str → D} (h : lf f = .non) : mt s lf 8 (allC f s) = false := by
  unfold allC
  rw [mt_an]
  simp only [List.all_cons, List.all_nil, mt_any, mt_has, h, Bool.and_false, Bool.false_and, Bool.true_and]
theorem law_c1 (A : Ad) {b : Addr} {fs ss ws : List Str} {nf ns : Int} {E : ED} {M N : Mem} {s0 : Option D} (gr : GrOk nf ns fs ss ws) (hb : Bgd M b N)
    (q : E.rt (.bl true) N) {r : SD} (hl : r.length = 10) : wb_law_c1 A E (sl s0 b A fs ss ws r) N := by
  have big := sizeLine_big
  have f5 := gr.f.hi
  rcases r with _ | ⟨x5, _ | ⟨x6, _ | ⟨x7, _ | ⟨x8, _ | ⟨x9, _ | ⟨x10, _ | ⟨x11, _ | ⟨x12, _ | ⟨x13, _ | ⟨x14, _ | ⟨z, r⟩⟩⟩⟩⟩⟩⟩⟩⟩⟩⟩ <;> try (simp only [List.length_cons, List.length_nil] at hl; omega)
  obtain ⟨f, fr, ef⟩ : ∃ f fr, fs = f :: fr := by
    cases h : fs with
    | nil => have := gr.f.lo; rw [h] at this; cases this
    | cons a r => exact ⟨a, r, rfl⟩
  obtain ⟨s, sr, es⟩ : ∃ s sr, ss = s :: sr := by
    cases h : ss with
    | nil => have := gr.s.lo; rw [h] at this; cases this
    | cons a r => exact ⟨a, r, rfl⟩
  have hf : f ∈ fs := by rw [ef]; exact List.mem_cons_self
  have hs : s ∈ ss := by rw [es]; exact List.mem_cons_self
  have af : atI (fs.map D.str) (0 : Int) = some (.str f) := by rw [ef]; exact at_0
  have as : atI (ss.map D.str) (0 : Int) = some (.str s) := by rw [es]; exact at_0
  simp only [sl, wb_law_c1, grD, ↓pVar, ↓pGet, ↓pC, ↓pOp, ↓pUn, ↓pCB, ↓pNil, ↓pCons, ↓pTest, ↓pBl, ↓pAndT, ↓pOrT, ↓pNotT, ↓pAndV, ↓pOrV, ↓pNotV, ↓pIfE, ↓pTup, ↓pLst, ↓pLstO, ↓pCall, ↓pMeth, ↓pFld, ↓pProp, ↓pMake, ↓pCv, ↓pSl, ↓pNo, ↓pSome, ↓pIntK, ↓pN, ↓pT, ↓pGC, ↓pGN, ↓pIf, ↓pRet, ↓pRetN, ↓pDrop, ↓pAsg, ↓pNx, ↓pBrk, ↓pCnt, ↓pNever, ↓pSub, ↓pAug, ↓pPar, ↓pParK, ↓pBM, ↓pFor, ↓pLc, ↓pLcO, ↓pYes, ↓piSeq, ↓piStr, ↓pStrK, ↓piRng1, ↓pRng1K, ↓piRng2, ↓pRng2K, ↓piEnum, ↓pEnumK, ↓piZip, ↓pZipL, ↓pZipT, ↓pFz, ↓pLenSet, ↓pIsT, ↓rIx_lst, ↓rIx_tup, ↓rIx_ref, ↓rIx_str, ↓rLen_str, ↓rLen_lst, ↓rLen_tup, ↓rLen_ref, ↓rIs_p, ↓rInt_int, ↓rInt_bl, ↓rStr_int, ↓rList_p, ↓rListO_p, ↓rTup_p, ↓rAdd_int, ↓rAdd_str, ↓rAdd_tup, ↓rAdd_lst, ↓rIntD_p, ↓rInt0_p, ↓rEq_int, ↓rEq_str, ↓rEq_bl, ↓rEq_lst, ↓rEq_tup, ↓rIsN_non, ↓rIsN_bl, ↓rIsN_int, ↓rIsN_str, ↓rIsN_tup, ↓rIsN_lst, ↓rNeg_p, ↓rSl_str, ↓rSl_tup, ↓rSl_lst, ↓rSl_scr, ↓rRep_p, ↓pOptK, ↓pChain, ↓pIfT, ↓pCallK, ↓pDzip, ↓pDzipK, ↓pDzipO, ↓pDzipKO, ↓rIsB_bl, ↓rDix_str, ↓rDix_int, ↓rIn_tup, ↓rIn_lst, ↓rEq_ns, ↓rEq_sn, ↓rRepT_p, ↓rAll_f, ↓rAll_t, ↓wSeq_p, ↓seqE_nx, ↓reduceIte, at_0, at_1, at_2, at_3, cut_1, cut_2, dl_0_0, dl_0_1, dl_0_2, dl_0_3, dl_0_4, dl_0_5, dl_1_0, dl_1_1, dl_1_2, dl_1_3, dl_1_4, dl_1_5, dl_2_0, dl_2_1, dl_2_2, dl_2_3, dl_2_4, dl_2_5, dl_3_0, dl_3_1, dl_3_2, dl_3_3, dl_3_4, dl_3_5, dl_4_0, dl_4_1, dl_4_2, dl_4_3, dl_4_4, dl_4_5, dn_1_0, dn_2_0, dn_2_1, dn_3_0, dn_3_1, dn_3_2, dn_4_0, dn_4_1, dn_4_2, dn_4_3, seqE_rt, seqE_bk, seqE_ct, seqE_ex, wipeD, frz_lst, frz_tup, at1_0, at2_0, at2_1, at3_0, at3_1, at3_2, at4_0, at4_1, at4_2, at4_3, at5_0, at5_1, at5_2, at5_3, at5_4, seqOf_put, seqOf_lst, seqOf_tup, insK_same, tyN_non, tyN_bl, tyN_int, tyN_str, tyN_tup, tyN_lst, tyN_dct, List.getElem?_cons_zero, List.getElem?_cons_succ, List.set_cons_zero, List.set_cons_succ, List.length_cons, List.length_nil, isB_NoneType_bool, isB_NoneType_int, isB_NoneType_str, isB_NoneType_tuple, isB_NoneType_list, isB_NoneType_dict, isB_bool_bool, isB_bool_int, isB_bool_str, isB_bool_tuple, isB_bool_list, isB_bool_dict, isB_int_bool, isB_int_int, isB_int_str, isB_int_tuple, isB_int_list, isB_int_dict, isB_str_bool, isB_str_int, isB_str_str, isB_str_tuple, isB_str_list, isB_str_dict, isB_tuple_bool, isB_tuple_int, isB_tuple_str, isB_tuple_tuple, isB_tuple_list, isB_tuple_dict, isB_list_bool, isB_list_int, isB_list_str, isB_list_tuple, isB_list_list, isB_list_dict, isB_dict_bool, isB_dict_int, isB_dict_str, isB_dict_tuple, isB_dict_list, isB_dict_dict, isC_bool, isC_int, isC_str, isC_tuple, isC_list, isC_dict, isA_list_tuple, isQ_NoneType, isQ_bool, isQ_int, isQ_str, isQ_tuple, isQ_list, isQ_dict, true_and, and_true, Bool.not_true, Bool.not_false, Bool.false_eq_true, Bool.true_xor, Bool.false_xor, af, as]
  refine ⟨by omega, by omega, by omega, by omega, by omega, ?_⟩
  refine lcR_mapL D.str (fun _ => .str "x0") (fun _ => True) (fun x acc R _ h => ?_) fs [] (fun _ _ => trivial) (by simp only [List.length_nil]; omega) ?_
  · simp only [↓pVar, ↓pGet, ↓pC, ↓pOp, ↓pUn, ↓pCB, ↓pNil, ↓pCons, ↓pTest, ↓pBl, ↓pAndT, ↓pOrT, ↓pNotT, ↓pAndV, ↓pOrV, ↓pNotV, ↓pIfE, ↓pTup, ↓pLst, ↓pLstO, ↓pCall, ↓pMeth, ↓pFld, ↓pProp, ↓pMake, ↓pCv, ↓pSl, ↓pNo, ↓pSome, ↓pIntK, ↓pN, ↓pT, ↓pGC, ↓pGN, ↓pIf, ↓pRet, ↓pRetN, ↓pDrop, ↓pAsg, ↓pNx, ↓pBrk, ↓pCnt, ↓pNever, ↓pSub, ↓pAug, ↓pPar, ↓pParK, ↓pBM, ↓pFor, ↓pLc, ↓pLcO, ↓pYes, ↓piSeq, ↓piStr, ↓pStrK, ↓piRng1, ↓pRng1K, ↓piRng2, ↓pRng2K, ↓piEnum, ↓pEnumK, ↓piZip, ↓pZipL, ↓pZipT, ↓pFz, ↓pLenSet, ↓pIsT, ↓rIx_lst, ↓rIx_tup, ↓rIx_ref, ↓rIx_str, ↓rLen_str, ↓rLen_lst, ↓rLen_tup, ↓rLen_ref, ↓rIs_p, ↓rInt_int, ↓rInt_bl, ↓rStr_int, ↓rList_p, ↓rListO_p, ↓rTup_p, ↓rAdd_int, ↓rAdd_str, ↓rAdd_tup, ↓rAdd_lst, ↓rIntD_p, ↓rInt0_p, ↓rEq_int, ↓rEq_str, ↓rEq_bl, ↓rEq_lst, ↓rEq_tup, ↓rIsN_non, ↓rIsN_bl, ↓rIsN_int, ↓rIsN_str, ↓rIsN_tup, ↓rIsN_lst, ↓rNeg_p, ↓rSl_str, ↓rSl_tup, ↓rSl_lst, ↓rSl_scr, ↓rRep_p, ↓pOptK, ↓pChain, ↓pIfT, ↓pCallK, ↓pDzip, ↓pDzipK, ↓pDzipO, ↓pDzipKO, ↓rIsB_bl, ↓rDix_str, ↓rDix_int, ↓rIn_tup, ↓rIn_lst, ↓rEq_ns, ↓rEq_sn, ↓rRepT_p, ↓rAll_f, ↓rAll_t, ↓wSeq_p, ↓seqE_nx, ↓reduceIte, at_0, at_1, at_2, at_3, cut_1, cut_2, dl_0_0, dl_0_1, dl_0_2, dl_0_3, dl_0_4, dl_0_5, dl_1_0, dl_1_1, dl_1_2, dl_1_3, dl_1_4, dl_1_5, dl_2_0, dl_2_1, dl_2_2, dl_2_3, dl_2_4, dl_2_5, dl_3_0, dl_3_1, dl_3_2, dl_3_3, dl_3_4, dl_3_5, dl_4_0, dl_4_1, dl_4_2, dl_4_3, dl_4_4, dl_4_5, dn_1_0, dn_2_0, dn_2_1, dn_3_0, dn_3_1, dn_3_2, dn_4_0, dn_4_1, dn_4_2, dn_4_3, seqE_rt, seqE_bk, seqE_ct, seqE_ex, wipeD, frz_lst, frz_tup, at1_0, at2_0, at2_1, at3_0, at3_1, at3_2, at4_0, at4_1, at4_2, at4_3, at5_0, at5_1, at5_2, at5_3, at5_4, seqOf_put, seqOf_lst, seqOf_tup, insK_same, tyN_non, tyN_bl, tyN_int, tyN_str, tyN_tup, tyN_lst, tyN_dct, List.getElem?_cons_zero, List.getElem?_cons_succ, List.set_cons_zero, List.set_cons_succ, List.length_cons, List.length_nil, isB_NoneType_bool, isB_NoneType_int, isB_NoneType_str, isB_NoneType_tuple, isB_NoneType_list, isB_NoneType_dict, isB_bool_bool, isB_bool_int, isB_bool_str, isB_bool_tuple, isB_bool_list, isB_bool_dict, isB_int_bool, isB_int_int, isB_int_str, isB_int_tuple, isB_int_list, isB_int_dict, isB_str_bool, isB_str_int, isB_str_str, isB_str_tuple, isB_str_list, isB_str_dict, isB_tuple_bool, isB_tuple_int, isB_tuple_str, isB_tuple_tuple, isB_tuple_list, isB_tuple_dict, isB_list_bool, isB_list_int, isB_list_str, isB_list_tuple, isB_list_list, isB_list_dict, isB_dict_bool, isB_dict_int, isB_dict_str, isB_dict_tuple, isB_dict_list, isB_dict_dict, isC_bool, isC_int, isC_str, isC_tuple, isC_list, isC_dict, isA_list_tuple, isQ_NoneType, isQ_bool, isQ_int, isQ_str, isQ_tuple, isQ_list, isQ_dict, true_and, and_true, Bool.not_true, Bool.not_false, Bool.false_eq_true, Bool.true_xor, Bool.false_xor]
    exact h
  simp only [List.nil_append, wb_law_c9, ↓pVar, ↓pGet, ↓pC, ↓pOp, ↓pUn, ↓pCB, ↓pNil, ↓pCons, ↓pTest, ↓pBl, ↓pAndT, ↓pOrT, ↓pNotT, ↓pAndV, ↓pOrV, ↓pNotV, ↓pIfE, ↓pTup, ↓pLst, ↓pLstO, ↓pCall, ↓pMeth, ↓pFld, ↓pProp, ↓pMake, ↓pCv, ↓pSl, ↓pNo, ↓pSome, ↓pIntK, ↓pN, ↓pT, ↓pGC, ↓pGN, ↓pIf, ↓pRet, ↓pRetN, ↓pDrop, ↓pAsg, ↓pNx, ↓pBrk, ↓pCnt, ↓pNever, ↓pSub, ↓pAug, ↓pPar, ↓pParK, ↓pBM, ↓pFor, ↓pLc, ↓pLcO, ↓pYes, ↓piSeq, ↓piStr, ↓pStrK, ↓piRng1, ↓pRng1K, ↓piRng2, ↓pRng2K, ↓piEnum, ↓pEnumK, ↓piZip, ↓pZipL, ↓pZipT, ↓pFz, ↓pLenSet, ↓pIsT, ↓rIx_lst, ↓rIx_tup, ↓rIx_ref, ↓rIx_str, ↓rLen_str, ↓rLen_lst, ↓rLen_tup, ↓rLen_ref, ↓rIs_p, ↓rInt_int, ↓rInt_bl, ↓rStr_int, ↓rList_p, ↓rListO_p, ↓rTup_p, ↓rAdd_int, ↓rAdd_str, ↓rAdd_tup, ↓rAdd_lst, ↓rIntD_p, ↓rInt0_p, ↓rEq_int, ↓rEq_str, ↓rEq_bl, ↓rEq_lst, ↓rEq_tup, ↓rIsN_non, ↓rIsN_bl, ↓rIsN_int, ↓rIsN_str, ↓rIsN_tup, ↓rIsN_lst, ↓rNeg_p, ↓rSl_str, ↓rSl_tup, ↓rSl_lst, ↓rSl_scr, ↓rRep_p, ↓pOptK, ↓pChain, ↓pIfT, ↓pCallK, ↓pDzip, ↓pDzipK, ↓pDzipO, ↓pDzipKO, ↓rIsB_bl, ↓rDix_str, ↓rDix_int, ↓rIn_tup, ↓rIn_lst, ↓rEq_ns, ↓rEq_sn, ↓rRepT_p, ↓rAll_f, ↓rAll_t, ↓wSeq_p, ↓seqE_nx, ↓reduceIte, at_0, at_1, at_2, at_3, cut_1, cut_2, dl_0_0, dl_0_1, dl_0_2, dl_0_3, dl_0_4, dl_0_5, dl_1_0, dl_1_1, dl_1_2, dl_1_3, dl_1_4, dl_1_5, dl_2_0, dl_2_1, dl_2_2, dl_2_3, dl_2_4, dl_2_5, dl_3_0, dl_3_1, dl_3_2, dl_3_3, dl_3_4, dl_3_5, dl_4_0, dl_4_1, dl_4_2, dl_4_3, dl_4_4, dl_4_5, dn_1_0, dn_2_0, dn_2_1, dn_3_0, dn_3_1, dn_3_2, dn_4_0, dn_4_1, dn_4_2, dn_4_3, seqE_rt, seqE_bk, seqE_ct, seqE_ex, wipeD, frz_lst, frz_tup, at1_0, at2_0, at2_1, at3_0, at3_1, at3_2, at4_0, at4_1, at4_2, at4_3, at5_0, at5_1, at5_2, at5_3, at5_4, seqOf_put, seqOf_lst, seqOf_tup, insK_same, tyN_non, tyN_bl, tyN_int, tyN_str, tyN_tup, tyN_lst, tyN_dct, List.getElem?_cons_zero, List.getElem?_cons_succ, List.set_cons_zero, List.set_cons_succ, List.length_cons, List.length_nil, isB_NoneType_bool, isB_NoneType_int, isB_NoneType_str, isB_NoneType_tuple, isB_NoneType_list, isB_NoneType_dict, isB_bool_bool, isB_bool_int, isB_bool_str, isB_bool_tuple, isB_bool_list, isB_bool_dict, isB_int_bool, isB_int_int, isB_int_str, isB_int_tuple, isB_int_list, isB_int_dict, isB_str_bool, isB_str_int, isB_str_str, isB_str_tuple, isB_str_list, isB_str_dict, isB_tuple_bool, isB_tuple_int, isB_tuple_str, isB_tuple_tuple, isB_tuple_list, isB_tuple_dict, isB_list_bool, isB_list_int, isB_list_str, isB_list_tuple, isB_list_list, isB_list_dict, isB_dict_bool, isB_dict_int, isB_dict_str, isB_dict_tuple, isB_dict_list, isB_dict_dict, isC_bool, isC_int, isC_str, isC_tuple, isC_list, isC_dict, isA_list_tuple, isQ_NoneType, isQ_bool, isQ_int, isQ_str, isQ_tuple, isQ_list, isQ_dict, true_and, and_true, Bool.not_true, Bool.not_false, Bool.false_eq_true, Bool.true_xor, Bool.false_xor]
  have r1 : RowAt fs.length ss 1 (rowD 1 s (fs.map fun _ => .str "x0")) := ⟨s, _, rfl, hs, List.length_map _, fun v hv => by
    obtain ⟨_, _, rfl⟩ := List.mem_map.mp hv
    exact .inr ⟨_, rfl, by decide +kernel⟩⟩
  have h1 : fldOf fs (fs.map fun _ => D.str "x0") f = .str "x0" := by
    have := (val_fld (vs := fs.map fun _ => D.str "x0") hf (List.length_map _)).2
    obtain ⟨_, _, e⟩ := List.mem_map.mp this
    exact e.symm
  refine ⟨by omega, fs, ss, allC f s, 1, s, fs.map fun _ => .str "x0", rfl, gr.f, gr.s, gr.o, allC_ok hf hs, r1, ?_⟩
  rw [allC_yes h1]
  have ev : (List.replicate ((List.map D.str fs).length : Int).toNat [D.non]).flatten = List.replicate fs.length D.non := by
    rw [List.length_map, Int.toNat_natCast, List.flatten_replicate_singleton]
  simp only [↓pVar, ↓pGet, ↓pC, ↓pOp, ↓pUn, ↓pCB, ↓pNil, ↓pCons, ↓pTest, ↓pBl, ↓pAndT, ↓pOrT, ↓pNotT, ↓pAndV, ↓pOrV, ↓pNotV, ↓pIfE, ↓pTup, ↓pLst, ↓pLstO, ↓pCall, ↓pMeth, ↓pFld, ↓pProp, ↓pMake, ↓pCv, ↓pSl, ↓pNo, ↓pSome, ↓pIntK, ↓pN, ↓pT, ↓pGC, ↓pGN, ↓pIf, ↓pRet, ↓pRetN, ↓pDrop, ↓pAsg, ↓pNx, ↓pBrk, ↓pCnt, ↓pNever, ↓pSub, ↓pAug, ↓pPar, ↓pParK, ↓pBM, ↓pFor, ↓pLc, ↓pLcO, ↓pYes, ↓piSeq, ↓piStr, ↓pStrK, ↓piRng1, ↓pRng1K, ↓piRng2, ↓pRng2K, ↓piEnum, ↓pEnumK, ↓piZip, ↓pZipL, ↓pZipT, ↓pFz, ↓pLenSet, ↓pIsT, ↓rIx_lst, ↓rIx_tup, ↓rIx_ref, ↓rIx_str, ↓rLen_str, ↓rLen_lst, ↓rLen_tup, ↓rLen_ref, ↓rIs_p, ↓rInt_int, ↓rInt_bl, ↓rStr_int, ↓rList_p, ↓rListO_p, ↓rTup_p, ↓rAdd_int, ↓rAdd_str, ↓rAdd_tup, ↓rAdd_lst, ↓rIntD_p, ↓rInt0_p, ↓rEq_int, ↓rEq_str, ↓rEq_bl, ↓rEq_lst, ↓rEq_tup, ↓rIsN_non, ↓rIsN_bl, ↓rIsN_int, ↓rIsN_str, ↓rIsN_tup, ↓rIsN_lst, ↓rNeg_p, ↓rSl_str, ↓rSl_tup, ↓rSl_lst, ↓rSl_scr, ↓rRep_p, ↓pOptK, ↓pChain, ↓pIfT, ↓pCallK, ↓pDzip, ↓pDzipK, ↓pDzipO, ↓pDzipKO, ↓rIsB_bl, ↓rDix_str, ↓rDix_int, ↓rIn_tup, ↓rIn_lst, ↓rEq_ns, ↓rEq_sn, ↓rRepT_p, ↓rAll_f, ↓rAll_t, ↓wSeq_p, ↓seqE_nx, ↓reduceIte, at_0, at_1, at_2, at_3, cut_1, cut_2, dl_0_0, dl_0_1, dl_0_2, dl_0_3, dl_0_4, dl_0_5, dl_1_0, dl_1_1, dl_1_2, dl_1_3, dl_1_4, dl_1_5, dl_2_0, dl_2_1, dl_2_2, dl_2_3, dl_2_4, dl_2_5, dl_3_0, dl_3_1, dl_3_2, dl_3_3, dl_3_4, dl_3_5, dl_4_0, dl_4_1, dl_4_2, dl_4_3, dl_4_4, dl_4_5, dn_1_0, dn_2_0, dn_2_1, dn_3_0, dn_3_1, dn_3_2, dn_4_0, dn_4_1, dn_4_2, dn_4_3, seqE_rt, seqE_bk, seqE_ct, seqE_ex, wipeD, frz_lst, frz_tup, at1_0, at2_0, at2_1, at3_0, at3_1, at3_2, at4_0, at4_1, at4_2, at4_3, at5_0, at5_1, at5_2, at5_3, at5_4, seqOf_put, seqOf_lst, seqOf_tup, insK_same, tyN_non, tyN_bl, tyN_int, tyN_str, tyN_tup, tyN_lst, tyN_dct, List.getElem?_cons_zero, List.getElem?_cons_succ, List.set_cons_zero, List.set_cons_succ, List.length_cons, List.length_nil, isB_NoneType_bool, isB_NoneType_int, isB_NoneType_str, isB_NoneType_tuple, isB_NoneType_list, isB_NoneType_dict, isB_bool_bool, isB_bool_int, isB_bool_str, isB_bool_tuple, isB_bool_list, isB_bool_dict, isB_int_bool, isB_int_int, isB_int_str, isB_int_tuple, isB_int_list, isB_int_dict, isB_str_bool, isB_str_int, isB_str_str, isB_str_tuple, isB_str_list, isB_str_dict, isB_tuple_bool, isB_tuple_int, isB_tuple_str, isB_tuple_tuple, isB_tuple_list, isB_tuple_dict, isB_list_bool, isB_list_int, isB_list_str, isB_list_tuple, isB_list_list, isB_list_dict, isB_dict_bool, isB_dict_int, isB_dict_str, isB_dict_tuple, isB_dict_list, isB_dict_dict, isC_bool, isC_int, isC_str, isC_tuple, isC_list, isC_dict, isA_list_tuple, isQ_NoneType, isQ_bool, isQ_int, isQ_str, isQ_tuple, isQ_list, isQ_dict, true_and, and_true, Bool.not_true, Bool.not_false, Bool.false_eq_true, Bool.true_xor, Bool.false_xor, af, as, ev]
  have r2 : RowAt fs.length ss 1 (rowD 1 s (List.replicate fs.length .non)) := ⟨s, _, rfl, hs, List.length_replicate, fun v hv => .inl (List.eq_of_mem_replicate hv)⟩
  have h2 : fldOf fs (List.replicate fs.length D.non) f = .non := List.eq_of_mem_replicate (val_fld (vs := List.replicate fs.length D.non) hf List.length_replicate).2
  refine ⟨by omega, by simp, by rw [List.length_map]; have := gr.f.lo; omega, by rw [List.length_map]; omega, by omega, by omega, fs, ss, allC f s, 1, s, List.replicate fs.length .non, rfl, gr.f, gr.s, gr.o, allC_ok hf hs, r2, ?_⟩
  rw [allC_no h2]
  simp only [↓pVar, ↓pGet, ↓pC, ↓pOp, ↓pUn, ↓pCB, ↓pNil, ↓pCons, ↓pTest, ↓pBl, ↓pAndT, ↓pOrT, ↓pNotT, ↓pAndV, ↓pOrV, ↓pNotV, ↓pIfE, ↓pTup, ↓pLst, ↓pLstO, ↓pCall, ↓pMeth, ↓pFld, ↓pProp, ↓pMake, ↓pCv, ↓pSl, ↓pNo, ↓pSome, ↓pIntK, ↓pN, ↓pT, ↓pGC, ↓pGN, ↓pIf, ↓pRet, ↓pRetN, ↓pDrop, ↓pAsg, ↓pNx, ↓pBrk, ↓pCnt, ↓pNever, ↓pSub, ↓pAug, ↓pPar, ↓pParK, ↓pBM, ↓pFor, ↓pLc, ↓pLcO, ↓pYes, ↓piSeq, ↓piStr, ↓pStrK, ↓piRng1, ↓pRng1K, ↓piRng2, ↓pRng2K, ↓piEnum, ↓pEnumK, ↓piZip, ↓pZipL, ↓pZipT, ↓pFz, ↓pLenSet, ↓pIsT, ↓rIx_lst, ↓rIx_tup, ↓rIx_ref, ↓rIx_str, ↓rLen_str, ↓rLen_lst, ↓rLen_tup, ↓rLen_ref, ↓rIs_p, ↓rInt_int, ↓rInt_bl, ↓rStr_int, ↓rList_p, ↓rListO_p, ↓rTup_p, ↓rAdd_int, ↓rAdd_str, ↓rAdd_tup, ↓rAdd_lst, ↓rIntD_p, ↓rInt0_p, ↓rEq_int, ↓rEq_str, ↓rEq_bl, ↓rEq_lst, ↓rEq_tup, ↓rIsN_non, ↓rIsN_bl, ↓rIsN_int, ↓rIsN_str, ↓rIsN_tup, ↓rIsN_lst, ↓rNeg_p, ↓rSl_str, ↓rSl_tup, ↓rSl_lst, ↓rSl_scr, ↓rRep_p, ↓pOptK, ↓pChain, ↓pIfT, ↓pCallK, ↓pDzip, ↓pDzipK, ↓pDzipO, ↓pDzipKO, ↓rIsB_bl, ↓rDix_str, ↓rDix_int, ↓rIn_tup, ↓rIn_lst, ↓rEq_ns, ↓rEq_sn, ↓rRepT_p, ↓rAll_f, ↓rAll_t, ↓wSeq_p, ↓seqE_nx, ↓reduceIte, at_0, at_1, at_2, at_3, cut_1, cut_2, dl_0_0, dl_0_1, dl_0_2, dl_0_3, dl_0_4, dl_0_5, dl_1_0, dl_1_1, dl_1_2, dl_1_3, dl_1_4, dl_1_5, dl_2_0, dl_2_1, dl_2_2, dl_2_3, dl_2_4, dl_2_5, dl_3_0, dl_3_1, dl_3_2, dl_3_3, dl_3_4, dl_3_5, dl_4_0, dl_4_1, dl_4_2, dl_4_3, dl_4_4, dl_4_5, dn_1_0, dn_2_0, dn_2_1, dn_3_0, dn_3_1, dn_3_2, dn_4_0, dn_4_1, dn_4_2, dn_4_3, seqE_rt, seqE_bk, seqE_ct, seqE_ex, wipeD, frz_lst, frz_tup, at1_0, at2_0, at2_1, at3_0, at3_1, at3_2, at4_0, at4_1, at4_2, at4_3, at5_0, at5_1, at5_2, at5_3, at5_4, seqOf_put, seqOf_lst, seqOf_tup, insK_same, tyN_non, tyN_bl, tyN_int, tyN_str, tyN_tup, tyN_lst, tyN_dct, List.getElem?_cons_zero, List.getElem?_cons_succ, List.set_cons_zero, List.set_cons_succ, List.length_cons, List.length_nil, isB_NoneType_bool, isB_NoneType_int, isB_NoneType_str, isB_NoneType_tuple, isB_NoneType_list, isB_NoneType_dict, isB_bool_bool, isB_bool_int, isB_bool_str, isB_bool_tuple, isB_bool_list, isB_bool_dict, isB_int_bool, isB_int_int, isB_int_str, isB_int_tuple, isB_int_list, isB_int_dict, isB_str_bool, isB_str_int, isB_str_str, isB_str_tuple, isB_str_list, isB_str_dict, isB_tuple_bool, isB_tuple_int, isB_tuple_str, isB_tuple_tuple, isB_tuple_list, isB_tuple_dict, isB_list_bool, isB_list_int, isB_list_str, isB_list_tuple, isB_list_list, isB_list_dict, isB_dict_bool, isB_dict_int, isB_dict_str, isB_dict_tuple, isB_dict_list, isB_dict_dict, isC_bool, isC_int, isC_str, isC_tuple, isC_list, isC_dict, isA_list_tuple, isQ_NoneType, isQ_bool, isQ_int, isQ_str, isQ_tuple, isQ_list, isQ_dict, true_and, and_true, Bool.not_true, Bool.not_false, Bool.false_eq_true, Bool.true_xor, Bool.false_xor]
  exact q
theorem rd_law (A : Ad) : ∀ ds M Q Xc, sp_law A ds M Q Xc → ds.length = P_law.length ∧ RD (wb_law A) Q Xc (startD N_law ds) M := by
  rintro _ M Q Xc ⟨ns, rfl, q⟩
  refine ⟨rfl, ?_⟩
  rw [st_law]
  simp only [RD, wb_law, ↓pVar, ↓pGet, ↓pC, ↓pOp, ↓pUn, ↓pCB, ↓pNil, ↓pCons, ↓pTest, ↓pBl, ↓pAndT, ↓pOrT, ↓pNotT, ↓pAndV, ↓pOrV, ↓pNotV, ↓pIfE, ↓pTup, ↓pLst, ↓pLstO, ↓pCall, ↓pMeth, ↓pFld, ↓pProp, ↓pMake, ↓pCv, ↓pSl, ↓pNo, ↓pSome, ↓pIntK, ↓pN, ↓pT, ↓pGC, ↓pGN, ↓pIf, ↓pRet, ↓pRetN, ↓pDrop, ↓pAsg, ↓pNx, ↓pBrk, ↓pCnt, ↓pNever, ↓pSub, ↓pAug, ↓pPar, ↓pParK, ↓pBM, ↓pFor, ↓pLc, ↓pLcO, ↓pYes, ↓piSeq, ↓piStr, ↓pStrK, ↓piRng1, ↓pRng1K, ↓piRng2, ↓pRng2K, ↓piEnum, ↓pEnumK, ↓piZip, ↓pZipL, ↓pZipT, ↓pFz, ↓pLenSet, ↓pIsT, ↓rIx_lst, ↓rIx_tup, ↓rIx_ref, ↓rIx_str, ↓rLen_str, ↓rLen_lst, ↓rLen_tup, ↓rLen_ref, ↓rIs_p, ↓rInt_int, ↓rInt_bl, ↓rStr_int, ↓rList_p, ↓rListO_p, ↓rTup_p, ↓rAdd_int, ↓rAdd_str, ↓rAdd_tup, ↓rAdd_lst, ↓rIntD_p, ↓rInt0_p, ↓rEq_int, ↓rEq_str, ↓rEq_bl, ↓rEq_lst, ↓rEq_tup, ↓rIsN_non, ↓rIsN_bl, ↓rIsN_int, ↓rIsN_str, ↓rIsN_tup, ↓rIsN_lst, ↓rNeg_p, ↓rSl_str, ↓rSl_tup, ↓rSl_lst, ↓rSl_scr, ↓rRep_p, ↓pOptK, ↓pChain, ↓pIfT, ↓pCallK, ↓pDzip, ↓pDzipK, ↓pDzipO, ↓pDzipKO, ↓rIsB_bl, ↓rDix_str, ↓rDix_int, ↓rIn_tup, ↓rIn_lst, ↓rEq_ns, ↓rEq_sn, ↓rRepT_p, ↓rAll_f, ↓rAll_t, ↓wSeq_p, ↓seqE_nx, ↓reduceIte, at_0, at_1, at_2, at_3, cut_1, cut_2, dl_0_0, dl_0_1, dl_0_2, dl_0_3, dl_0_4, dl_0_5, dl_1_0, dl_1_1, dl_1_2, dl_1_3, dl_1_4, dl_1_5, dl_2_0, dl_2_1, dl_2_2, dl_2_3, dl_2_4, dl_2_5, dl_3_0, dl_3_1, dl_3_2, dl_3_3, dl_3_4, dl_3_5, dl_4_0, dl_4_1, dl_4_2, dl_4_3, dl_4_4, dl_4_5, dn_1_0, dn_2_0, dn_2_1, dn_3_0, dn_3_1, dn_3_2, dn_4_0, dn_4_1, dn_4_2, dn_4_3, seqE_rt, seqE_bk, seqE_ct, seqE_ex, wipeD, frz_lst, frz_tup, at1_0, at2_0, at2_1, at3_0, at3_1, at3_2, at4_0, at4_1, at4_2, at4_3, at5_0, at5_1, at5_2, at5_3, at5_4, seqOf_put, seqOf_lst, seqOf_tup, insK_same, tyN_non, tyN_bl, tyN_int, tyN_str, tyN_tup, tyN_lst, tyN_dct, List.getElem?_cons_zero, List.getElem?_cons_succ, List.set_cons_zero, List.set_cons_succ, List.length_cons, List.length_nil, isB_NoneType_bool, isB_NoneType_int, isB_NoneType_str, isB_NoneType_tuple, isB_NoneType_list, isB_NoneType_dict, isB_bool_bool, isB_bool_int, isB_bool_str, isB_bool_tuple, isB_bool_list, isB_bool_dict, isB_int_bool, isB_int_int, isB_int_str, isB_int_tuple, isB_int_list, isB_int_dict, isB_str_bool, isB_str_int, isB_str_str, isB_str_tuple, isB_str_list, isB_str_dict, isB_tuple_bool, isB_tuple_int, isB_tuple_str, isB_tuple_tuple, isB_tuple_list, isB_tuple_dict, isB_list_bool, isB_list_int, isB_list_str, isB_list_tuple, isB_list_list, isB_list_dict, isB_dict_bool, isB_dict_int, isB_dict_str, isB_dict_tuple, isB_dict_list, isB_dict_dict, isC_bool, isC_int, isC_str, isC_tuple, isC_list, isC_dict, isA_list_tuple, isQ_NoneType, isQ_bool, isQ_int, isQ_str, isQ_tuple, isQ_list, isQ_dict, true_and, and_true, Bool.not_true, Bool.not_false, Bool.false_eq_true, Bool.true_xor, Bool.false_xor]
  refine ⟨ns, rfl, fun b o hb hg => ?_⟩
  refine ⟨b, 4, 4, o, rfl, mput_same, hg, by decide, by decide, by decide, by decide, fun fs ss ws gr o2 g2 => ?_⟩
  refine ⟨fs, ss, ws, rfl, gr.f, gr.s, gr.o, ?_⟩
  have f5 := gr.f.hi
  refine ⟨fs, ss, ws, rfl, by omega, ?_⟩
  have hN : Bgd (mput M b o) b (mput (mput M b o) b o2) := ⟨o2, g2, rfl⟩
  generalize mput (mput M b o) b o2 = N0 at hN ⊢
  simp only [wb_law_c0, ↓pVar, ↓pGet, ↓pC, ↓pOp, ↓pUn, ↓pCB, ↓pNil, ↓pCons, ↓pTest, ↓pBl, ↓pAndT, ↓pOrT, ↓pNotT, ↓pAndV, ↓pOrV, ↓pNotV, ↓pIfE, ↓pTup, ↓pLst, ↓pLstO, ↓pCall, ↓pMeth, ↓pFld, ↓pProp, ↓pMake, ↓pCv, ↓pSl, ↓pNo, ↓pSome, ↓pIntK, ↓pN, ↓pT, ↓pGC, ↓pGN, ↓pIf, ↓pRet, ↓pRetN, ↓pDrop, ↓pAsg, ↓pNx, ↓pBrk, ↓pCnt, ↓pNever, ↓pSub, ↓pAug, ↓pPar, ↓pParK, ↓pBM, ↓pFor, ↓pLc, ↓pLcO, ↓pYes, ↓piSeq, ↓piStr, ↓pStrK, ↓piRng1, ↓pRng1K, ↓piRng2, ↓pRng2K, ↓piEnum, ↓pEnumK, ↓piZip, ↓pZipL, ↓pZipT, ↓pFz, ↓pLenSet, ↓pIsT, ↓rIx_lst, ↓rIx_tup, ↓rIx_ref, ↓rIx_str, ↓rLen_str, ↓rLen_lst, ↓rLen_tup, ↓rLen_ref, ↓rIs_p, ↓rInt_int, ↓rInt_bl, ↓rStr_int, ↓rList_p, ↓rListO_p, ↓rTup_p, ↓rAdd_int, ↓rAdd_str, ↓rAdd_tup, ↓rAdd_lst, ↓rIntD_p, ↓rInt0_p, ↓rEq_int, ↓rEq_str, ↓rEq_bl, ↓rEq_lst, ↓rEq_tup, ↓rIsN_non, ↓rIsN_bl, ↓rIsN_int, ↓rIsN_str, ↓rIsN_tup, ↓rIsN_lst, ↓rNeg_p, ↓rSl_str, ↓rSl_tup, ↓rSl_lst, ↓rSl_scr, ↓rRep_p, ↓pOptK, ↓pChain, ↓pIfT, ↓pCallK, ↓pDzip, ↓pDzipK, ↓pDzipO, ↓pDzipKO, ↓rIsB_bl, ↓rDix_str, ↓rDix_int, ↓rIn_tup, ↓rIn_lst, ↓rEq_ns, ↓rEq_sn, ↓rRepT_p, ↓rAll_f, ↓rAll_t, ↓wSeq_p, ↓seqE_nx, ↓reduceIte, at_0, at_1, at_2, at_3, cut_1, cut_2, dl_0_0, dl_0_1, dl_0_2, dl_0_3, dl_0_4, dl_0_5, dl_1_0, dl_1_1, dl_1_2, dl_1_3, dl_1_4, dl_1_5, dl_2_0, dl_2_1, dl_2_2, dl_2_3, dl_2_4, dl_2_5, dl_3_0, dl_3_1, dl_3_2, dl_3_3, dl_3_4, dl_3_5, dl_4_0, dl_4_1, dl_4_2, dl_4_3, dl_4_4, dl_4_5, dn_1_0, dn_2_0, dn_2_1, dn_3_0, dn_3_1, dn_3_2, dn_4_0, dn_4_1, dn_4_2, dn_4_3, seqE_rt, seqE_bk, seqE_ct, seqE_ex, wipeD, frz_lst, frz_tup, at1_0, at2_0, at2_1, at3_0, at3_1, at3_2, at4_0, at4_1, at4_2, at4_3, at5_0, at5_1, at5_2, at5_3, at5_4, seqOf_put, seqOf_lst, seqOf_tup, insK_same, tyN_non, tyN_bl, tyN_int, tyN_str, tyN_tup, tyN_lst, tyN_dct, List.getElem?_cons_zero, List.getElem?_cons_succ, List.set_cons_zero, List.set_cons_succ, List.length_cons, List.length_nil, isB_NoneType_bool, isB_NoneType_int, isB_NoneType_str, isB_NoneType_tuple, isB_NoneType_list, isB_NoneType_dict, isB_bool_bool, isB_bool_int, isB_bool_str, isB_bool_tuple, isB_bool_list, isB_bool_dict, isB_int_bool, isB_int_int, isB_int_str, isB_int_tuple, isB_int_list, isB_int_dict, isB_str_bool, isB_str_int, isB_str_str, isB_str_tuple, isB_str_list, isB_str_dict, isB_tuple_bool, isB_tuple_int, isB_tuple_str, isB_tuple_tuple, isB_tuple_list, isB_tuple_dict, isB_list_bool, isB_list_int, isB_list_str, isB_list_tuple, isB_list_list, isB_list_dict, isB_dict_bool, isB_dict_int, isB_dict_str, isB_dict_tuple, isB_dict_list, isB_dict_dict, isC_bool, isC_int, isC_str, isC_tuple, isC_list, isC_dict, isA_list_tuple, isQ_NoneType, isQ_bool, isQ_int, isQ_str, isQ_tuple, isQ_list, isQ_dict, true_and, and_true, Bool.not_true, Bool.not_false, Bool.false_eq_true, Bool.true_xor, Bool.false_xor]
  refine ⟨⟨by omega, by omega⟩, forR_ind (fun its ds N' => ∃ r : SD, r.length = 10 ∧ ds = sl (some (.scr ns)) b A fs ss ws r ∧ Bgd (mput M b o) b N') ?_ ?_ _ _ _ ⟨List.replicate 10 none, rfl, rfl, hN⟩⟩
  · rintro ds N' ⟨r, hl, rfl, hN⟩
    rw [seqE_nx]
    refine law_c1 A gr hN ?_ hl
    obtain ⟨o3, g3, rfl⟩ := hN
    refine fin_dn (M' := M) (fun c u hc => ?_) q
    have e : c ≠ b := fun e => by subst e; rw [hb] at hc; cases hc
    rw [mput_ne e, mput_ne e]
    exact hc
  · rintro d its ds N' R hR ⟨r, hl, rfl, hN⟩
    rcases r with _ | ⟨x5, _ | ⟨x6, r⟩⟩ <;> try (simp only [List.length_cons, List.length_nil] at hl; omega)
    simp only [sl, ↓pVar, ↓pGet, ↓pC, ↓pOp, ↓pUn, ↓pCB, ↓pNil, ↓pCons, ↓pTest, ↓pBl, ↓pAndT, ↓pOrT, ↓pNotT, ↓pAndV, ↓pOrV, ↓pNotV, ↓pIfE, ↓pTup, ↓pLst, ↓pLstO, ↓pCall, ↓pMeth, ↓pFld, ↓pProp, ↓pMake, ↓pCv, ↓pSl, ↓pNo, ↓pSome, ↓pIntK, ↓pN, ↓pT, ↓pGC, ↓pGN, ↓pIf, ↓pRet, ↓pRetN, ↓pDrop, ↓pAsg, ↓pNx, ↓pBrk, ↓pCnt, ↓pNever, ↓pSub, ↓pAug, ↓pPar, ↓pParK, ↓pBM, ↓pFor, ↓pLc, ↓pLcO, ↓pYes, ↓piSeq, ↓piStr, ↓pStrK, ↓piRng1, ↓pRng1K, ↓piRng2, ↓pRng2K, ↓piEnum, ↓pEnumK, ↓piZip, ↓pZipL, ↓pZipT, ↓pFz, ↓pLenSet, ↓pIsT, ↓rIx_lst, ↓rIx_tup, ↓rIx_ref, ↓rIx_str, ↓rLen_str, ↓rLen_lst, ↓rLen_tup, ↓rLen_ref, ↓rIs_p, ↓rInt_int, ↓rInt_bl, ↓rStr_int, ↓rList_p, ↓rListO_p, ↓rTup_p, ↓rAdd_int, ↓rAdd_str, ↓rAdd_tup, ↓rAdd_lst, ↓rIntD_p, ↓rInt0_p, ↓rEq_int, ↓rEq_str, ↓rEq_bl, ↓rEq_lst, ↓rEq_tup, ↓rIsN_non, ↓rIsN_bl, ↓rIsN_int, ↓rIsN_str, ↓rIsN_tup, ↓rIsN_lst, ↓rNeg_p, ↓rSl_str, ↓rSl_tup, ↓rSl_lst, ↓rSl_scr, ↓rRep_p, ↓pOptK, ↓pChain, ↓pIfT, ↓pCallK, ↓pDzip, ↓pDzipK, ↓pDzipO, ↓pDzipKO, ↓rIsB_bl, ↓rDix_str, ↓rDix_int, ↓rIn_tup, ↓rIn_lst, ↓rEq_ns, ↓rEq_sn, ↓rRepT_p, ↓rAll_f, ↓rAll_t, ↓wSeq_p, ↓seqE_nx, ↓reduceIte, at_0, at_1, at_2, at_3, cut_1, cut_2, dl_0_0, dl_0_1, dl_0_2, dl_0_3, dl_0_4, dl_0_5, dl_1_0, dl_1_1, dl_1_2, dl_1_3, dl_1_4, dl_1_5, dl_2_0, dl_2_1, dl_2_2, dl_2_3, dl_2_4, dl_2_5, dl_3_0, dl_3_1, dl_3_2, dl_3_3, dl_3_4, dl_3_5, dl_4_0, dl_4_1, dl_4_2, dl_4_3, dl_4_4, dl_4_5, dn_1_0, dn_2_0, dn_2_1, dn_3_0, dn_3_1, dn_3_2, dn_4_0, dn_4_1, dn_4_2, dn_4_3, seqE_rt, seqE_bk, seqE_ct, seqE_ex, wipeD, frz_lst, frz_tup, at1_0, at2_0, at2_1, at3_0, at3_1, at3_2, at4_0, at4_1, at4_2, at4_3, at5_0, at5_1, at5_2, at5_3, at5_4, seqOf_put, seqOf_lst, seqOf_tup, insK_same, tyN_non, tyN_bl, tyN_int, tyN_str, tyN_tup, tyN_lst, tyN_dct, List.getElem?_cons_zero, List.getElem?_cons_succ, List.set_cons_zero, List.set_cons_succ, List.length_cons, List.length_nil, isB_NoneType_bool, isB_NoneType_int, isB_NoneType_str, isB_NoneType_tuple, isB_NoneType_list, isB_NoneType_dict, isB_bool_bool, isB_bool_int, isB_bool_str, isB_bool_tuple, isB_bool_list, isB_bool_dict, isB_int_bool, isB_int_int, isB_int_str, isB_int_tuple, isB_int_list, isB_int_dict, isB_str_bool, isB_str_int, isB_str_str, isB_str_tuple, isB_str_list, isB_str_dict, isB_tuple_bool, isB_tuple_int, isB_tuple_str, isB_tuple_tuple, isB_tuple_list, isB_tuple_dict, isB_list_bool, isB_list_int, isB_list_str, isB_list_tuple, isB_list_list, isB_list_dict, isB_dict_bool, isB_dict_int, isB_dict_str, isB_dict_tuple, isB_dict_list, isB_dict_dict, isC_bool, isC_int, isC_str, isC_tuple, isC_list, isC_dict, isA_list_tuple, isQ_NoneType, isQ_bool, isQ_int, isQ_str, isQ_tuple, isQ_list, isQ_dict, true_and, and_true, Bool.not_true, Bool.not_false, Bool.false_eq_true, Bool.true_xor, Bool.false_xor]
    refine pull_b A hN (by omega) (by omega) fun v hv N1 g1 _ => ?_
    obtain ⟨o1, e1, b1⟩ := bgd_at g1
    refine ⟨b, fs, ss, ws, _, o1, 4, 4, rfl, gr, e1, b1, fun dr hdr o2 b2 => ?_⟩
    obtain ⟨s, vs, e, _⟩ := hdr.ex
    subst e
    exact turn_c2 A gr (bgd_put g1 b2) hdr (fun r2 h2 N2 hN2 => hR _ _ ⟨r2, h2, rfl, hN2⟩) (by simpa using hl)
theorem ok_law {P : Program} {w : World} {K : PySem.W.Frag} {mg : Str → Option Value} {base : Heap} {A : Ad} (T : Txt K mg A) : FnJ P w K mg base 17 A.f_law (sp_law A) :=
  FnJ.mkAt T.d_law sc_law (fun cdv R outer s H E hr tk => bd_law T cdv R outer s H E hr tk) (rd_law A)
end DL.K09
namespace DL.K09
open PySem PySem.Spec PyProof.Rows L2 RZ
def spL : SpD := fun ds M Q _ => ∃ ns, ds = [.scr ns] ∧ Q (.bl true) M
theorem FnOk.mkL {P : Program} {w : World} {K : PySem.W.Frag} {mg : Str → Option Value} {base : Heap} {k : Nat} {x qual : Str} {st : Stmt} {f : Addr} {fd : FuncData} {N ps : List Str} {sp : SpD} {wb : WS}
    (F : Fun K x qual st f fd) (S : FnScope N ps (defScope st))
    (body : ∀ (cdv : Value) (A : Around) (outer : List Env) (s : Shared) (H : Hp) (E : XK), Room k (A.deeper (envOfC qual (defScope st) s.heap.objs.size f cdv)) →
      Takes (cxOf (L2.CX P w) P w K mg base N qual (defScope st) f cdv A outer s H E) (WD E) →
      JSs (cxOf (L2.CX P w) P w K mg base N qual (defScope st) f cdv A outer s H E) (WD E) (defBody st) wb)
    (h : ∀ ds M Q Xc, sp ds M Q Xc → ds.length = ps.length ∧ wb { nx := fun _ M => Fin Q .non M, rt := Fin Q, ex := fun x _ M => Xc x M } (startD N ds) M) : FnOk P w K mg base (L2.CX P w) (k + 1) f fd ps (liftSp K sp) := by
  refine F.okX S (fun vs H Q E hh => ?_) (fun cdv A outer s H vs Q E hr hh => ?_)
  · obtain ⟨ds, M, Fr, Qd, Xd, q1, q2, q3, _⟩ := hh
    rw [q2.len]
    exact (h _ _ _ _ q3).1
  · obtain ⟨ds, M, Fr, Qd, Xd, q1, q2, q3, l1, l2⟩ := hh
    refine ⟨_, body cdv A outer s H E hr (takes_of rfl rfl rfl rfl), ?_⟩
    have fin : ∀ (v : V) (H' : Hp) (d : D) (M' : Mem), Ext H (uni M Fr) H' (uni M' Fr) → Rm K H' M' Fr → DV K H' (uni M' Fr) d v → Fin Qd d M' → Q v H' := fun v H' d M' e r dv ⟨d2, M2, fz, q⟩ =>
      l1 v H' d2 M2 (e.down (sub_none fz.sub)) (r.sub fz.sub) (fz.dv K H' Fr v r dv) q
    exact ⟨startD N ds, M, Fr, _, ⟨q1, Sl.start q2⟩, rfl, (h _ _ _ _ q3).2, ⟨fun σ' H' ds' M' e r q => fin .non H' .non M' e r.1 rfl q, fin, fun _ _ _ _ _ _ z => z.elim, fun _ _ _ _ _ _ z => z.elim, fun cls dc σ' H' x ds' M' e r dv q => l2 cls dc H' x M' e r.1 dv q⟩⟩
set_option maxHeartbeats 4000000 in
theorem all_mk {l : PySem.W.OpenLaw} {w : World} {K : PySem.W.Frag} {h : Heap} {mg : Str → Option Value} {fa f_is_number f_is_listed f_is_made_of f_is_plain_name f_is_plain_word f_unlike f_are_names f_Shape___init__ f_Shape_fields f_Shape_sources f_Shape_columns f_Shape_is_row f_Shape_need_row f_Shape_sheet f_head f_is_field f_is_simple f_need_condition f_check_condition f_met f_holds f__law_opened f__law_pull f__law_any f__law_like f__law_stems f__law_words f__law_ground f__law_shape f__law_columns f__law_row f__law_cond f__law_sheet f__law_met f_law C_Shape q_Shape_fields q_Shape_sources q_Shape_columns : Addr} (X : K.In h) (G : h.Ns mainGlobals mg) (hfa : mg "law" = some (.ref fa))
    {tk_DIGITS : Tok} {tk_LETTERS : Tok} {tk_MAX_WORD : Tok} {t_OWN_COLUMNS : Addr} {od_OWN_COLUMNS : Option Addr} {sl_OWN_COLUMNS : Array (Option Value)} {n_OWN_COLUMNS : Nat} {tk_OWN_COLUMNS_0 tk_OWN_COLUMNS_1 : Tok} {od_is_number an_is_number : Option Addr} {sl_is_number : Array (Option Value)} {oc_is_number kV_is_number dc_is_number pm_is_number cd_is_number ct_is_number : Value} {od_is_listed an_is_listed : Option Addr} {sl_is_listed : Array (Option Value)} {oc_is_listed kV_is_listed dc_is_listed pm_is_listed cd_is_listed ct_is_listed : Value} {od_is_made_of an_is_made_of : Option Addr} {sl_is_made_of : Array (Option Value)} {oc_is_made_of kV_is_made_of dc_is_made_of pm_is_made_of cd_is_made_of ct_is_made_of : Value} {od_is_plain_name an_is_plain_name : Option Addr} {sl_is_plain_name : Array (Option Value)} {oc_is_plain_name kV_is_plain_name dc_is_plain_name pm_is_plain_name cd_is_plain_name ct_is_plain_name : Value} {od_is_plain_word an_is_plain_word : Option Addr} {sl_is_plain_word : Array (Option Value)} {oc_is_plain_word kV_is_plain_word dc_is_plain_word pm_is_plain_word cd_is_plain_word ct_is_plain_word : Value} {od_unlike an_unlike : Option Addr} {sl_unlike : Array (Option Value)} {oc_unlike kV_unlike dc_unlike pm_unlike cd_unlike ct_unlike : Value} {od_are_names an_are_names : Option Addr} {sl_are_names : Array (Option Value)} {oc_are_names kV_are_names dc_are_names pm_are_names cd_are_names ct_are_names : Value} {od_Shape___init__ an_Shape___init__ : Option Addr} {sl_Shape___init__ : Array (Option Value)} {oc_Shape___init__ kV_Shape___init__ dc_Shape___init__ pm_Shape___init__ cd_Shape___init__ ct_Shape___init__ : Value} {od_Shape_fields an_Shape_fields : Option Addr} {sl_Shape_fields : Array (Option Value)} {oc_Shape_fields kV_Shape_fields dc_Shape_fields pm_Shape_fields cd_Shape_fields ct_Shape_fields : Value} {rs_Shape_fields : List Value} {od_Shape_sources an_Shape_sources : Option Addr} {sl_Shape_sources : Array (Option Value)} {oc_Shape_sources kV_Shape_sources dc_Shape_sources pm_Shape_sources cd_Shape_sources ct_Shape_sources : Value} {rs_Shape_sources : List Value} {od_Shape_columns an_Shape_columns : Option Addr} {sl_Shape_columns : Array (Option Value)} {oc_Shape_columns kV_Shape_columns dc_Shape_columns pm_Shape_columns cd_Shape_columns ct_Shape_columns : Value} {rs_Shape_columns : List Value} {od_Shape_is_row an_Shape_is_row : Option Addr} {sl_Shape_is_row : Array (Option Value)} {oc_Shape_is_row kV_Shape_is_row dc_Shape_is_row pm_Shape_is_row cd_Shape_is_row ct_Shape_is_row : Value} {od_Shape_need_row an_Shape_need_row : Option Addr} {sl_Shape_need_row : Array (Option Value)} {oc_Shape_need_row kV_Shape_need_row dc_Shape_need_row pm_Shape_need_row cd_Shape_need_row ct_Shape_need_row : Value} {od_Shape_sheet an_Shape_sheet : Option Addr} {sl_Shape_sheet : Array (Option Value)} {oc_Shape_sheet kV_Shape_sheet dc_Shape_sheet pm_Shape_sheet cd_Shape_sheet ct_Shape_sheet : Value} {od_head an_head : Option Addr} {sl_head : Array (Option Value)} {oc_head kV_head dc_head pm_head cd_head ct_head : Value} {od_is_field an_is_field : Option Addr} {sl_is_field : Array (Option Value)} {oc_is_field kV_is_field dc_is_field pm_is_field cd_is_field ct_is_field : Value} {od_is_simple an_is_simple : Option Addr} {sl_is_simple : Array (Option Value)} {oc_is_simple kV_is_simple dc_is_simple pm_is_simple cd_is_simple ct_is_simple : Value} {od_need_condition an_need_condition : Option Addr} {sl_need_condition : Array (Option Value)} {oc_need_condition kV_need_condition dc_need_condition pm_need_condition cd_need_condition ct_need_condition : Value} {od_check_condition an_check_condition : Option Addr} {sl_check_condition : Array (Option Value)} {oc_check_condition kV_check_condition dc_check_condition pm_check_condition cd_check_condition ct_check_condition : Value} {od_met an_met : Option Addr} {sl_met : Array (Option Value)} {oc_met kV_met dc_met pm_met cd_met ct_met : Value} {od_holds an_holds : Option Addr} {sl_holds : Array (Option Value)} {oc_holds kV_holds dc_holds pm_holds cd_holds ct_holds : Value} {od__law_opened an__law_opened : Option Addr} {sl__law_opened : Array (Option Value)} {oc__law_opened kV__law_opened dc__law_opened pm__law_opened cd__law_opened ct__law_opened : Value} {od__law_pull an__law_pull : Option Addr} {sl__law_pull : Array (Option Value)} {oc__law_pull kV__law_pull dc__law_pull pm__law_pull cd__law_pull ct__law_pull : Value} {od__law_any an__law_any : Option Addr} {sl__law_any : Array (Option Value)} {oc__law_any kV__law_any dc__law_any pm__law_any cd__law_any ct__law_any : Value} {od__law_like an__law_like : Option Addr} {sl__law_like : Array (Option Value)} {oc__law_like kV__law_like dc__law_like pm__law_like cd__law_like ct__law_like : Value} {od__law_stems an__law_stems : Option Addr} {sl__law_stems : Array (Option Value)} {oc__law_stems kV__law_stems dc__law_stems pm__law_stems cd__law_stems ct__law_stems : Value} {od__law_words an__law_words : Option Addr} {sl__law_words : Array (Option Value)} {oc__law_words kV__law_words dc__law_words pm__law_words cd__law_words ct__law_words : Value} {od__law_ground an__law_ground : Option Addr} {sl__law_ground : Array (Option Value)} {oc__law_ground kV__law_ground dc__law_ground pm__law_ground cd__law_ground ct__law_ground : Value} {od__law_shape an__law_shape : Option Addr} {sl__law_shape : Array (Option Value)} {oc__law_shape kV__law_shape dc__law_shape pm__law_shape cd__law_shape ct__law_shape : Value} {od__law_columns an__law_columns : Option Addr} {sl__law_columns : Array (Option Value)} {oc__law_columns kV__law_columns dc__law_columns pm__law_columns cd__law_columns ct__law_columns : Value} {od__law_row an__law_row : Option Addr} {sl__law_row : Array (Option Value)} {oc__law_row kV__law_row dc__law_row pm__law_row cd__law_row ct__law_row : Value} {od__law_cond an__law_cond : Option Addr} {sl__law_cond : Array (Option Value)} {oc__law_cond kV__law_cond dc__law_cond pm__law_cond cd__law_cond ct__law_cond : Value} {od__law_sheet an__law_sheet : Option Addr} {sl__law_sheet : Array (Option Value)} {oc__law_sheet kV__law_sheet dc__law_sheet pm__law_sheet cd__law_sheet ct__law_sheet : Value} {od__law_met an__law_met : Option Addr} {sl__law_met : Array (Option Value)} {oc__law_met kV__law_met dc__law_met pm__law_met cd__law_met ct__law_met : Value} {od_law an_law : Option Addr} {sl_law : Array (Option Value)} {oc_law kV_law dc_law pm_law cd_law ct_law : Value} {cv_Shape_FIELDS_t : Tok} {cv_Shape_SOURCES_t : Tok}
    (g_Shape : PySem.W.nsIn K mainGlobals "Shape" = some (some (.ref C_Shape)))
    (zn_all : PySem.W.nsIn K mainGlobals "all" = some none)
    (zn_any : PySem.W.nsIn K mainGlobals "any" = some none)
    (zn_bool : PySem.W.nsIn K mainGlobals "bool" = some none)
    (zn_dict : PySem.W.nsIn K mainGlobals "dict" = some none)
    (zn_int : PySem.W.nsIn K mainGlobals "int" = some none)
    (zn_isinstance : PySem.W.nsIn K mainGlobals "isinstance" = some none)
    (zn_len : PySem.W.nsIn K mainGlobals "len" = some none)
    (zn_list : PySem.W.nsIn K mainGlobals "list" = some none)
    (zn_range : PySem.W.nsIn K mainGlobals "range" = some none)
    (zn_set : PySem.W.nsIn K mainGlobals "set" = some none)
    (zn_str : PySem.W.nsIn K mainGlobals "str" = some none)
    (zn_tuple : PySem.W.nsIn K mainGlobals "tuple" = some none)
    (zn_zip : PySem.W.nsIn K mainGlobals "zip" = some none)
    (k_DIGITS : PySem.W.nsIn K mainGlobals "DIGITS" = some (some (.str "0123456789" tk_DIGITS)))
    (k_LETTERS : PySem.W.nsIn K mainGlobals "LETTERS" = some (some (.str "abcdefghijklmnopqrstuvwxyz" tk_LETTERS)))
    (k_MAX_WORD : PySem.W.nsIn K mainGlobals "MAX_WORD" = some (some (.int 8 tk_MAX_WORD)))
    (k_OWN_COLUMNS : PySem.W.nsIn K mainGlobals "OWN_COLUMNS" = some (some (.ref t_OWN_COLUMNS)))
    (l_OWN_COLUMNS : K.lookup t_OWN_COLUMNS = some ⟨.type "tuple", od_OWN_COLUMNS, .seq #[.str "moment" tk_OWN_COLUMNS_0, .str "source" tk_OWN_COLUMNS_1] n_OWN_COLUMNS, sl_OWN_COLUMNS⟩)
    (a_is_number : PySem.W.nsIn K mainGlobals "is_number" = some (some (.ref f_is_number)))
    (l_is_number : K.lookup f_is_number = some ⟨oc_is_number, od_is_number, .func (PySem.W.fnOf "is_number" "is_number" (defArgs s_is_number) (defBody s_is_number) (defScope s_is_number) .none kV_is_number dc_is_number pm_is_number an_is_number cd_is_number ct_is_number), sl_is_number⟩)
    (c_is_number : PySem.W.codeIn K cd_is_number "is_number" = true)
    (k_is_number : PySem.W.keepIn K (.ref f_is_number) = true)
    (a_is_listed : PySem.W.nsIn K mainGlobals "is_listed" = some (some (.ref f_is_listed)))
    (l_is_listed : K.lookup f_is_listed = some ⟨oc_is_listed, od_is_listed, .func (PySem.W.fnOf "is_listed" "is_listed" (defArgs s_is_listed) (defBody s_is_listed) (defScope s_is_listed) .none kV_is_listed dc_is_listed pm_is_listed an_is_listed cd_is_listed ct_is_listed), sl_is_listed⟩)
    (c_is_listed : PySem.W.codeIn K cd_is_listed "is_listed" = true)
    (k_is_listed : PySem.W.keepIn K (.ref f_is_listed) = true)
    (a_is_made_of : PySem.W.nsIn K mainGlobals "is_made_of" = some (some (.ref f_is_made_of)))
    (l_is_made_of : K.lookup f_is_made_of = some ⟨oc_is_made_of, od_is_made_of, .func (PySem.W.fnOf "is_made_of" "is_made_of" (defArgs s_is_made_of) (defBody s_is_made_of) (defScope s_is_made_of) .none kV_is_made_of dc_is_made_of pm_is_made_of an_is_made_of cd_is_made_of ct_is_made_of), sl_is_made_of⟩)
    (c_is_made_of : PySem.W.codeIn K cd_is_made_of "is_made_of" = true)
    (k_is_made_of : PySem.W.keepIn K (.ref f_is_made_of) = true)
    (a_is_plain_name : PySem.W.nsIn K mainGlobals "is_plain_name" = some (some (.ref f_is_plain_name)))
    (l_is_plain_name : K.lookup f_is_plain_name = some ⟨oc_is_plain_name, od_is_plain_name, .func (PySem.W.fnOf "is_plain_name" "is_plain_name" (defArgs s_is_plain_name) (defBody s_is_plain_name) (defScope s_is_plain_name) .none kV_is_plain_name dc_is_plain_name pm_is_plain_name an_is_plain_name cd_is_plain_name ct_is_plain_name), sl_is_plain_name⟩)
    (c_is_plain_name : PySem.W.codeIn K cd_is_plain_name "is_plain_name" = true)
    (k_is_plain_name : PySem.W.keepIn K (.ref f_is_plain_name) = true)
    (a_is_plain_word : PySem.W.nsIn K mainGlobals "is_plain_word" = some (some (.ref f_is_plain_word)))
    (l_is_plain_word : K.lookup f_is_plain_word = some ⟨oc_is_plain_word, od_is_plain_word, .func (PySem.W.fnOf "is_plain_word" "is_plain_word" (defArgs s_is_plain_word) (defBody s_is_plain_word) (defScope s_is_plain_word) .none kV_is_plain_word dc_is_plain_word pm_is_plain_word an_is_plain_word cd_is_plain_word ct_is_plain_word), sl_is_plain_word⟩)
    (c_is_plain_word : PySem.W.codeIn K cd_is_plain_word "is_plain_word" = true)
    (k_is_plain_word : PySem.W.keepIn K (.ref f_is_plain_word) = true)
    (a_unlike : PySem.W.nsIn K mainGlobals "unlike" = some (some (.ref f_unlike)))
    (l_unlike : K.lookup f_unlike = some ⟨oc_unlike, od_unlike, .func (PySem.W.fnOf "unlike" "unlike" (defArgs s_unlike) (defBody s_unlike) (defScope s_unlike) .none kV_unlike dc_unlike pm_unlike an_unlike cd_unlike ct_unlike), sl_unlike⟩)
    (c_unlike : PySem.W.codeIn K cd_unlike "unlike" = true)
    (k_unlike : PySem.W.keepIn K (.ref f_unlike) = true)
    (a_are_names : PySem.W.nsIn K mainGlobals "are_names" = some (some (.ref f_are_names)))
    (l_are_names : K.lookup f_are_names = some ⟨oc_are_names, od_are_names, .func (PySem.W.fnOf "are_names" "are_names" (defArgs s_are_names) (defBody s_are_names) (defScope s_are_names) .none kV_are_names dc_are_names pm_are_names an_are_names cd_are_names ct_are_names), sl_are_names⟩)
    (c_are_names : PySem.W.codeIn K cd_are_names "are_names" = true)
    (k_are_names : PySem.W.keepIn K (.ref f_are_names) = true)
    (a_Shape___init__ : PySem.W.findIn K (.ref C_Shape) "__init__" = some (some (.ref f_Shape___init__)))
    (i_Shape___init__ : PySem.W.isFn K (.ref f_Shape___init__) = true)
    (l_Shape___init__ : K.lookup f_Shape___init__ = some ⟨oc_Shape___init__, od_Shape___init__, .func (PySem.W.fnOf "__init__" "Shape.__init__" (defArgs s_Shape___init__) (defBody s_Shape___init__) (defScope s_Shape___init__) .none kV_Shape___init__ dc_Shape___init__ pm_Shape___init__ an_Shape___init__ cd_Shape___init__ ct_Shape___init__), sl_Shape___init__⟩)
    (c_Shape___init__ : PySem.W.codeIn K cd_Shape___init__ "Shape.__init__" = true)
    (k_Shape___init__ : PySem.W.keepIn K (.ref f_Shape___init__) = true)
    (pa_Shape_fields : PySem.W.findIn K (.ref C_Shape) "fields" = some (some (.ref q_Shape_fields)))
    (pg_Shape_fields : PySem.W.specialIn K (.ref q_Shape_fields) "__get__" = some (some (.builtin "property.__get__")))
    (pt_Shape_fields : PySem.W.takesIn K (.ref q_Shape_fields) = some true)
    (pr_Shape_fields : PySem.W.recIn K q_Shape_fields "property" = some (.ref f_Shape_fields :: rs_Shape_fields))
    (l_Shape_fields : K.lookup f_Shape_fields = some ⟨oc_Shape_fields, od_Shape_fields, .func (PySem.W.fnOf "fields" "Shape.fields" (defArgs s_Shape_fields) (defBody s_Shape_fields) (defScope s_Shape_fields) .none kV_Shape_fields dc_Shape_fields pm_Shape_fields an_Shape_fields cd_Shape_fields ct_Shape_fields), sl_Shape_fields⟩)
    (c_Shape_fields : PySem.W.codeIn K cd_Shape_fields "Shape.fields" = true)
    (k_Shape_fields : PySem.W.keepIn K (.ref f_Shape_fields) = true)
    (pa_Shape_sources : PySem.W.findIn K (.ref C_Shape) "sources" = some (some (.ref q_Shape_sources)))
    (pg_Shape_sources : PySem.W.specialIn K (.ref q_Shape_sources) "__get__" = some (some (.builtin "property.__get__")))
    (pt_Shape_sources : PySem.W.takesIn K (.ref q_Shape_sources) = some true)
    (pr_Shape_sources : PySem.W.recIn K q_Shape_sources "property" = some (.ref f_Shape_sources :: rs_Shape_sources))
    (l_Shape_sources : K.lookup f_Shape_sources = some ⟨oc_Shape_sources, od_Shape_sources, .func (PySem.W.fnOf "sources" "Shape.sources" (defArgs s_Shape_sources) (defBody s_Shape_sources) (defScope s_Shape_sources) .none kV_Shape_sources dc_Shape_sources pm_Shape_sources an_Shape_sources cd_Shape_sources ct_Shape_sources), sl_Shape_sources⟩)
    (c_Shape_sources : PySem.W.codeIn K cd_Shape_sources "Shape.sources" = true)
    (k_Shape_sources : PySem.W.keepIn K (.ref f_Shape_sources) = true)
    (pa_Shape_columns : PySem.W.findIn K (.ref C_Shape) "columns" = some (some (.ref q_Shape_columns)))
    (pg_Shape_columns : PySem.W.specialIn K (.ref q_Shape_columns) "__get__" = some (some (.builtin "property.__get__")))
    (pt_Shape_columns : PySem.W.takesIn K (.ref q_Shape_columns) = some true)
    (pr_Shape_columns : PySem.W.recIn K q_Shape_columns "property" = some (.ref f_Shape_columns :: rs_Shape_columns))
    (l_Shape_columns : K.lookup f_Shape_columns = some ⟨oc_Shape_columns, od_Shape_columns, .func (PySem.W.fnOf "columns" "Shape.columns" (defArgs s_Shape_columns) (defBody s_Shape_columns) (defScope s_Shape_columns) .none kV_Shape_columns dc_Shape_columns pm_Shape_columns an_Shape_columns cd_Shape_columns ct_Shape_columns), sl_Shape_columns⟩)
    (c_Shape_columns : PySem.W.codeIn K cd_Shape_columns "Shape.columns" = true)
    (k_Shape_columns : PySem.W.keepIn K (.ref f_Shape_columns) = true)
    (a_Shape_is_row : PySem.W.findIn K (.ref C_Shape) "is_row" = some (some (.ref f_Shape_is_row)))
    (i_Shape_is_row : PySem.W.isFn K (.ref f_Shape_is_row) = true)
    (l_Shape_is_row : K.lookup f_Shape_is_row = some ⟨oc_Shape_is_row, od_Shape_is_row, .func (PySem.W.fnOf "is_row" "Shape.is_row" (defArgs s_Shape_is_row) (defBody s_Shape_is_row) (defScope s_Shape_is_row) .none kV_Shape_is_row dc_Shape_is_row pm_Shape_is_row an_Shape_is_row cd_Shape_is_row ct_Shape_is_row), sl_Shape_is_row⟩)
    (c_Shape_is_row : PySem.W.codeIn K cd_Shape_is_row "Shape.is_row" = true)
    (k_Shape_is_row : PySem.W.keepIn K (.ref f_Shape_is_row) = true)
    (a_Shape_need_row : PySem.W.findIn K (.ref C_Shape) "need_row" = some (some (.ref f_Shape_need_row)))
    (i_Shape_need_row : PySem.W.isFn K (.ref f_Shape_need_row) = true)
    (l_Shape_need_row : K.lookup f_Shape_need_row = some ⟨oc_Shape_need_row, od_Shape_need_row, .func (PySem.W.fnOf "need_row" "Shape.need_row" (defArgs s_Shape_need_row) (defBody s_Shape_need_row) (defScope s_Shape_need_row) .none kV_Shape_need_row dc_Shape_need_row pm_Shape_need_row an_Shape_need_row cd_Shape_need_row ct_Shape_need_row), sl_Shape_need_row⟩)
    (c_Shape_need_row : PySem.W.codeIn K cd_Shape_need_row "Shape.need_row" = true)
    (k_Shape_need_row : PySem.W.keepIn K (.ref f_Shape_need_row) = true)
    (a_Shape_sheet : PySem.W.findIn K (.ref C_Shape) "sheet" = some (some (.ref f_Shape_sheet)))
    (i_Shape_sheet : PySem.W.isFn K (.ref f_Shape_sheet) = true)
    (l_Shape_sheet : K.lookup f_Shape_sheet = some ⟨oc_Shape_sheet, od_Shape_sheet, .func (PySem.W.fnOf "sheet" "Shape.sheet" (defArgs s_Shape_sheet) (defBody s_Shape_sheet) (defScope s_Shape_sheet) .none kV_Shape_sheet dc_Shape_sheet pm_Shape_sheet an_Shape_sheet cd_Shape_sheet ct_Shape_sheet), sl_Shape_sheet⟩)
    (c_Shape_sheet : PySem.W.codeIn K cd_Shape_sheet "Shape.sheet" = true)
    (k_Shape_sheet : PySem.W.keepIn K (.ref f_Shape_sheet) = true)
    (a_head : PySem.W.nsIn K mainGlobals "head" = some (some (.ref f_head)))
    (l_head : K.lookup f_head = some ⟨oc_head, od_head, .func (PySem.W.fnOf "head" "head" (defArgs s_head) (defBody s_head) (defScope s_head) .none kV_head dc_head pm_head an_head cd_head ct_head), sl_head⟩)
    (c_head : PySem.W.codeIn K cd_head "head" = true)
    (k_head : PySem.W.keepIn K (.ref f_head) = true)
    (a_is_field : PySem.W.nsIn K mainGlobals "is_field" = some (some (.ref f_is_field)))
    (l_is_field : K.lookup f_is_field = some ⟨oc_is_field, od_is_field, .func (PySem.W.fnOf "is_field" "is_field" (defArgs s_is_field) (defBody s_is_field) (defScope s_is_field) .none kV_is_field dc_is_field pm_is_field an_is_field cd_is_field ct_is_field), sl_is_field⟩)
    (c_is_field : PySem.W.codeIn K cd_is_field "is_field" = true)
    (k_is_field : PySem.W.keepIn K (.ref f_is_field) = true)
    (a_is_simple : PySem.W.nsIn K mainGlobals "is_simple" = some (some (.ref f_is_simple)))
    (l_is_simple : K.lookup f_is_simple = some ⟨oc_is_simple, od_is_simple, .func (PySem.W.fnOf "is_simple" "is_simple" (defArgs s_is_simple) (defBody s_is_simple) (defScope s_is_simple) .none kV_is_simple dc_is_simple pm_is_simple an_is_simple cd_is_simple ct_is_simple), sl_is_simple⟩)
    (c_is_simple : PySem.W.codeIn K cd_is_simple "is_simple" = true)
    (k_is_simple : PySem.W.keepIn K (.ref f_is_simple) = true)
    (a_need_condition : PySem.W.nsIn K mainGlobals "need_condition" = some (some (.ref f_need_condition)))
    (l_need_condition : K.lookup f_need_condition = some ⟨oc_need_condition, od_need_condition, .func (PySem.W.fnOf "need_condition" "need_condition" (defArgs s_need_condition) (defBody s_need_condition) (defScope s_need_condition) .none kV_need_condition dc_need_condition pm_need_condition an_need_condition cd_need_condition ct_need_condition), sl_need_condition⟩)
    (c_need_condition : PySem.W.codeIn K cd_need_condition "need_condition" = true)
    (k_need_condition : PySem.W.keepIn K (.ref f_need_condition) = true)
    (a_check_condition : PySem.W.nsIn K mainGlobals "check_condition" = some (some (.ref f_check_condition)))
    (l_check_condition : K.lookup f_check_condition = some ⟨oc_check_condition, od_check_condition, .func (PySem.W.fnOf "check_condition" "check_condition" (defArgs s_check_condition) (defBody s_check_condition) (defScope s_check_condition) .none kV_check_condition dc_check_condition pm_check_condition an_check_condition cd_check_condition ct_check_condition), sl_check_condition⟩)
    (c_check_condition : PySem.W.codeIn K cd_check_condition "check_condition" = true)
    (k_check_condition : PySem.W.keepIn K (.ref f_check_condition) = true)
    (a_met : PySem.W.nsIn K mainGlobals "met" = some (some (.ref f_met)))
    (l_met : K.lookup f_met = some ⟨oc_met, od_met, .func (PySem.W.fnOf "met" "met" (defArgs s_met) (defBody s_met) (defScope s_met) .none kV_met dc_met pm_met an_met cd_met ct_met), sl_met⟩)
    (c_met : PySem.W.codeIn K cd_met "met" = true)
    (k_met : PySem.W.keepIn K (.ref f_met) = true)
    (a_holds : PySem.W.nsIn K mainGlobals "holds" = some (some (.ref f_holds)))
    (l_holds : K.lookup f_holds = some ⟨oc_holds, od_holds, .func (PySem.W.fnOf "holds" "holds" (defArgs s_holds) (defBody s_holds) (defScope s_holds) .none kV_holds dc_holds pm_holds an_holds cd_holds ct_holds), sl_holds⟩)
    (c_holds : PySem.W.codeIn K cd_holds "holds" = true)
    (k_holds : PySem.W.keepIn K (.ref f_holds) = true)
    (a__law_opened : PySem.W.nsIn K mainGlobals "_law_opened" = some (some (.ref f__law_opened)))
    (l__law_opened : K.lookup f__law_opened = some ⟨oc__law_opened, od__law_opened, .func (PySem.W.fnOf "_law_opened" "_law_opened" (defArgs s__law_opened) (defBody s__law_opened) (defScope s__law_opened) .none kV__law_opened dc__law_opened pm__law_opened an__law_opened cd__law_opened ct__law_opened), sl__law_opened⟩)
    (c__law_opened : PySem.W.codeIn K cd__law_opened "_law_opened" = true)
    (k__law_opened : PySem.W.keepIn K (.ref f__law_opened) = true)
    (a__law_pull : PySem.W.nsIn K mainGlobals "_law_pull" = some (some (.ref f__law_pull)))
    (l__law_pull : K.lookup f__law_pull = some ⟨oc__law_pull, od__law_pull, .func (PySem.W.fnOf "_law_pull" "_law_pull" (defArgs s__law_pull) (defBody s__law_pull) (defScope s__law_pull) .none kV__law_pull dc__law_pull pm__law_pull an__law_pull cd__law_pull ct__law_pull), sl__law_pull⟩)
    (c__law_pull : PySem.W.codeIn K cd__law_pull "_law_pull" = true)
    (k__law_pull : PySem.W.keepIn K (.ref f__law_pull) = true)
    (a__law_any : PySem.W.nsIn K mainGlobals "_law_any" = some (some (.ref f__law_any)))
    (l__law_any : K.lookup f__law_any = some ⟨oc__law_any, od__law_any, .func (PySem.W.fnOf "_law_any" "_law_any" (defArgs s__law_any) (defBody s__law_any) (defScope s__law_any) .none kV__law_any dc__law_any pm__law_any an__law_any cd__law_any ct__law_any), sl__law_any⟩)
    (c__law_any : PySem.W.codeIn K cd__law_any "_law_any" = true)
    (k__law_any : PySem.W.keepIn K (.ref f__law_any) = true)
    (a__law_like : PySem.W.nsIn K mainGlobals "_law_like" = some (some (.ref f__law_like)))
    (l__law_like : K.lookup f__law_like = some ⟨oc__law_like, od__law_like, .func (PySem.W.fnOf "_law_like" "_law_like" (defArgs s__law_like) (defBody s__law_like) (defScope s__law_like) .none kV__law_like dc__law_like pm__law_like an__law_like cd__law_like ct__law_like), sl__law_like⟩)
    (c__law_like : PySem.W.codeIn K cd__law_like "_law_like" = true)
    (k__law_like : PySem.W.keepIn K (.ref f__law_like) = true)
    (a__law_stems : PySem.W.nsIn K mainGlobals "_law_stems" = some (some (.ref f__law_stems)))
    (l__law_stems : K.lookup f__law_stems = some ⟨oc__law_stems, od__law_stems, .func (PySem.W.fnOf "_law_stems" "_law_stems" (defArgs s__law_stems) (defBody s__law_stems) (defScope s__law_stems) .none kV__law_stems dc__law_stems pm__law_stems an__law_stems cd__law_stems ct__law_stems), sl__law_stems⟩)
    (c__law_stems : PySem.W.codeIn K cd__law_stems "_law_stems" = true)
    (k__law_stems : PySem.W.keepIn K (.ref f__law_stems) = true)
    (a__law_words : PySem.W.nsIn K mainGlobals "_law_words" = some (some (.ref f__law_words)))
    (l__law_words : K.lookup f__law_words = some ⟨oc__law_words, od__law_words, .func (PySem.W.fnOf "_law_words" "_law_words" (defArgs s__law_words) (defBody s__law_words) (defScope s__law_words) .none kV__law_words dc__law_words pm__law_words an__law_words cd__law_words ct__law_words), sl__law_words⟩)
    (c__law_words : PySem.W.codeIn K cd__law_words "_law_words" = true)
    (k__law_words : PySem.W.keepIn K (.ref f__law_words) = true)
    (a__law_ground : PySem.W.nsIn K mainGlobals "_law_ground" = some (some (.ref f__law_ground)))
    (l__law_ground : K.lookup f__law_ground = some ⟨oc__law_ground, od__law_ground, .func (PySem.W.fnOf "_law_ground" "_law_ground" (defArgs s__law_ground) (defBody s__law_ground) (defScope s__law_ground) .none kV__law_ground dc__law_ground pm__law_ground an__law_ground cd__law_ground ct__law_ground), sl__law_ground⟩)
    (c__law_ground : PySem.W.codeIn K cd__law_ground "_law_ground" = true)
    (k__law_ground : PySem.W.keepIn K (.ref f__law_ground) = true)
    (a__law_shape : PySem.W.nsIn K mainGlobals "_law_shape" = some (some (.ref f__law_shape)))
    (l__law_shape : K.lookup f__law_shape = some ⟨oc__law_shape, od__law_shape, .func (PySem.W.fnOf "_law_shape" "_law_shape" (defArgs s__law_shape) (defBody s__law_shape) (defScope s__law_shape) .none kV__law_shape dc__law_shape pm__law_shape an__law_shape cd__law_shape ct__law_shape), sl__law_shape⟩)
    (c__law_shape : PySem.W.codeIn K cd__law_shape "_law_shape" = true)
    (k__law_shape : PySem.W.keepIn K (.ref f__law_shape) = true)
    (a__law_columns : PySem.W.nsIn K mainGlobals "_law_columns" = some (some (.ref f__law_columns)))
    (l__law_columns : K.lookup f__law_columns = some ⟨oc__law_columns, od__law_columns, .func (PySem.W.fnOf "_law_columns" "_law_columns" (defArgs s__law_columns) (defBody s__law_columns) (defScope s__law_columns) .none kV__law_columns dc__law_columns pm__law_columns an__law_columns cd__law_columns ct__law_columns), sl__law_columns⟩)
    (c__law_columns : PySem.W.codeIn K cd__law_columns "_law_columns" = true)
    (k__law_columns : PySem.W.keepIn K (.ref f__law_columns) = true)
    (a__law_row : PySem.W.nsIn K mainGlobals "_law_row" = some (some (.ref f__law_row)))
    (l__law_row : K.lookup f__law_row = some ⟨oc__law_row, od__law_row, .func (PySem.W.fnOf "_law_row" "_law_row" (defArgs s__law_row) (defBody s__law_row) (defScope s__law_row) .none kV__law_row dc__law_row pm__law_row an__law_row cd__law_row ct__law_row), sl__law_row⟩)
    (c__law_row : PySem.W.codeIn K cd__law_row "_law_row" = true)
    (k__law_row : PySem.W.keepIn K (.ref f__law_row) = true)
    (a__law_cond : PySem.W.nsIn K mainGlobals "_law_cond" = some (some (.ref f__law_cond)))
    (l__law_cond : K.lookup f__law_cond = some ⟨oc__law_cond, od__law_cond, .func (PySem.W.fnOf "_law_cond" "_law_cond" (defArgs s__law_cond) (defBody s__law_cond) (defScope s__law_cond) .none kV__law_cond dc__law_cond pm__law_cond an__law_cond cd__law_cond ct__law_cond), sl__law_cond⟩)
    (c__law_cond : PySem.W.codeIn K cd__law_cond "_law_cond" = true)
    (k__law_cond : PySem.W.keepIn K (.ref f__law_cond) = true)
    (a__law_sheet : PySem.W.nsIn K mainGlobals "_law_sheet" = some (some (.ref f__law_sheet)))
    (l__law_sheet : K.lookup f__law_sheet = some ⟨oc__law_sheet, od__law_sheet, .func (PySem.W.fnOf "_law_sheet" "_law_sheet" (defArgs s__law_sheet) (defBody s__law_sheet) (defScope s__law_sheet) .none kV__law_sheet dc__law_sheet pm__law_sheet an__law_sheet cd__law_sheet ct__law_sheet), sl__law_sheet⟩)
    (c__law_sheet : PySem.W.codeIn K cd__law_sheet "_law_sheet" = true)
    (k__law_sheet : PySem.W.keepIn K (.ref f__law_sheet) = true)
    (a__law_met : PySem.W.nsIn K mainGlobals "_law_met" = some (some (.ref f__law_met)))
    (l__law_met : K.lookup f__law_met = some ⟨oc__law_met, od__law_met, .func (PySem.W.fnOf "_law_met" "_law_met" (defArgs s__law_met) (defBody s__law_met) (defScope s__law_met) .none kV__law_met dc__law_met pm__law_met an__law_met cd__law_met ct__law_met), sl__law_met⟩)
    (c__law_met : PySem.W.codeIn K cd__law_met "_law_met" = true)
    (k__law_met : PySem.W.keepIn K (.ref f__law_met) = true)
    (a_law : PySem.W.nsIn K mainGlobals "law" = some (some (.ref f_law)))
    (l_law : K.lookup f_law = some ⟨oc_law, od_law, .func (PySem.W.fnOf "law" "law" (defArgs s_law) (defBody s_law) (defScope s_law) .none kV_law dc_law pm_law an_law cd_law ct_law), sl_law⟩)
    (c_law : PySem.W.codeIn K cd_law "law" = true)
    (k_law : PySem.W.keepIn K (.ref f_law) = true)
    (pg_Shape : PySem.W.plainGet K C_Shape Str.empty = true)
    (hd_Shape : PySem.W.hasDictIn K C_Shape = true)
    (po_Shape : PySem.W.plainOver K C_Shape = true)
    (sa_Shape : PySem.W.findIn K (.ref C_Shape) "__setattr__" = some (some (.builtin "object.__setattr__")))
    (kc_Shape : PySem.W.keepIn K (.ref C_Shape) = true)
    (na_Shape_own_fields : PySem.W.findIn K (.ref C_Shape) "own_fields" = some none)
    (na_Shape_own_sources : PySem.W.findIn K (.ref C_Shape) "own_sources" = some none)
    (mk_Shape : PySem.W.makesIn K C_Shape = true)
    (rd_Shape : PySem.W.readsIn K C_Shape (.type "type") = true)
    (ga_Shape : PySem.W.specialIn K (.ref C_Shape) "__getattribute__" = some (some (.builtin "type.__getattribute__")))
    (cv_Shape_FIELDS : PySem.W.findCls K (.ref C_Shape) (.type "type") "FIELDS" = some (.val (.int 5 cv_Shape_FIELDS_t)))
    (cv_Shape_SOURCES : PySem.W.findCls K (.ref C_Shape) (.type "type") "SOURCES" = some (.val (.int 5 cv_Shape_SOURCES_t)))
    : ∃ fd : FuncData, (∀ (s : Shared) (v : Value), BindsTo s fd ⟨[v], []⟩ [("_law_script", v)]) ∧ ∀ base : Heap, K.In base → base.Ns mainGlobals mg → FnOk l.prog w K mg base (L2.CX l.prog w) 17 fa fd ["_law_script"] (liftSp K spL) := by
  have e := hfa.symm.trans (PySem.W.mg_of X G a_law)
  cases e
  have F_is_number := fun_mk (st := s_is_number) l_is_number c_is_number k_is_number
  have b_is_number := F_is_number.binds (ps := P_is_number) fun _ _ _ _ _ _ us hl => match us, hl with | [_], _ => rfl
  have F_is_listed := fun_mk (st := s_is_listed) l_is_listed c_is_listed k_is_listed
  have b_is_listed := F_is_listed.binds (ps := P_is_listed) fun _ _ _ _ _ _ us hl => match us, hl with | [_], _ => rfl
  have F_is_made_of := fun_mk (st := s_is_made_of) l_is_made_of c_is_made_of k_is_made_of
  have b_is_made_of := F_is_made_of.binds (ps := P_is_made_of) fun _ _ _ _ _ _ us hl => match us, hl with | [_, _, _], _ => rfl
  have F_is_plain_name := fun_mk (st := s_is_plain_name) l_is_plain_name c_is_plain_name k_is_plain_name
  have b_is_plain_name := F_is_plain_name.binds (ps := P_is_plain_name) fun _ _ _ _ _ _ us hl => match us, hl with | [_], _ => rfl
  have F_is_plain_word := fun_mk (st := s_is_plain_word) l_is_plain_word c_is_plain_word k_is_plain_word
  have b_is_plain_word := F_is_plain_word.binds (ps := P_is_plain_word) fun _ _ _ _ _ _ us hl => match us, hl with | [_], _ => rfl
  have F_unlike := fun_mk (st := s_unlike) l_unlike c_unlike k_unlike
  have b_unlike := F_unlike.binds (ps := P_unlike) fun _ _ _ _ _ _ us hl => match us, hl with | [_], _ => rfl
  have F_are_names := fun_mk (st := s_are_names) l_are_names c_are_names k_are_names
  have b_are_names := F_are_names.binds (ps := P_are_names) fun _ _ _ _ _ _ us hl => match us, hl with | [_, _], _ => rfl
  have F_Shape___init__ := fun_mk (st := s_Shape___init__) l_Shape___init__ c_Shape___init__ k_Shape___init__
  have b_Shape___init__ := F_Shape___init__.binds (ps := P_Shape___init__) fun _ _ _ _ _ _ us hl => match us, hl with | [_, _, _], _ => rfl
  have F_Shape_fields := fun_mk (st := s_Shape_fields) l_Shape_fields c_Shape_fields k_Shape_fields
  have b_Shape_fields := F_Shape_fields.binds (ps := P_Shape_fields) fun _ _ _ _ _ _ us hl => match us, hl with | [_], _ => rfl
  have F_Shape_sources := fun_mk (st := s_Shape_sources) l_Shape_sources c_Shape_sources k_Shape_sources
  have b_Shape_sources := F_Shape_sources.binds (ps := P_Shape_sources) fun _ _ _ _ _ _ us hl => match us, hl with | [_], _ => rfl
  have F_Shape_columns := fun_mk (st := s_Shape_columns) l_Shape_columns c_Shape_columns k_Shape_columns
  have b_Shape_columns := F_Shape_columns.binds (ps := P_Shape_columns) fun _ _ _ _ _ _ us hl => match us, hl with | [_], _ => rfl
  have F_Shape_is_row := fun_mk (st := s_Shape_is_row) l_Shape_is_row c_Shape_is_row k_Shape_is_row
  have b_Shape_is_row := F_Shape_is_row.binds (ps := P_Shape_is_row) fun _ _ _ _ _ _ us hl => match us, hl with | [_, _], _ => rfl
  have F_Shape_need_row := fun_mk (st := s_Shape_need_row) l_Shape_need_row c_Shape_need_row k_Shape_need_row
  have b_Shape_need_row := F_Shape_need_row.binds (ps := P_Shape_need_row) fun _ _ _ _ _ _ us hl => match us, hl with | [_, _], _ => rfl
  have F_Shape_sheet := fun_mk (st := s_Shape_sheet) l_Shape_sheet c_Shape_sheet k_Shape_sheet
  have b_Shape_sheet := F_Shape_sheet.binds (ps := P_Shape_sheet) fun _ _ _ _ _ _ us hl => match us, hl with | [_, _], _ => rfl
  have F_head := fun_mk (st := s_head) l_head c_head k_head
  have b_head := F_head.binds (ps := P_head) fun _ _ _ _ _ _ us hl => match us, hl with | [_, _], _ => rfl
  have F_is_field := fun_mk (st := s_is_field) l_is_field c_is_field k_is_field
  have b_is_field := F_is_field.binds (ps := P_is_field) fun _ _ _ _ _ _ us hl => match us, hl with | [_, _], _ => rfl
  have F_is_simple := fun_mk (st := s_is_simple) l_is_simple c_is_simple k_is_simple
  have b_is_simple := F_is_simple.binds (ps := P_is_simple) fun _ _ _ _ _ _ us hl => match us, hl with | [_, _, _], _ => rfl
  have F_need_condition := fun_mk (st := s_need_condition) l_need_condition c_need_condition k_need_condition
  have b_need_condition := F_need_condition.binds (ps := P_need_condition) fun _ _ _ _ _ _ us hl => match us, hl with | [_, _, _, _], _ => rfl
  have F_check_condition := fun_mk (st := s_check_condition) l_check_condition c_check_condition k_check_condition
  have b_check_condition := F_check_condition.binds (ps := P_check_condition) fun _ _ _ _ _ _ us hl => match us, hl with | [_, _], _ => rfl
  have F_met := fun_mk (st := s_met) l_met c_met k_met
  have b_met := F_met.binds (ps := P_met) fun _ _ _ _ _ _ us hl => match us, hl with | [_, _], _ => rfl
  have F_holds := fun_mk (st := s_holds) l_holds c_holds k_holds
  have b_holds := F_holds.binds (ps := P_holds) fun _ _ _ _ _ _ us hl => match us, hl with | [_, _, _], _ => rfl
  have F__law_opened := fun_mk (st := s__law_opened) l__law_opened c__law_opened k__law_opened
  have b__law_opened := F__law_opened.binds (ps := P__law_opened) fun _ _ _ _ _ _ us hl => match us, hl with | [_], _ => rfl
  have F__law_pull := fun_mk (st := s__law_pull) l__law_pull c__law_pull k__law_pull
  have b__law_pull := F__law_pull.binds (ps := P__law_pull) fun _ _ _ _ _ _ us hl => match us, hl with | [_, _], _ => rfl
  have F__law_any := fun_mk (st := s__law_any) l__law_any c__law_any k__law_any
  have b__law_any := F__law_any.binds (ps := P__law_any) fun _ _ _ _ _ _ us hl => match us, hl with | [_, _], _ => rfl
  have F__law_like := fun_mk (st := s__law_like) l__law_like c__law_like k__law_like
  have b__law_like := F__law_like.binds (ps := P__law_like) fun _ _ _ _ _ _ us hl => match us, hl with | [_, _], _ => rfl
  have F__law_stems := fun_mk (st := s__law_stems) l__law_stems c__law_stems k__law_stems
  have b__law_stems := F__law_stems.binds (ps := P__law_stems) fun _ _ _ _ _ _ us hl => match us, hl with | [_, _, _], _ => rfl
  have F__law_words := fun_mk (st := s__law_words) l__law_words c__law_words k__law_words
  have b__law_words := F__law_words.binds (ps := P__law_words) fun _ _ _ _ _ _ us hl => match us, hl with | [_, _], _ => rfl
  have F__law_ground := fun_mk (st := s__law_ground) l__law_ground c__law_ground k__law_ground
  have b__law_ground := F__law_ground.binds (ps := P__law_ground) fun _ _ _ _ _ _ us hl => match us, hl with | [_, _, _], _ => rfl
  have F__law_shape := fun_mk (st := s__law_shape) l__law_shape c__law_shape k__law_shape
  have b__law_shape := F__law_shape.binds (ps := P__law_shape) fun _ _ _ _ _ _ us hl => match us, hl with | [_], _ => rfl
  have F__law_columns := fun_mk (st := s__law_columns) l__law_columns c__law_columns k__law_columns
  have b__law_columns := F__law_columns.binds (ps := P__law_columns) fun _ _ _ _ _ _ us hl => match us, hl with | [_], _ => rfl
  have F__law_row := fun_mk (st := s__law_row) l__law_row c__law_row k__law_row
  have b__law_row := F__law_row.binds (ps := P__law_row) fun _ _ _ _ _ _ us hl => match us, hl with | [_, _, _], _ => rfl
  have F__law_cond := fun_mk (st := s__law_cond) l__law_cond c__law_cond k__law_cond
  have b__law_cond := F__law_cond.binds (ps := P__law_cond) fun _ _ _ _ _ _ us hl => match us, hl with | [_, _, _, _], _ => rfl
  have F__law_sheet := fun_mk (st := s__law_sheet) l__law_sheet c__law_sheet k__law_sheet
  have b__law_sheet := F__law_sheet.binds (ps := P__law_sheet) fun _ _ _ _ _ _ us hl => match us, hl with | [_, _], _ => rfl
  have F__law_met := fun_mk (st := s__law_met) l__law_met c__law_met k__law_met
  have b__law_met := F__law_met.binds (ps := P__law_met) fun _ _ _ _ _ _ us hl => match us, hl with | [_, _], _ => rfl
  have F_law := fun_mk (st := s_law) l_law c_law k_law
  have b_law := F_law.binds (ps := P_law) fun _ _ _ _ _ _ us hl => match us, hl with | [_], _ => rfl
  let A : Ad := ⟨f_is_number, f_is_listed, f_is_made_of, f_is_plain_name, f_is_plain_word, f_unlike, f_are_names, f_Shape___init__, f_Shape_fields, f_Shape_sources, f_Shape_columns, f_Shape_is_row, f_Shape_need_row, f_Shape_sheet, f_head, f_is_field, f_is_simple, f_need_condition, f_check_condition, f_met, f_holds, f__law_opened, f__law_pull, f__law_any, f__law_like, f__law_stems, f__law_words, f__law_ground, f__law_shape, f__law_columns, f__law_row, f__law_cond, f__law_sheet, f__law_met, fa, C_Shape, q_Shape_fields, q_Shape_sources, q_Shape_columns⟩
  have T : Txt K mg A := ⟨PySem.W.mg_none_of X G zn_all,
    PySem.W.mg_none_of X G zn_any,
    PySem.W.mg_none_of X G zn_bool,
    PySem.W.mg_none_of X G zn_dict,
    PySem.W.mg_none_of X G zn_int,
    PySem.W.mg_none_of X G zn_isinstance,
    PySem.W.mg_none_of X G zn_len,
    PySem.W.mg_none_of X G zn_list,
    PySem.W.mg_none_of X G zn_range,
    PySem.W.mg_none_of X G zn_set,
    PySem.W.mg_none_of X G zn_str,
    PySem.W.mg_none_of X G zn_tuple,
    PySem.W.mg_none_of X G zn_zip,
    ⟨_, .str "0123456789", PySem.W.mg_of X G k_DIGITS, ⟨_, rfl⟩, fun _ _ => rfl⟩,
    ⟨_, .str "abcdefghijklmnopqrstuvwxyz", PySem.W.mg_of X G k_LETTERS, ⟨_, rfl⟩, fun _ _ => rfl⟩,
    ⟨_, .int 8, PySem.W.mg_of X G k_MAX_WORD, ⟨_, rfl⟩, fun _ _ => rfl⟩,
    ⟨_, .ref t_OWN_COLUMNS, PySem.W.mg_of X G k_OWN_COLUMNS, rfl, fun H M => ⟨t_OWN_COLUMNS, [.str "moment", .str "source"], rfl, .inr ⟨_, _, _, l_OWN_COLUMNS, rfl, rfl, (by show 2 ≤ sizeLine; decide +kernel), .cons ⟨_, rfl⟩ (.cons ⟨_, rfl⟩ (.nil))⟩, ⟨_, _, rfl, rfl, ⟨_, _, rfl, rfl, rfl⟩⟩⟩⟩,
    PySem.W.mg_of X G a_is_number,
    ⟨_, F_is_number, b_is_number⟩,
    PySem.W.mg_of X G a_is_listed,
    ⟨_, F_is_listed, b_is_listed⟩,
    PySem.W.mg_of X G a_is_made_of,
    ⟨_, F_is_made_of, b_is_made_of⟩,
    PySem.W.mg_of X G a_is_plain_name,
    ⟨_, F_is_plain_name, b_is_plain_name⟩,
    PySem.W.mg_of X G a_is_plain_word,
    ⟨_, F_is_plain_word, b_is_plain_word⟩,
    PySem.W.mg_of X G a_unlike,
    ⟨_, F_unlike, b_unlike⟩,
    PySem.W.mg_of X G a_are_names,
    ⟨_, F_are_names, b_are_names⟩,
    ⟨_, F_Shape___init__, b_Shape___init__⟩,
    ⟨_, F_Shape_fields, b_Shape_fields⟩,
    ⟨_, F_Shape_sources, b_Shape_sources⟩,
    ⟨_, F_Shape_columns, b_Shape_columns⟩,
    ⟨_, F_Shape_is_row, b_Shape_is_row⟩,
    ⟨_, F_Shape_need_row, b_Shape_need_row⟩,
    ⟨_, F_Shape_sheet, b_Shape_sheet⟩,
    PySem.W.mg_of X G a_head,
    ⟨_, F_head, b_head⟩,
    PySem.W.mg_of X G a_is_field,
    ⟨_, F_is_field, b_is_field⟩,
    PySem.W.mg_of X G a_is_simple,
    ⟨_, F_is_simple, b_is_simple⟩,
    PySem.W.mg_of X G a_need_condition,
    ⟨_, F_need_condition, b_need_condition⟩,
    PySem.W.mg_of X G a_check_condition,
    ⟨_, F_check_condition, b_check_condition⟩,
    PySem.W.mg_of X G a_met,
    ⟨_, F_met, b_met⟩,
    PySem.W.mg_of X G a_holds,
    ⟨_, F_holds, b_holds⟩,
    PySem.W.mg_of X G a__law_opened,
    ⟨_, F__law_opened, b__law_opened⟩,
    PySem.W.mg_of X G a__law_pull,
    ⟨_, F__law_pull, b__law_pull⟩,
    PySem.W.mg_of X G a__law_any,
    ⟨_, F__law_any, b__law_any⟩,
    PySem.W.mg_of X G a__law_like,
    ⟨_, F__law_like, b__law_like⟩,
    PySem.W.mg_of X G a__law_stems,
    ⟨_, F__law_stems, b__law_stems⟩,
    PySem.W.mg_of X G a__law_words,
    ⟨_, F__law_words, b__law_words⟩,
    PySem.W.mg_of X G a__law_ground,
    ⟨_, F__law_ground, b__law_ground⟩,
    PySem.W.mg_of X G a__law_shape,
    ⟨_, F__law_shape, b__law_shape⟩,
    PySem.W.mg_of X G a__law_columns,
    ⟨_, F__law_columns, b__law_columns⟩,
    PySem.W.mg_of X G a__law_row,
    ⟨_, F__law_row, b__law_row⟩,
    PySem.W.mg_of X G a__law_cond,
    ⟨_, F__law_cond, b__law_cond⟩,
    PySem.W.mg_of X G a__law_sheet,
    ⟨_, F__law_sheet, b__law_sheet⟩,
    PySem.W.mg_of X G a__law_met,
    ⟨_, F__law_met, b__law_met⟩,
    PySem.W.mg_of X G a_law,
    ⟨_, F_law, b_law⟩,
    PySem.W.mg_of X G g_Shape,
    ⟨pg_Shape, hd_Shape, po_Shape, sa_Shape⟩,
    na_Shape_own_fields,
    na_Shape_own_sources,
    ⟨mk_Shape, a_Shape___init__, i_Shape___init__, kc_Shape⟩,
    ⟨a_Shape_is_row, i_Shape_is_row, k_Shape_is_row⟩,
    ⟨a_Shape_need_row, i_Shape_need_row, k_Shape_need_row⟩,
    ⟨a_Shape_sheet, i_Shape_sheet, k_Shape_sheet⟩,
    ⟨pa_Shape_fields, pg_Shape_fields, pt_Shape_fields, ⟨_, pr_Shape_fields⟩⟩,
    ⟨pa_Shape_sources, pg_Shape_sources, pt_Shape_sources, ⟨_, pr_Shape_sources⟩⟩,
    ⟨pa_Shape_columns, pg_Shape_columns, pt_Shape_columns, ⟨_, pr_Shape_columns⟩⟩,
    ⟨.type "type", .int 5, _, ⟨rd_Shape, ga_Shape⟩, ⟨cv_Shape_FIELDS, ⟨_, rfl⟩⟩, fun _ _ => rfl⟩,
    ⟨.type "type", .int 5, _, ⟨rd_Shape, ga_Shape⟩, ⟨cv_Shape_SOURCES, ⟨_, rfl⟩⟩, fun _ _ => rfl⟩⟩
  exact ⟨_, fun s v => .of_eq rfl, fun base _ _ => FnOk.mkL F_law sc_law (fun cdv R outer s H E hr tk => bd_law T cdv R outer s H E hr tk) (rd_law A)⟩
theorem hsp_mk {K : PySem.W.Frag} {H : Hp} {a : Addr} {ns : List Int} (ho : Only H) (hS : SqL K H a (ns.map V.int)) : liftSp K spL [.ref a] H (fun v _ => v = .bl true) (fun _ _ _ => False) := by
  refine ⟨[.scr ns], fun _ => none, fun _ => none, fun d _ => d = .bl true, fun _ _ => False, ⟨fun b o e => ?_, fun b o e => nomatch e⟩, ⟨.ref a, [], rfl, ⟨a, rfl, ?_⟩, rfl⟩, ⟨ns, rfl, rfl⟩, fun v H' d M' _ _ dv q => ?_, fun _ _ _ _ _ _ _ _ z => z⟩
  · cases e
  · rcases hS with (h | h) | h
    · exfalso
      rcases ho a with q | ⟨o, xs, q⟩ <;> rw [h] at q <;> cases q
    · exact .inl h
    · exact .inr h
  · subst q
    exact dv
end DL.K09
open PySem PySem.W PyProof.Rows in
set_option maxRecDepth 100000 in
set_option maxHeartbeats 0 in
theorem PySem.Challenge.cw_mergesight_k09_conditions_hold_holds : PySem.Challenge.rw_mergesight_k09_conditions_hold.Holds := by
  w_on; o_law; k_head; (case hw => w_witness2)
  k_fill
  refine L2.walk_of (l := PySem.Challenge.rw_mergesight_k09_conditions_hold) (n := 63) (k := 17) (x := "_law_script") (CX := fun w => L2.CX (PySem.Challenge.rw_mergesight_k09_conditions_hold).prog w) (sp := fun w => DL.liftSp _ DL.K09.spL) rfl (by decide) rfl ⟨rfl, by decide, by decide⟩ (fun w h Y => PySem.W.kIn_of Y) ?F (fun w H a ns _ hO hS => DL.K09.hsp_mk hO hS) (fun w H s e s' ⟨_, _, _, _, _, _, _, _, _, _, _, _, hE⟩ => hE)
  case F =>
    intro w mg fa h KX G hmg0
    have hmg : mg "law" = some (.ref fa) := hmg0
    clear hmg0
    refine' DL.K09.all_mk KX G hmg ?g_Shape ?zn_all ?zn_any ?zn_bool ?zn_dict ?zn_int ?zn_isinstance ?zn_len ?zn_list ?zn_range ?zn_set ?zn_str ?zn_tuple ?zn_zip ?k_DIGITS ?k_LETTERS ?k_MAX_WORD ?k_OWN_COLUMNS ?l_OWN_COLUMNS ?a_is_number ?l_is_number ?c_is_number ?k_is_number ?a_is_listed ?l_is_listed ?c_is_listed ?k_is_listed ?a_is_made_of ?l_is_made_of ?c_is_made_of ?k_is_made_of ?a_is_plain_name ?l_is_plain_name ?c_is_plain_name ?k_is_plain_name ?a_is_plain_word ?l_is_plain_word ?c_is_plain_word ?k_is_plain_word ?a_unlike ?l_unlike ?c_unlike ?k_unlike ?a_are_names ?l_are_names ?c_are_names ?k_are_names ?a_Shape___init__ ?i_Shape___init__ ?l_Shape___init__ ?c_Shape___init__ ?k_Shape___init__ ?pa_Shape_fields ?pg_Shape_fields ?pt_Shape_fields ?pr_Shape_fields ?l_Shape_fields ?c_Shape_fields ?k_Shape_fields ?pa_Shape_sources ?pg_Shape_sources ?pt_Shape_sources ?pr_Shape_sources ?l_Shape_sources ?c_Shape_sources ?k_Shape_sources ?pa_Shape_columns ?pg_Shape_columns ?pt_Shape_columns ?pr_Shape_columns ?l_Shape_columns ?c_Shape_columns ?k_Shape_columns ?a_Shape_is_row ?i_Shape_is_row ?l_Shape_is_row ?c_Shape_is_row ?k_Shape_is_row ?a_Shape_need_row ?i_Shape_need_row ?l_Shape_need_row ?c_Shape_need_row ?k_Shape_need_row ?a_Shape_sheet ?i_Shape_sheet ?l_Shape_sheet ?c_Shape_sheet ?k_Shape_sheet ?a_head ?l_head ?c_head ?k_head ?a_is_field ?l_is_field ?c_is_field ?k_is_field ?a_is_simple ?l_is_simple ?c_is_simple ?k_is_simple ?a_need_condition ?l_need_condition ?c_need_condition ?k_need_condition ?a_check_condition ?l_check_condition ?c_check_condition ?k_check_condition ?a_met ?l_met ?c_met ?k_met ?a_holds ?l_holds ?c_holds ?k_holds ?a__law_opened ?l__law_opened ?c__law_opened ?k__law_opened ?a__law_pull ?l__law_pull ?c__law_pull ?k__law_pull ?a__law_any ?l__law_any ?c__law_any ?k__law_any ?a__law_like ?l__law_like ?c__law_like ?k__law_like ?a__law_stems ?l__law_stems ?c__law_stems ?k__law_stems ?a__law_words ?l__law_words ?c__law_words ?k__law_words ?a__law_ground ?l__law_ground ?c__law_ground ?k__law_ground ?a__law_shape ?l__law_shape ?c__law_shape ?k__law_shape ?a__law_columns ?l__law_columns ?c__law_columns ?k__law_columns ?a__law_row ?l__law_row ?c__law_row ?k__law_row ?a__law_cond ?l__law_cond ?c__law_cond ?k__law_cond ?a__law_sheet ?l__law_sheet ?c__law_sheet ?k__law_sheet ?a__law_met ?l__law_met ?c__law_met ?k__law_met ?a_law ?l_law ?c_law ?k_law ?pg_Shape ?hd_Shape ?po_Shape ?sa_Shape ?kc_Shape ?na_Shape_own_fields ?na_Shape_own_sources ?mk_Shape ?rd_Shape ?ga_Shape ?cv_Shape_FIELDS ?cv_Shape_SOURCES
    (case g_Shape => k_is)
    (case zn_all => k_is)
    (case zn_any => k_is)
    (case zn_bool => k_is)
    (case zn_dict => k_is)
    (case zn_int => k_is)
    (case zn_isinstance => k_is)
    (case zn_len => k_is)
    (case zn_list => k_is)
    (case zn_range => k_is)
    (case zn_set => k_is)
    (case zn_str => k_is)
    (case zn_tuple => k_is)
    (case zn_zip => k_is)
    (case k_DIGITS => k_is)
    (case k_LETTERS => k_is)
    (case k_MAX_WORD => k_is)
    (case k_OWN_COLUMNS => k_is)
    (case l_OWN_COLUMNS => k_is)
    (case a_is_number => k_is)
    (case l_is_number => k_is)
    (case c_is_number => k_is)
    (case k_is_number => k_is)
    (case a_is_listed => k_is)
    (case l_is_listed => k_is)
    (case c_is_listed => k_is)
    (case k_is_listed => k_is)
    (case a_is_made_of => k_is)
    (case l_is_made_of => k_is)
    (case c_is_made_of => k_is)
    (case k_is_made_of => k_is)
    (case a_is_plain_name => k_is)
    (case l_is_plain_name => k_is)
    (case c_is_plain_name => k_is)
    (case k_is_plain_name => k_is)
    (case a_is_plain_word => k_is)
    (case l_is_plain_word => k_is)
    (case c_is_plain_word => k_is)
    (case k_is_plain_word => k_is)
    (case a_unlike => k_is)
    (case l_unlike => k_is)
    (case c_unlike => k_is)
    (case k_unlike => k_is)
    (case a_are_names => k_is)
    (case l_are_names => k_is)
    (case c_are_names => k_is)
    (case k_are_names => k_is)
    (case a_Shape___init__ => k_is)
    (case i_Shape___init__ => k_is)
    (case l_Shape___init__ => k_is)
    (case c_Shape___init__ => k_is)
    (case k_Shape___init__ => k_is)
    (case pa_Shape_fields => k_is)
    (case pg_Shape_fields => k_is)
    (case pt_Shape_fields => k_is)
    (case pr_Shape_fields => k_is)
    (case l_Shape_fields => k_is)
    (case c_Shape_fields => k_is)
    (case k_Shape_fields => k_is)
    (case pa_Shape_sources => k_is)
    (case pg_Shape_sources => k_is)
    (case pt_Shape_sources => k_is)
    (case pr_Shape_sources => k_is)
    (case l_Shape_sources => k_is)
    (case c_Shape_sources => k_is)
    (case k_Shape_sources => k_is)
    (case pa_Shape_columns => k_is)
    (case pg_Shape_columns => k_is)
    (case pt_Shape_columns => k_is)
    (case pr_Shape_columns => k_is)
    (case l_Shape_columns => k_is)
    (case c_Shape_columns => k_is)
    (case k_Shape_columns => k_is)
    (case a_Shape_is_row => k_is)
    (case i_Shape_is_row => k_is)
    (case l_Shape_is_row => k_is)
    (case c_Shape_is_row => k_is)
    (case k_Shape_is_row => k_is)
    (case a_Shape_need_row => k_is)
    (case i_Shape_need_row => k_is)
    (case l_Shape_need_row => k_is)
    (case c_Shape_need_row => k_is)
    (case k_Shape_need_row => k_is)
    (case a_Shape_sheet => k_is)
    (case i_Shape_sheet => k_is)
    (case l_Shape_sheet => k_is)
    (case c_Shape_sheet => k_is)
    (case k_Shape_sheet => k_is)
    (case a_head => k_is)
    (case l_head => k_is)
    (case c_head => k_is)
    (case k_head => k_is)
    (case a_is_field => k_is)
    (case l_is_field => k_is)
    (case c_is_field => k_is)
    (case k_is_field => k_is)
    (case a_is_simple => k_is)
    (case l_is_simple => k_is)
    (case c_is_simple => k_is)
    (case k_is_simple => k_is)
    (case a_need_condition => k_is)
    (case l_need_condition => k_is)
    (case c_need_condition => k_is)
    (case k_need_condition => k_is)
    (case a_check_condition => k_is)
    (case l_check_condition => k_is)
    (case c_check_condition => k_is)
    (case k_check_condition => k_is)
    (case a_met => k_is)
    (case l_met => k_is)
    (case c_met => k_is)
    (case k_met => k_is)
    (case a_holds => k_is)
    (case l_holds => k_is)
    (case c_holds => k_is)
    (case k_holds => k_is)
    (case a__law_opened => k_is)
    (case l__law_opened => k_is)
    (case c__law_opened => k_is)
    (case k__law_opened => k_is)
    (case a__law_pull => k_is)
    (case l__law_pull => k_is)
    (case c__law_pull => k_is)
    (case k__law_pull => k_is)
    (case a__law_any => k_is)
    (case l__law_any => k_is)
    (case c__law_any => k_is)
    (case k__law_any => k_is)
    (case a__law_like => k_is)
    (case l__law_like => k_is)
    (case c__law_like => k_is)
    (case k__law_like => k_is)
    (case a__law_stems => k_is)
    (case l__law_stems => k_is)
    (case c__law_stems => k_is)
    (case k__law_stems => k_is)
    (case a__law_words => k_is)
    (case l__law_words => k_is)
    (case c__law_words => k_is)
    (case k__law_words => k_is)
    (case a__law_ground => k_is)
    (case l__law_ground => k_is)
    (case c__law_ground => k_is)
    (case k__law_ground => k_is)
    (case a__law_shape => k_is)
    (case l__law_shape => k_is)
    (case c__law_shape => k_is)
    (case k__law_shape => k_is)
    (case a__law_columns => k_is)
    (case l__law_columns => k_is)
    (case c__law_columns => k_is)
    (case k__law_columns => k_is)
    (case a__law_row => k_is)
    (case l__law_row => k_is)
    (case c__law_row => k_is)
    (case k__law_row => k_is)
    (case a__law_cond => k_is)
    (case l__law_cond => k_is)
    (case c__law_cond => k_is)
    (case k__law_cond => k_is)
    (case a__law_sheet => k_is)
    (case l__law_sheet => k_is)
    (case c__law_sheet => k_is)
    (case k__law_sheet => k_is)
    (case a__law_met => k_is)
    (case l__law_met => k_is)
    (case c__law_met => k_is)
    (case k__law_met => k_is)
    (case a_law => k_is)
    (case l_law => k_is)
    (case c_law => k_is)
    (case k_law => k_is)
    (case pg_Shape => k_is)
    (case hd_Shape => k_is)
    (case po_Shape => k_is)
    (case sa_Shape => k_is)
    (case kc_Shape => k_is)
    (case na_Shape_own_fields => k_is)
    (case na_Shape_own_sources => k_is)
    (case mk_Shape => k_is)
    (case rd_Shape => k_is)
    (case ga_Shape => k_is)
    (case cv_Shape_FIELDS => k_is)
    (case cv_Shape_SOURCES => k_is)
