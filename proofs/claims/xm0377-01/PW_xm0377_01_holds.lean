import PyProof.Rows.All
import Wide.All
import OpenK.AllK
import Wide.FinOn
import PySem.Challenge.RW_xm0377_01
set_option Elab.async false
set_option maxRecDepth 100000
set_option maxHeartbeats 8000000
set_option genInjectivity false
set_option genSizeOf false
set_option linter.all false
namespace Mine
open PySem PySem.W PySem.Calls PyProof.Rows

inductive D where
  | none | bool (b : Bool) | int (i : Int) | str (s : Str)
  | tup (l : List D) | lst (l : List D)
  | obj (c : Nat) (ks : List Nat) (vs : List D)
  deriving Inhabited
inductive V where
  | d (x : D) | ref (n : Nat) | tup (l : List V)
  deriving Inhabited
inductive MObj where
  | lst (l : List D)
  | obj (c : Nat) (ks : List Nat) (vs : List V)
noncomputable abbrev Sto := List MObj
noncomputable abbrev G := Addr → Option Obj
noncomputable abbrev Rho := List (Addr × Addr)

inductive Fz (an : Nat → Str) (P : Params) {α : Type} (R : α → Value → Prop) : List Nat → List α → List DictEntry → Prop
  | nil : Fz an P R [] [] []
  | cons {k d e ks ds es} : (∃ t, e.key = .str (an k) t) → e.hash = PyData.keyHash P (an k) → R d e.val → Fz an P R ks ds es → Fz an P R (k :: ks) (d :: ds) (e :: es)
section
variable (an : Nat → Str) (P : Params)

mutual
noncomputable def IsD (g : G) : D → Value → Prop
  | .none, v => v = .none
  | .bool b, v => v = .bool b
  | .int i, v => ∃ t, v = .int i t
  | .str s, v => ∃ t, v = .str s t
  | .tup l, v => ∃ a ep items, v = .ref a ∧ g a = some { cls := .type "tuple", data := .seq items ep } ∧ items.size ≤ sizeLine ∧ IsDs g l items.toList
  | .lst l, v => ∃ a o ep items, v = .ref a ∧ g a = some o ∧ o.cls = .type "list" ∧ o.data = .seq items ep ∧ items.size ≤ sizeLine ∧ IsDs g l items.toList
  | .obj c ks vs, v => ∃ a d od es ep, v = .ref a ∧ g a = some (instObj c d) ∧ g d = some od ∧ od.cls = .type "dict" ∧ od.data = .dict es ep ∧ IsFs g ks vs es.toList
noncomputable def IsDs (g : G) : List D → List Value → Prop
  | [], [] => True
  | d :: ds, v :: vs => IsD g d v ∧ IsDs g ds vs
  | _, _ => False
noncomputable def IsFs (g : G) : List Nat → List D → List DictEntry → Prop
  | [], [], [] => True
  | k :: ks, d :: ds, e :: es => (∃ t, e.key = .str (an k) t) ∧ e.hash = PyData.keyHash P (an k) ∧ IsD g d e.val ∧ IsFs g ks ds es
  | _, _, _ => False
end

mutual
noncomputable def IsV (ρ : Rho) (g : G) : V → Value → Prop
  | .d x, v => IsD an P g x v
  | .ref n, v => ∃ p, ρ[n]? = some p ∧ v = .ref p.1
  | .tup l, v => ∃ a ep items, v = .ref a ∧ g a = some { cls := .type "tuple", data := .seq items ep } ∧ items.size ≤ sizeLine ∧ IsVs ρ g l items.toList
noncomputable def IsVs (ρ : Rho) (g : G) : List V → List Value → Prop
  | [], [] => True
  | d :: ds, v :: vs => IsV ρ g d v ∧ IsVs ρ g ds vs
  | _, _ => False
end

noncomputable def IsMFs (ρ : Rho) (g : G) : List Nat → List V → List DictEntry → Prop := Fz an P (IsV an P ρ g)

noncomputable def MIs (ρ : Rho) (g : G) (h : Heap) (p : Addr × Addr) : MObj → Prop
  | .lst l => p.2 = p.1 ∧ ∃ items, PlainL h p.1 items ∧ items.size ≤ sizeLine ∧ IsDs an P g l items.toList
  | .obj c ks vs => p.1 ≠ p.2 ∧ h.get? p.1 = some (instObj c p.2) ∧ ∃ od es ep, h.get? p.2 = some od ∧ od.cls = .type "dict" ∧ od.data = .dict es ep ∧ IsMFs an P ρ g ks vs es.toList
end

noncomputable def InMut (ρ : Rho) (b : Addr) : Prop := ∃ p ∈ ρ, b = p.1 ∨ b = p.2

structure St (an : Nat → Str) (P : Params) (h₀ : Heap) (g : G) (ρ : Rho) (σ : Sto) (h : Heap) : Prop where
  base : ∀ b o, h₀.get? b = some o → g b = some o
  le : ∀ b o, g b = some o → h.get? b = some o
  off : ∀ b, InMut ρ b → g b = none
  sep : ∀ (i j : Nat) p q, i ≠ j → ρ[i]? = some p → ρ[j]? = some q → p.1 ≠ q.1 ∧ p.1 ≠ q.2 ∧ p.2 ≠ q.1 ∧ p.2 ≠ q.2
  len : ρ.length = σ.length
  obj : ∀ (i : Nat) p m, ρ[i]? = some p → σ[i]? = some m → MIs an P ρ g h p m

structure Ext (W : Addr → Prop) (g : G) (ρ : Rho) (h : Heap) (g' : G) (ρ' : Rho) (h' : Heap) : Prop where
  gle : ∀ b o, g b = some o → g' b = some o
  pre : ∀ (i : Nat) p, ρ[i]? = some p → ρ'[i]? = some p
  keep : ∀ b o, h.get? b = some o → ¬ W b → ¬ InMut ρ b → h'.get? b = some o
  live : ∀ b o, h.get? b = some o → ∃ o', h'.get? b = some o'
  gnew : ∀ b o, g' b = some o → (∃ o', g b = some o') ∨ h.get? b = none
  mnew : ∀ b, InMut ρ' b → InMut ρ b ∨ h.get? b = none

section
variable {an : Nat → Str} {P : Params} {h₀ : Heap} {g g' g'' : G} {ρ ρ' ρ'' : Rho} {σ : Sto} {h h' h'' : Heap} {W W' : Addr → Prop}

mutual
theorem IsD.mono (hg : ∀ b o, g b = some o → g' b = some o) : ∀ (d : D) {v : Value}, IsD an P g d v → IsD an P g' d v
  | .none, _, x => x
  | .bool _, _, x => x
  | .int _, _, x => x
  | .str _, _, x => x
  | .tup l, _, x => by
    obtain ⟨a, ep, items, rfl, h1, h2, h4⟩ := x
    exact ⟨a, ep, items, rfl, hg _ _ h1, h2, IsDs.mono hg l h4⟩
  | .lst l, _, x => by
    obtain ⟨a, o, ep, items, rfl, h1, h2, h3, h5, h4⟩ := x
    exact ⟨a, o, ep, items, rfl, hg _ _ h1, h2, h3, h5, IsDs.mono hg l h4⟩
  | .obj c ks vs, _, x => by
    obtain ⟨a, d, od, es, ep, rfl, h1, h2, h3, h4, h5⟩ := x
    exact ⟨a, d, od, es, ep, rfl, hg _ _ h1, hg _ _ h2, h3, h4, IsFs.mono hg ks vs h5⟩
theorem IsDs.mono (hg : ∀ b o, g b = some o → g' b = some o) : ∀ (l : List D) {vs : List Value}, IsDs an P g l vs → IsDs an P g' l vs
  | [], [], _ => trivial
  | [], _ :: _, x => False.elim x
  | _ :: _, [], x => False.elim x
  | d :: ds, v :: vs, x => by
    exact And.intro (IsD.mono hg d x.1) (IsDs.mono hg ds x.2)
theorem IsFs.mono (hg : ∀ b o, g b = some o → g' b = some o) : ∀ (ks : List Nat) (l : List D) {es : List DictEntry}, IsFs an P g ks l es → IsFs an P g' ks l es
  | [], [], [], _ => trivial
  | [], [], _ :: _, x => False.elim x
  | [], _ :: _, _, x => False.elim x
  | _ :: _, [], _, x => False.elim x
  | _ :: _, _ :: _, [], x => False.elim x
  | k :: ks, d :: ds, e :: es, x => by
    exact ⟨x.1, x.2.1, IsD.mono hg d x.2.2.1, IsFs.mono hg ks ds x.2.2.2⟩
end

mutual
theorem IsV.mono (hg : ∀ b o, g b = some o → g' b = some o) (hr : ∀ (i : Nat) p, ρ[i]? = some p → ρ'[i]? = some p) : ∀ (d : V) {v : Value}, IsV an P ρ g d v → IsV an P ρ' g' d v
  | .d x, _, y => IsD.mono hg x y
  | .ref n, _, y => by
    obtain ⟨p, h1, h2⟩ := y
    exact ⟨p, hr _ _ h1, h2⟩
  | .tup l, _, x => by
    obtain ⟨a, ep, items, rfl, h1, h2, h4⟩ := x
    exact ⟨a, ep, items, rfl, hg _ _ h1, h2, IsVs.mono hg hr l h4⟩
theorem IsVs.mono (hg : ∀ b o, g b = some o → g' b = some o) (hr : ∀ (i : Nat) p, ρ[i]? = some p → ρ'[i]? = some p) : ∀ (l : List V) {vs : List Value}, IsVs an P ρ g l vs → IsVs an P ρ' g' l vs
  | [], [], _ => trivial
  | [], _ :: _, x => False.elim x
  | _ :: _, [], x => False.elim x
  | d :: ds, v :: vs, x => by
    exact And.intro (IsV.mono hg hr d x.1) (IsVs.mono hg hr ds x.2)
end
theorem Fz.imp {α β : Type} {R : α → Value → Prop} {R' : β → Value → Prop} {f : α → β} (hR : ∀ a v, R a v → R' (f a) v) {ks : List Nat} {l : List α} {es : List DictEntry} (h : Fz an P R ks l es) : Fz an P R' ks (l.map f) es := by
  induction h with
  | nil => exact .nil
  | cons h1 h2 h3 _ ih => exact .cons h1 h2 (hR _ _ h3) ih
theorem IsMFs.mono (hg : ∀ b o, g b = some o → g' b = some o) (hr : ∀ (i : Nat) p, ρ[i]? = some p → ρ'[i]? = some p) (ks : List Nat) (l : List V) {es : List DictEntry} (h : IsMFs an P ρ g ks l es) : IsMFs an P ρ' g' ks l es :=
  List.map_id l ▸ Fz.imp (f := id) (fun a v => IsV.mono hg hr a) h
theorem fz_of_fs : ∀ {ks : List Nat} {vs : List D} {es : List DictEntry}, IsFs an P g ks vs es → Fz an P (IsD an P g) ks vs es
  | [], [], [], _ => .nil
  | [], [], _ :: _, x => False.elim x
  | [], _ :: _, _, x => False.elim x
  | _ :: _, [], _, x => False.elim x
  | _ :: _, _ :: _, [], x => False.elim x
  | k :: ks, v :: vs, d :: es, x => .cons x.1 x.2.1 x.2.2.1 (fz_of_fs x.2.2.2)
theorem fs_of_fz {ks : List Nat} {vs : List D} {es : List DictEntry} (h : Fz an P (IsD an P g) ks vs es) : IsFs an P g ks vs es := by
  induction h with
  | nil => trivial
  | cons h1 h2 h3 _ ih => exact ⟨h1, h2, h3, ih⟩

theorem IsDs.length : ∀ {l : List D} {vs : List Value}, IsDs an P g l vs → l.length = vs.length
  | [], [], _ => rfl
  | [], _ :: _, x => False.elim x
  | _ :: _, [], x => False.elim x
  | d :: ds, v :: vs, x => congrArg (· + 1) (IsDs.length x.2)
theorem IsDs.get : ∀ {l : List D} {vs : List Value} {i : Nat} {d : D}, IsDs an P g l vs → l[i]? = some d → ∃ v, vs[i]? = some v ∧ IsD an P g d v
  | [], _, _, _, _, e => nomatch e
  | _ :: _, [], _, _, x, _ => False.elim x
  | d :: ds, v :: vs, 0, _, x, e => ⟨v, rfl, Option.some.inj e ▸ x.1⟩
  | d :: ds, v :: vs, i + 1, _, x, e => (have r := IsDs.get (l := ds) (vs := vs) (i := i) x.2 e; r)
theorem IsDs.get' : ∀ {l : List D} {vs : List Value} {i : Nat} {v : Value}, IsDs an P g l vs → vs[i]? = some v → ∃ d, l[i]? = some d ∧ IsD an P g d v
  | [], [], _, _, _, e => nomatch e
  | [], _ :: _, _, _, x, _ => False.elim x
  | _ :: _, [], _, _, _, e => nomatch e
  | d :: ds, v :: vs, 0, _, x, e => ⟨d, rfl, Option.some.inj e ▸ x.1⟩
  | d :: ds, v :: vs, i + 1, _, x, e => (have r := IsDs.get' (l := ds) (vs := vs) (i := i) x.2 e; r)
theorem IsDs.append : ∀ {l l' : List D} {vs vs' : List Value}, IsDs an P g l vs → IsDs an P g l' vs' → IsDs an P g (l ++ l') (vs ++ vs')
  | [], _, [], _, _, y => y
  | [], _, _ :: _, _, x, _ => False.elim x
  | _ :: _, _, [], _, x, _ => False.elim x
  | d :: ds, _, v :: vs, _, x, y => by
    exact And.intro x.1 (IsDs.append x.2 y)
theorem IsDs.drop : ∀ {l : List D} {vs : List Value} (n : Nat), IsDs an P g l vs → IsDs an P g (l.drop n) (vs.drop n)
  | _, _, 0, x => x
  | [], [], _ + 1, _ => trivial
  | [], _ :: _, _, x => False.elim x
  | _ :: _, [], _, x => False.elim x
  | d :: ds, v :: vs, n + 1, x => IsDs.drop n x.2
theorem IsDs.take : ∀ {l : List D} {vs : List Value} (n : Nat), IsDs an P g l vs → IsDs an P g (l.take n) (vs.take n)
  | _, _, 0, _ => trivial
  | [], [], _ + 1, _ => trivial
  | [], _ :: _, _, x => False.elim x
  | _ :: _, [], _, x => False.elim x
  | d :: ds, v :: vs, n + 1, x => And.intro x.1 (IsDs.take n x.2)
theorem IsDs.set : ∀ {l : List D} {vs : List Value} (n : Nat) {d : D} {v : Value}, IsDs an P g l vs → IsD an P g d v → IsDs an P g (l.set n d) (vs.set n v)
  | [], [], _, _, _, _, _ => trivial
  | [], _ :: _, _, _, _, x, _ => False.elim x
  | _ :: _, [], _, _, _, x, _ => False.elim x
  | d :: ds, v :: vs, 0, _, _, x, y => And.intro y x.2
  | d :: ds, v :: vs, n + 1, _, _, x, y => And.intro x.1 (IsDs.set n x.2 y)
theorem IsVs.length : ∀ {l : List V} {vs : List Value}, IsVs an P ρ g l vs → l.length = vs.length
  | [], [], _ => rfl
  | [], _ :: _, x => False.elim x
  | _ :: _, [], x => False.elim x
  | d :: ds, v :: vs, x => congrArg (· + 1) (IsVs.length x.2)
theorem IsVs.get : ∀ {l : List V} {vs : List Value} {i : Nat} {d : V}, IsVs an P ρ g l vs → l[i]? = some d → ∃ v, vs[i]? = some v ∧ IsV an P ρ g d v
  | [], _, _, _, _, e => nomatch e
  | _ :: _, [], _, _, x, _ => False.elim x
  | d :: ds, v :: vs, 0, _, x, e => ⟨v, rfl, Option.some.inj e ▸ x.1⟩
  | d :: ds, v :: vs, i + 1, _, x, e => (have r := IsVs.get (l := ds) (vs := vs) (i := i) x.2 e; r)
theorem isVs_of_ds : ∀ {l : List D} {vs : List Value}, IsDs an P g l vs → IsVs an P ρ g (l.map .d) vs
  | [], [], _ => trivial
  | [], _ :: _, x => False.elim x
  | _ :: _, [], x => False.elim x
  | d :: ds, v :: vs, x => by
    exact And.intro x.1 (isVs_of_ds x.2)

theorem Ext.rfl' : Ext W g ρ h g ρ h := ⟨fun _ _ e => e, fun _ _ e => e, fun _ _ e _ _ => e, fun _ o e => ⟨o, e⟩, fun _ o e => .inl ⟨o, e⟩, fun _ e => .inl e⟩
theorem Ext.trans (x : Ext W g ρ h g' ρ' h') (y : Ext W g' ρ' h' g'' ρ'' h'') : Ext W g ρ h g'' ρ'' h'' where
  gle b o e := y.gle b o (x.gle b o e)
  pre i p e := y.pre i p (x.pre i p e)
  keep b o e w m := y.keep b o (x.keep b o e w m) w fun m' => (x.mnew b m').elim m fun q => by rw [e] at q; cases q
  live b o e := by obtain ⟨o', e'⟩ := x.live b o e; exact y.live b o' e'
  gnew b o e := by
    rcases y.gnew b o e with ⟨o', q⟩ | q
    · exact x.gnew b o' q
    · right
      cases hb : h.get? b with
      | none => rfl
      | some o' => obtain ⟨o'', e''⟩ := x.live b o' hb; rw [e''] at q; cases q
  mnew b m := by
    rcases y.mnew b m with q | q
    · exact x.mnew b q
    · right
      cases hb : h.get? b with
      | none => rfl
      | some o' => obtain ⟨o'', e''⟩ := x.live b o' hb; rw [e''] at q; cases q
theorem Ext.weaken (x : Ext W g ρ h g' ρ' h') (hw : ∀ b, W b → W' b) : Ext W' g ρ h g' ρ' h' :=
  { x with keep := fun b o e w m => x.keep b o e (fun q => w (hw b q)) m }
theorem Ext.narrow (x : Ext W g ρ h g' ρ' h') (hw : ∀ b o, h.get? b = some o → W b → W' b) : Ext W' g ρ h g' ρ' h' :=
  { x with keep := fun b o e w m => x.keep b o e (fun q => w (hw b o e q)) m }

theorem St.heapOf (S : St an P h₀ g ρ σ h) : ∀ b o, h₀.get? b = some o → h.get? b = some o := fun b o e => S.le b o (S.base b o e)
end

inductive E where
  | lit (x : D)
  | loc (i : Nat)
  | glob (n : Nat) (x : D)
  | bop (isAnd : Bool) (es : List E)
  | not (a : E)
  | neg (a : E)
  | bin (op : Operator) (a b : E)
  | cmp (op : CmpOp) (a b : E)
  | chain (op op' : CmpOp) (a b c : E)
  | ite (c a b : E)
  | attr (a : E) (k : Nat)
  | idx (a i : E)
  | cutTo (a i : E)
  | cutFrom (a i : E)
  | tup (es : List E)
  | lst (isMut : Bool) (es : List E)
  | call (f : Nat) (es : List E) (dfl : List D) (kw : List E)
  | new (c : Nat) (es : List E) (dfl : List D)
  | meth (a : E) (k : Nat) (es : List E)
  | append (a b : E)
  | len (a : E) | abs (a : E) | max2 (a b : E) | min2 (a b : E) | minl (a : E) | isint (a : E) | isbool (a : E) | tuple (a : E) | lrange (a b : E)
  | comp (caps : List (Option Nat)) (many : Bool) (ts : List Nat) (kind : Nat) (src : E) (ifs : List E) (elt : E)
  | fail

inductive Tgt where
  | var (i : Nat) | attr (a : E) (k : Nat) | idx (a i : E)
inductive S where
  | assign (isTup : Bool) (ts : List Tgt) (e : E)
  | aug (t : Tgt) (op : Operator) (e : E)
  | expr (e : E)
  | ite (c : E) (a b : List S)
  | for_ (many : Bool) (ts : List Nat) (kind : Nat) (src : E) (body : List S)
  | while_ (c : E) (body : List S)
  | ret (e : E)
  | fail

inductive Flw where
  | next | ret (v : V)
noncomputable def Flw.val : Flw → V
  | .ret v => v
  | .next => .d .none

noncomputable abbrev Mem := List (Option V)

structure Tab where
  fn : Nat → List V → Sto → Option (V × Sto)
  meth : Nat → Nat → Option Nat
  cattr : Nat → Nat → Option D
  init : Nat → Option Nat
  frz : Nat → Bool
  ok : Nat → Nat → Bool

noncomputable def getIdx {α : Type} (l : List α) (i : Int) : Option α :=
  if 0 ≤ i then l[i.toNat]? else if -(l.length : Int) ≤ i then l[(i + l.length).toNat]? else none
noncomputable def putIdx {α : Type} (l : List α) (i : Int) (x : α) : Option (List α) :=
  if 0 ≤ i ∧ i < (l.length : Int) then some (l.set i.toNat x) else none

noncomputable def lookK {α : Type} : List Nat → List α → Nat → Option α
  | k :: ks, v :: vs, n => if n = k then some v else lookK ks vs n
  | _, _, _ => none
noncomputable def putK {α : Type} : List Nat → List α → Nat → α → List Nat × List α
  | k :: ks, v :: vs, n, x => if n = k then (k :: ks, x :: vs) else let r := putK ks vs n x; (k :: r.1, v :: r.2)
  | _, _, n, x => ([n], [x])

noncomputable def allD : List V → Option (List D)
  | [] => some []
  | .d x :: r => (allD r).map (x :: ·)
  | _ :: _ => none
noncomputable def mkTup (vs : List V) : V := match allD vs with
  | some l => .d (.tup l)
  | none => .tup vs
noncomputable def ints? : List D → Option (List Int)
  | [] => some []
  | .int i :: r => (ints? r).map (i :: ·)
  | _ :: _ => none

mutual
noncomputable def py? : D → Option PyData
  | .none => some .none
  | .bool b => some (.bool b)
  | .int i => some (.int i)
  | .str s => some (.str s)
  | .tup l => (pys? l).map .tuple
  | .lst l => (pys? l).map .list
  | .obj .. => none
noncomputable def pys? : List D → Option (List PyData)
  | [] => some []
  | d :: r => (py? d).bind fun p => (pys? r).map (p :: ·)
end

noncomputable def D.onI {α : Type} (f : Int → Option α) : D → Option α
  | .int i => f i
  | _ => Option.none
noncomputable def D.onT {α : Type} (f : List D → Option α) : D → Option α
  | .tup l => f l
  | _ => Option.none
noncomputable def D.onL {α : Type} (f : List D → Option α) : D → Option α
  | .lst l => f l
  | _ => Option.none
noncomputable def V.onD {α : Type} (f : D → Option α) : V → Option α
  | .d x => f x
  | _ => none
noncomputable def V.onI {α : Type} (f : Int → Option α) : V → Option α
  | .d x => x.onI f
  | _ => none
noncomputable def D.onB {α : Type} (f : Bool → Option α) : D → Option α
  | .bool b => f b
  | _ => Option.none
noncomputable def V.onB {α : Type} (f : Bool → Option α) : V → Option α
  | .d x => x.onB f
  | _ => none
noncomputable def V.onR {α : Type} (f : Nat → Option α) : V → Option α
  | .ref n => f n
  | _ => none
noncomputable def MObj.onL {α : Type} (f : List D → Option α) : MObj → Option α
  | .lst l => f l
  | _ => none
noncomputable def MObj.onO {α : Type} (f : Nat → List Nat → List V → Option α) : MObj → Option α
  | .obj c ks vs => f c ks vs
  | _ => none
noncomputable def atL {α : Type} (σ : Sto) (n : Nat) (f : List D → Option α) : Option α := (σ[n]?).bind (MObj.onL f)
noncomputable def atO {α : Type} (σ : Sto) (n : Nat) (f : Nat → List Nat → List V → Option α) : Option α := (σ[n]?).bind (MObj.onO f)
noncomputable def whenB {α : Type} (b : Bool) (x : α) : Option α := if b then some x else none
noncomputable def whenO {α : Type} (b : Bool) (x : Option α) : Option α := if b then x else none
noncomputable def orElse {α : Type} (x y : Option α) : Option α := match x with
  | some a => some a
  | none => y

noncomputable def eqP (a b : D) : Option Bool := (py? a).bind fun p => (py? b).bind fun q => if SeqAt.shaped p && SeqAt.shaped q then some (PyData.eqv p q) else none
noncomputable def eqD (a b : D) : Option Bool := match a with
  | .int i => (match b with
    | .int j => some (i == j)
    | b => eqP (.int i) b)
  | .bool i => (match b with
    | .bool j => some (i == j)
    | b => eqP (.bool i) b)
  | .str i => (match b with
    | .str j => some (i == j)
    | b => eqP (.str i) b)
  | .lst l => (match b with
    | .lst r => (match r with
      | [] => some l.isEmpty
      | _ :: _ => eqP (.lst l) b)
    | b => eqP (.lst l) b)
  | a => eqP a b
noncomputable def D.isNone : D → Bool
  | .none => true
  | _ => false

noncomputable def isD (a b : V) : Option Bool := a.onD fun x => b.onD fun y => if y.isNone then some x.isNone else none
noncomputable def inD (a b : V) : Option Bool := a.onI fun i => b.onD (D.onT fun l => (ints? l).map (·.contains i))
noncomputable def cmpI (f : Int → Int → Bool) (a b : V) : Option Bool := a.onI fun i => b.onI fun j => some (f i j)
noncomputable def cmpD (op : CmpOp) (a b : V) : Option Bool := match op with
  | .Eq => a.onD fun x => b.onD fun y => eqD x y
  | .NotEq => a.onD fun x => b.onD fun y => (eqD x y).map (!·)
  | .Lt => cmpI (fun i j => decide (i < j)) a b
  | .LtE => cmpI (fun i j => decide (i ≤ j)) a b
  | .Gt => cmpI (fun i j => decide (j < i)) a b
  | .GtE => cmpI (fun i j => decide (j ≤ i)) a b
  | .Is => isD a b
  | .IsNot => (isD a b).map (!·)
  | .In => inD a b
  | _ => none
noncomputable def small (i : Int) : Bool := decide (-(2 ^ 64) < i) && decide (i < 2 ^ 64)

noncomputable def binI (op : Operator) (i j : Int) : Option Int := match op with
  | .Add => some (i + j)
  | .Sub => some (i - j)
  | .Mult => whenB (small i || small j) (i * j)
  | .FloorDiv => whenB (decide (0 < j) && decide (j < 10 ^ 95)) (i / j)
  | .Mod => whenB (decide (0 < j)) (i % j)
  | .Pow => whenB (small i && (decide (0 ≤ j) && decide (j ≤ 1000))) (i ^ j.toNat)
  | _ => none
noncomputable def binD (op : Operator) (a b : V) : Option D := a.onI fun i => b.onI fun j => (binI op i j).map .int

noncomputable def D.lst? : D → Option (List D)
  | .lst l => some l
  | _ => Option.none
noncomputable def listOf (σ : Sto) : V → Option (List D)
  | .d x => x.lst?
  | .ref n => atL σ n some
  | _ => none
noncomputable def isAdd : Operator → Bool
  | .Add => true
  | _ => false
noncomputable def catD (σ : Sto) (op : Operator) (a b : V) : Option D := whenO (isAdd op) ((listOf σ a).bind fun l => (listOf σ b).bind fun r => whenB (decide (l.length + r.length ≤ 2 ^ 24)) (.lst (l ++ r)))
noncomputable def D.len? : D → Option Nat
  | .tup l => some l.length
  | .lst l => some l.length
  | _ => Option.none
noncomputable def lenV (σ : Sto) : V → Option Nat
  | .d x => x.len?
  | .ref n => atL σ n fun l => some l.length
  | _ => none
noncomputable def D.at? (i : Int) : D → Option D
  | .tup l => getIdx l i
  | .lst l => getIdx l i
  | _ => Option.none
noncomputable def idxV (σ : Sto) (v : V) (i : Int) : Option V := match v with
  | .d x => (x.at? i).map .d
  | .tup l => getIdx l i
  | .ref n => atL σ n fun l => (getIdx l i).map .d
noncomputable def cutL (to : Bool) (i : Int) (l : List D) : D := .lst (if to then l.take i.toNat else l.drop i.toNat)
noncomputable def D.cut (to : Bool) (i : Int) : D → Option D
  | .tup l => whenB (to && (decide (0 < i) && decide (i < (l.length : Int)))) (.tup (l.take i.toNat))
  | .lst l => some (cutL to i l)
  | _ => Option.none
noncomputable def cutV (σ : Sto) (v : V) (to : Bool) (i : Int) : Option D := whenO (decide (0 ≤ i)) (match v with
  | .d x => x.cut to i
  | .ref n => atL σ n fun l => some (cutL to i l)
  | _ => none)
noncomputable def fieldOf {α : Type} (Φ : Tab) (f : D → α) (c : Nat) (r : Option α) (k : Nat) : Option α := match r with
  | some x => whenB (Φ.ok c k) x
  | none => (Φ.cattr c k).map f
noncomputable def D.field (Φ : Tab) (k : Nat) : D → Option V
  | .obj c ks vs => (fieldOf Φ id c (lookK ks vs k) k).map .d
  | _ => Option.none
noncomputable def attrV (Φ : Tab) (σ : Sto) (v : V) (k : Nat) : Option V := match v with
  | .d x => x.field Φ k
  | .ref n => atO σ n fun c ks vs => fieldOf Φ .d c (lookK ks vs k) k
  | _ => none
noncomputable def rangeD (i : Int) : Option (List D) := whenB (decide (-(2 ^ 60) ≤ i) && decide (i ≤ 2 ^ 24)) ((List.range i.toNat).map fun (k : Nat) => .int (k : Int))
noncomputable def range2D (a b : Int) : Option (List D) := whenB (decide (-(2 ^ 60) ≤ a) && (decide (a ≤ 2 ^ 60) && (decide (-(2 ^ 60) ≤ b) && decide (b - a ≤ 2 ^ 24)))) ((List.range (b - a).toNat).map fun (k : Nat) => .int (a + (k : Int)))
noncomputable def D.items0 : D → Option (List D)
  | .tup l => some l
  | .lst l => some l
  | .str s => whenB (decide (s.cps.size ≤ 2 ^ 20)) (s.cps.toList.map fun c => .str ⟨#[c]⟩)
  | _ => Option.none
noncomputable def pair? : List D → Option (D × D)
  | [] => none
  | a :: r => match r with
    | [] => none
    | b :: r => match r with
      | [] => some (a, b)
      | _ :: _ => none
noncomputable def itemsOf (σ : Sto) (kind : Nat) (v : V) : Option (List D) := match kind with
  | 0 => v.onD D.items0
  | 1 => v.onD (D.onL some)
  | 2 => v.onI rangeD
  | 3 => v.onD (D.onT fun l => (pair? l).bind fun p => p.1.onI fun a => p.2.onI fun b => range2D a b)
  | _ => none
noncomputable def bindMany (ts : List Nat) (m : Mem) : D → Option Mem := D.onT fun l => whenB (decide (l.length = ts.length)) ((ts.zip l).foldl (fun m p => m.set p.1 (some (.d p.2))) m)
noncomputable def one? : List Nat → Option Nat
  | [] => none
  | a :: r => match r with
    | [] => some a
    | _ :: _ => none
noncomputable def two? : List Nat → Option (Nat × Nat)
  | [] => none
  | a :: r => (one? r).map (a, ·)
noncomputable def bindItem (many : Bool) (ts : List Nat) (kind k : Nat) (x : D) (m : Mem) : Option Mem := match kind with
  | 1 => whenO many ((two? ts).map fun t => (m.set t.1 (some (.d (.int (k : Int))))).set t.2 (some (.d x)))
  | _ => match many with
    | false => (one? ts).map fun i => m.set i (some (.d x))
    | true => bindMany ts m x

noncomputable def MObj.isLst : MObj → Bool
  | .lst _ => true
  | _ => false
noncomputable def lists (σ : Sto) : Bool := σ.all MObj.isLst
mutual
noncomputable def freezeV (n : Nat) (σ : Sto) : V → Option D
  | .d x => some x
  | .ref i => if n ≤ i then (match σ[i]? with
    | some (.lst l) => some (.lst l)
    | some (.obj c ks vs) => (allD vs).map (.obj c ks)
    | none => none) else none
  | .tup l => (freezeVs n σ l).map .tup
noncomputable def freezeVs (n : Nat) (σ : Sto) : List V → Option (List D)
  | [] => some []
  | v :: r => (freezeV n σ v).bind fun d => (freezeVs n σ r).map (d :: ·)
end

noncomputable def den1 {α : Type} (f : Sto → Option (V × Sto)) (F : V → Sto → Option α) (σ : Sto) : Option α := (f σ).bind fun p => F p.1 p.2
noncomputable def den2 {α : Type} (f g : Sto → Option (V × Sto)) (F : V → V → Sto → Option α) (σ : Sto) : Option α := (f σ).bind fun p => (g p.2).bind fun q => F p.1 q.1 q.2
noncomputable def denS {α : Type} (f : Sto → Option (List V × Sto)) (F : List V → Sto → Option α) (σ : Sto) : Option α := (f σ).bind fun p => F p.1 p.2
noncomputable def retV (x : Option V) (σ : Sto) : Option (V × Sto) := x.map (·, σ)
noncomputable def retD (x : Option D) (σ : Sto) : Option (V × Sto) := x.map (.d ·, σ)
noncomputable def notD (v : V) : Option D := v.onB fun b => some (.bool !b)
noncomputable def negD (v : V) : Option D := v.onI fun i => some (.int (-i))
noncomputable def absD (v : V) : Option D := v.onI fun i => some (.int (if i < 0 then -i else i))
noncomputable def maxD (v u : V) : Option D := v.onI fun i => u.onI fun j => some (.int (if i < j then j else i))
noncomputable def minD (v u : V) : Option D := v.onI fun i => u.onI fun j => some (.int (if j < i then j else i))
noncomputable def minlD (v : V) : Option D := v.onD (D.onL fun l => ((ints? l).bind (·.min?)).map .int)
noncomputable def isIntD (b : Bool) (v : V) : Option D := v.onI fun _ => some (.bool b)
noncomputable def tupleD (v : V) : Option D := v.onD (D.onT fun l => some (.tup l))
noncomputable def lrangeD (v u : V) : Option D := v.onI fun i => u.onI fun j => (range2D i j).map .lst
noncomputable def lenD (σ : Sto) (v : V) : Option D := (lenV σ v).map fun (n : Nat) => .int (n : Int)
noncomputable def newRes (Φ : Tab) (c k : Nat) (τ : Sto) : Option (V × Sto) :=
  if Φ.frz c then whenO (lists (τ.take k)) ((freezeV k τ (.ref k)).map fun d => (.d d, τ.take k)) else some (.ref k, τ)
noncomputable def methOf (Φ : Tab) (k : Nat) (σ : Sto) (v : V) : Option Nat := v.onR fun n => atO σ n fun c ks _ => if ks.contains k then none else Φ.meth c k
noncomputable def lstAt (σ : Sto) (v : V) : Option Nat := v.onR fun n => atL σ n fun _ => some n
noncomputable def appendAt (n : Nat) (u : V) (σ : Sto) : Option (V × Sto) := u.onD fun x => atL σ n fun l => whenB (decide (l.length < 2 ^ 24)) (.d .none, σ.set n (.lst (l ++ [x])))
noncomputable def lstRes (isMut : Bool) (vs : List V) (σ : Sto) : Option (V × Sto) := (allD vs).map fun l => if isMut then (.ref σ.length, σ ++ [.lst l]) else (.d (.lst l), σ)

noncomputable def compEl (tests : Mem → Sto → Option (Bool × Sto)) (elt : Mem → Sto → Option (V × Sto)) (m : Mem) (σ : Sto) : Option (Option D × Sto) :=
  (tests m σ).bind fun t => if t.1 then den1 (elt m) (fun v σ => v.onD fun x => some (some x, σ)) t.2 else some (none, t.2)
noncomputable def accD (acc : List D) : Option D → List D
  | some d => acc ++ [d]
  | none => acc
noncomputable def compGo (el : Mem → Sto → Option (Option D × Sto)) (bi : Nat → D → Mem → Option Mem) (m : Mem) : Nat → List D → List D → Sto → Option (List D × Sto)
  | _, [], acc, σ => some (acc, σ)
  | k, x :: r, acc, σ => (bi k x m).bind fun m' => (el m' σ).bind fun p => compGo el bi m (k + 1) r (accD acc p.1) p.2

mutual
noncomputable def E.den (Φ : Tab) (m : Mem) : E → Sto → Option (V × Sto)
  | .lit x, σ => some (.d x, σ)
  | .loc i, σ => retV (m.getD i none) σ
  | .glob _ x, σ => some (.d x, σ)
  | .bop isAnd es, σ => (E.dens? Φ m isAnd es σ).map fun p => (.d (.bool p.1), p.2)
  | .not a, σ => den1 (E.den Φ m a) (fun v => retD (notD v)) σ
  | .neg a, σ => den1 (E.den Φ m a) (fun v => retD (negD v)) σ
  | .bin op a b, σ => den2 (E.den Φ m a) (E.den Φ m b) (fun v u σ => retD (orElse (binD op v u) (catD σ op v u)) σ) σ
  | .cmp op a b, σ => den2 (E.den Φ m a) (E.den Φ m b) (fun v u => retD ((cmpD op v u).map .bool)) σ
  | .chain op op' a b c, σ => den2 (E.den Φ m a) (E.den Φ m b) (fun v u σ => (cmpD op v u).bind fun t =>
    if t then den1 (E.den Φ m c) (fun r => retD ((cmpD op' u r).map .bool)) σ else some (.d (.bool false), σ)) σ
  | .ite c a b, σ => den1 (E.den Φ m c) (fun v σ => v.onB fun t => if t then E.den Φ m a σ else E.den Φ m b σ) σ
  | .attr a k, σ => den1 (E.den Φ m a) (fun v σ => retV (attrV Φ σ v k) σ) σ
  | .idx a i, σ => den2 (E.den Φ m a) (E.den Φ m i) (fun v u σ => retV (u.onI (idxV σ v)) σ) σ
  | .cutTo a i, σ => den2 (E.den Φ m a) (E.den Φ m i) (fun v u σ => retD (u.onI (cutV σ v true)) σ) σ
  | .cutFrom a i, σ => den2 (E.den Φ m a) (E.den Φ m i) (fun v u σ => retD (u.onI (cutV σ v false)) σ) σ
  | .tup es, σ => denS (E.dens Φ m es) (fun vs σ => some (mkTup vs, σ)) σ
  | .lst isMut es, σ => denS (E.dens Φ m es) (lstRes isMut) σ
  | .call f es dfl kw, σ => denS (E.dens Φ m es) (fun vs => denS (E.dens Φ m kw) fun ks => Φ.fn f (vs ++ dfl.map .d ++ ks)) σ
  | .new c es dfl, σ => denS (E.dens Φ m es) (fun vs σ => (Φ.init c).bind fun f =>
    den1 (Φ.fn f (.ref σ.length :: (vs ++ dfl.map .d))) (fun r τ => r.onD fun x => whenO x.isNone (newRes Φ c σ.length τ)) (σ ++ [.obj c [] []])) σ
  | .meth a k es, σ => den1 (E.den Φ m a) (fun v σ => (methOf Φ k σ v).bind fun f => denS (E.dens Φ m es) (fun vs => Φ.fn f (v :: vs)) σ) σ
  | .append a b, σ => den1 (E.den Φ m a) (fun v σ => (lstAt σ v).bind fun n => den1 (E.den Φ m b) (appendAt n) σ) σ
  | .len a, σ => den1 (E.den Φ m a) (fun v σ => retD (lenD σ v) σ) σ
  | .abs a, σ => den1 (E.den Φ m a) (fun v => retD (absD v)) σ
  | .max2 a b, σ => den2 (E.den Φ m a) (E.den Φ m b) (fun v u => retD (maxD v u)) σ
  | .min2 a b, σ => den2 (E.den Φ m a) (E.den Φ m b) (fun v u => retD (minD v u)) σ
  | .minl a, σ => den1 (E.den Φ m a) (fun v => retD (minlD v)) σ
  | .isint a, σ => den1 (E.den Φ m a) (fun v => retD (isIntD true v)) σ
  | .isbool a, σ => den1 (E.den Φ m a) (fun v => retD (isIntD false v)) σ
  | .tuple a, σ => den1 (E.den Φ m a) (fun v => retD (tupleD v)) σ
  | .lrange a b, σ => den2 (E.den Φ m a) (E.den Φ m b) (fun v u => retD (lrangeD v u)) σ
  | .comp caps many ts kind src ifs elt, σ => den1 (E.den Φ m src) (fun v σ => (itemsOf σ kind v).bind fun items =>
    (compGo (compEl (fun m' => E.dens? Φ m' true ifs) (fun m' => E.den Φ m' elt))
      (bindItem many ts kind) (caps.map fun c => c.bind fun i => m.getD i none) 0 items [] σ).map fun r => (.d (.lst r.1), r.2)) σ
  | .fail, _ => none
noncomputable def E.dens (Φ : Tab) (m : Mem) : List E → Sto → Option (List V × Sto)
  | [], σ => some ([], σ)
  | e :: r, σ => den1 (E.den Φ m e) (fun v σ => (E.dens Φ m r σ).map fun q => (v :: q.1, q.2)) σ
noncomputable def E.dens? (Φ : Tab) (m : Mem) (isAnd : Bool) : List E → Sto → Option (Bool × Sto)
  | [], σ => some (isAnd, σ)
  | e :: r, σ => den1 (E.den Φ m e) (fun v σ => v.onB fun b => if b = isAnd then E.dens? Φ m isAnd r σ else some (b, σ)) σ
end

noncomputable def putAttr {α : Type} (Φ : Tab) (m : α) (k : Nat) (v : V) (o : V) (σ : Sto) : Option (α × Sto) := o.onR fun n => atO σ n fun c ks vs => whenB (Φ.ok c k && decide (ks.length ≤ 100)) (m, σ.set n (.obj c (putK ks vs k v).1 (putK ks vs k v).2))
noncomputable def putAt {α : Type} (m : α) (n : Nat) (i : Int) (x : D) (σ : Sto) : Option (α × Sto) := atL σ n fun l => (putIdx l i x).map fun l' => (m, σ.set n (.lst l'))
noncomputable def Tgt.put (Φ : Tab) (v : V) (t : Tgt) (s : Mem × Sto) : Option (Mem × Sto) := match t with
  | .var i => some (s.1.set i (some v), s.2)
  | .attr a k => den1 (E.den Φ s.1 a) (putAttr Φ s.1 k v) s.2
  | .idx a i => den2 (E.den Φ s.1 a) (E.den Φ s.1 i) (fun o u σ => o.onR fun n => u.onI fun j => v.onD fun x => putAt s.1 n j x σ) s.2
noncomputable def putAll (Φ : Tab) : List Tgt → List V → Mem × Sto → Option (Mem × Sto)
  | [], [], s => some s
  | t :: ts, v :: vs, s => (t.put Φ v s).bind fun s' => putAll Φ ts vs s'
  | _, _, _ => none
noncomputable def tupOf : V → Option (List V)
  | .d x => x.onT fun l => some (l.map .d)
  | .tup l => some l
  | _ => none

noncomputable def forGo (step : Nat → D → Mem × Sto → Option (Flw × Mem × Sto)) : Nat → List D → Mem × Sto → Option (Flw × Mem × Sto)
  | _, [], s => some (.next, s)
  | k, x :: r, s => (step k x s).bind fun p => match p.1 with
    | .next => forGo step (k + 1) r p.2
    | .ret v => some (.ret v, p.2)
noncomputable def whileGo (test : Mem × Sto → Option (Bool × Mem × Sto)) (body : Mem × Sto → Option (Flw × Mem × Sto)) : Nat → Mem × Sto → Option (Flw × Mem × Sto)
  | 0, _ => none
  | n + 1, s => (test s).bind fun t => if t.1 then (body t.2).bind fun p => match p.1 with
    | .next => whileGo test body n p.2
    | .ret v => some (.ret v, p.2)
    else some (.next, t.2)

noncomputable def fuel : Nat := 64
noncomputable def augVar (Φ : Tab) (i : Nat) (op : Operator) (e : E) (m : Mem) (σ : Sto) : Option (Flw × Mem × Sto) := (m.getD i none).bind fun o => den1 (E.den Φ m e) (fun v σ => (binD op o v).map fun x => (.next, m.set i (some (.d x)), σ)) σ
noncomputable def nexts (s : Option (Mem × Sto)) : Option (Flw × Mem × Sto) := s.map fun r => (.next, r)
noncomputable def augAttr (Φ : Tab) (a : E) (k : Nat) (op : Operator) (e : E) (m : Mem) (σ : Sto) : Option (Flw × Mem × Sto) := den1 (E.den Φ m a) (fun o σ => (attrV Φ σ o k).bind fun v => den1 (E.den Φ m e) (fun u σ => (binD op v u).bind fun x => nexts (putAttr Φ m k (.d x) o σ)) σ) σ
noncomputable def augIdx (Φ : Tab) (a i : E) (op : Operator) (e : E) (m : Mem) (σ : Sto) : Option (Flw × Mem × Sto) := den2 (E.den Φ m a) (E.den Φ m i) (fun o u σ => o.onR fun n => u.onI fun j => (idxV σ (.ref n) j).bind fun v => den1 (E.den Φ m e) (fun u σ => (binD op v u).bind fun x => nexts (putAt m n j x σ)) σ) σ
mutual
noncomputable def S.den (Φ : Tab) : S → Mem × Sto → Option (Flw × Mem × Sto)
  | .assign isTup ts e, s => den1 (E.den Φ s.1 e) (fun v σ => (if isTup then tupOf v else some [v]).bind fun vs => nexts (putAll Φ ts vs (s.1, σ))) s.2
  | .aug t op e, s => match t with
    | .var i => augVar Φ i op e s.1 s.2
    | .attr a k => augAttr Φ a k op e s.1 s.2
    | .idx a i => augIdx Φ a i op e s.1 s.2
  | .expr e, s => den1 (E.den Φ s.1 e) (fun _ σ => some (.next, s.1, σ)) s.2
  | .ite c a b, s => den1 (E.den Φ s.1 c) (fun v σ => v.onB fun t => if t then S.dens Φ a (s.1, σ) else S.dens Φ b (s.1, σ)) s.2
  | .for_ many ts kind src body, s => den1 (E.den Φ s.1 src) (fun v σ => (itemsOf σ kind v).bind fun items =>
    forGo (fun k x s => (bindItem many ts kind k x s.1).bind fun m => S.dens Φ body (m, s.2)) 0 items (s.1, σ)) s.2
  | .while_ c body, s => whileGo (fun s => den1 (E.den Φ s.1 c) (fun v σ => v.onB fun t => some (t, s.1, σ)) s.2) (S.dens Φ body) fuel s
  | .ret e, s => den1 (E.den Φ s.1 e) (fun v σ => some (.ret v, s.1, σ)) s.2
  | .fail, _ => none
noncomputable def S.dens (Φ : Tab) : List S → Mem × Sto → Option (Flw × Mem × Sto)
  | [], s => some (.next, s)
  | c :: r, s => (S.den Φ c s).bind fun p => match p.1 with
    | .next => S.dens Φ r p.2
    | .ret v => some (.ret v, p.2)
end

structure MFn where
  vars : List String
  nargs : Nat
  frz : Bool
  body : List S

noncomputable def ending (frz : Bool) (k : Nat) (v : V) (σ : Sto) : Option (V × Sto) :=
  if frz then whenO (lists (σ.take k)) ((freezeV k σ v).map fun d => (.d d, σ.take k)) else some (v, σ)
noncomputable def MFn.run (Φ : Tab) (f : MFn) (args : List V) (σ : Sto) : Option (V × Sto) :=
  whenO (decide (args.length = f.nargs)) ((S.dens Φ f.body (args.map some ++ List.replicate (f.vars.length - f.nargs) none, σ)).bind fun p => ending f.frz σ.length p.1.val p.2.2)

theorem lookup_zip_isSome : ∀ {ns : List Str} {vs : List Value}, vs.length = ns.length → ∀ n ∈ ns, ((ns.zip vs).lookup n).isSome = true
  | [], _, _, n, hn => by simp at hn
  | _ :: _, [], h, _, _ => by simp at h
  | m :: ns, v :: vs, h, n, hn => by
    simp only [List.zip_cons_cons, List.lookup_cons]
    cases hb : n == m with
    | true => rfl
    | false =>
      have : n ∈ ns := by
        rcases List.mem_cons.mp hn with e | e
        · rw [e] at hb; simp at hb
        · exact e
      exact lookup_zip_isSome (by simpa using h) n this

theorem filterMap_zip : ∀ {ns : List Str} {vs : List Value}, vs.length = ns.length → ns.Nodup → ns.filterMap (fun n => ((ns.zip vs).lookup n).map (n, ·)) = ns.zip vs
  | [], _, _, _ => by simp
  | _ :: _, [], h, _ => by simp at h
  | m :: ns, v :: vs, h, hn => by
    obtain ⟨h1, h2⟩ := List.nodup_cons.mp hn
    simp only [List.zip_cons_cons, List.filterMap_cons, List.lookup_cons, beq_self_eq_true, Option.map_some]
    congr 1
    have key : ∀ l : List Str, (∀ n ∈ l, n ≠ m) → l.filterMap (fun n => Option.map (fun x => (n, x)) (match n == m with | true => some v | false => List.lookup n (ns.zip vs))) = l.filterMap (fun n => ((ns.zip vs).lookup n).map (n, ·)) := by
      intro l
      induction l with
      | nil => intro _; rfl
      | cons n l ih =>
        intro hl
        have : (n == m) = false := by
          cases hb : n == m with
          | false => rfl
          | true => exact absurd (beq_iff_eq.mp hb) (hl n List.mem_cons_self)
        simp only [List.filterMap_cons, this]
        rw [ih fun y hy => hl y (List.mem_cons_of_mem _ hy)]
    refine (key ns fun n hn' e => h1 (e ▸ hn')).trans ?_
    exact filterMap_zip (by simpa using h) h2

theorem bindArgs_plain (fd : FuncData) (vs : List Value) (h1 : fd.params.posonlyargs = []) (h2 : fd.params.kwonlyargs = []) (h3 : fd.params.vararg = none) (h4 : fd.params.kwarg = none) (h5 : fd.defaults = .none)
    (hl : vs.length = fd.params.args.length) (hn : (fd.params.args.map (·.arg)).Nodup) : bindArgs fd ⟨vs, []⟩ = pure ((fd.params.args.map (·.arg)).zip vs) := by
  unfold bindArgs
  have e5 : seqItems? Value.none = pure none := rfl
  have hl' : vs.length = (fd.params.args.map (·.arg)).length := by simpa using hl
  simp only [h1, h2, h3, h4, h5, e5, List.map_nil, List.nil_append, List.forIn_nil, pure_bind, Option.getD_none]
  have hgt : ¬ (vs.length > (fd.params.args.map (·.arg)).length) := by omega
  simp only [hgt, decide_false, Bool.false_and, Bool.false_eq_true, if_false]
  have this : ((fd.params.args.map (·.arg)).filter fun n => (((fd.params.args.map (·.arg)).zip vs).lookup n).isNone) = [] := by
    rw [List.filter_eq_nil_iff]
    intro n hn'
    have := lookup_zip_isSome hl' n hn'
    rw [Option.isSome_iff_ne_none] at this
    simp only [Option.isNone_iff_eq_none]
    exact this
  simp only [List.drop_nil, List.length_nil, Nat.sub_zero, List.take_length, this, List.isEmpty_nil, Bool.not_true, Bool.false_eq_true, if_false, List.zip_nil_right, List.forIn_nil, pure_bind, List.append_nil]
  rw [filterMap_zip hl' hn]

noncomputable def updG (g : G) (a : Addr) (o : Obj) : G := fun b => if b = a then some o else g b
theorem updG_self (g : G) (a : Addr) (o : Obj) : updG g a o a = some o := by simp [updG]

theorem get?_size (h : Heap) : h.get? h.objs.size = none := by
  cases e : h.get? h.objs.size with
  | none => rfl
  | some o => exact absurd (Heap.lt_size e) (Nat.lt_irrefl _)

section
variable {an : Nat → Str} {P : Params} {h₀ : Heap} {g g' : G} {ρ ρ' : Rho} {σ σ' : Sto} {h h' : Heap} {W : Addr → Prop}

theorem plainL_at {h h' : Heap} {a : Addr} {its : Array Value} (x : PlainL h a its) (k : ∀ o, h.get? a = some o → h'.get? a = some o) : PlainL h' a its := let ⟨o, n, e, r⟩ := x; ⟨o, n, k o e, r⟩
theorem MIs.mono {p : Addr × Addr} {m : MObj} (hg : ∀ b o, g b = some o → g' b = some o) (hr : ∀ (i : Nat) p, ρ[i]? = some p → ρ'[i]? = some p)
    (h1 : ∀ o, h.get? p.1 = some o → h'.get? p.1 = some o) (h2 : ∀ o, h.get? p.2 = some o → h'.get? p.2 = some o) (x : MIs an P ρ g h p m) : MIs an P ρ' g' h' p m := by
  cases m with
  | lst l =>
    obtain ⟨e, items, hl, hz, hd⟩ := x
    exact ⟨e, items, plainL_at hl h1, hz, IsDs.mono hg l hd⟩
  | obj c ks vs =>
    obtain ⟨e, hx, od, es, ep, ho, hc, hd, hf⟩ := x
    exact ⟨e, h1 _ hx, od, es, ep, h2 _ ho, hc, hd, IsMFs.mono hg hr ks vs hf⟩
theorem MIs.alive {p : Addr × Addr} {m : MObj} (x : MIs an P ρ g h p m) : (∃ o, h.get? p.1 = some o) ∧ ∃ o, h.get? p.2 = some o := by
  cases m with
  | lst l =>
    obtain ⟨e, items, ⟨o, _, ho, _⟩, hz, hd⟩ := x
    exact ⟨⟨o, ho⟩, o, e ▸ ho⟩
  | obj c ks vs =>
    obtain ⟨e, hx, od, es, ep, ho, hc, hd, hf⟩ := x
    exact ⟨⟨_, hx⟩, _, ho⟩
theorem St.at (S : St an P h₀ g ρ σ h) {i : Nat} {p : Addr × Addr} (e : ρ[i]? = some p) : ∃ m, σ[i]? = some m ∧ MIs an P ρ g h p m := by
  have : i < σ.length := by rw [← S.len]; exact (List.getElem?_eq_some_iff.mp e).1
  exact ⟨σ[i], by simp [this], S.obj i p _ e (by simp [this])⟩
theorem St.at' (S : St an P h₀ g ρ σ h) {i : Nat} {m : MObj} (e : σ[i]? = some m) : ∃ p, ρ[i]? = some p ∧ MIs an P ρ g h p m := by
  have : i < ρ.length := by rw [S.len]; exact (List.getElem?_eq_some_iff.mp e).1
  exact ⟨ρ[i], by simp [this], S.obj i _ m (by simp [this]) e⟩
theorem St.alive (S : St an P h₀ g ρ σ h) {b : Addr} (m : InMut ρ b) : ∃ o, h.get? b = some o := by
  obtain ⟨p, hp, hb⟩ := m
  obtain ⟨i, hi⟩ := List.mem_iff_getElem?.mp hp
  obtain ⟨mo, _, x⟩ := S.at hi
  rcases hb with rfl | rfl
  · exact x.alive.1
  · exact x.alive.2
theorem inMut_of {i : Nat} {p : Addr × Addr} (e : ρ[i]? = some p) : InMut ρ p.1 ∧ InMut ρ p.2 :=
  ⟨⟨p, List.mem_of_getElem? e, .inl rfl⟩, ⟨p, List.mem_of_getElem? e, .inr rfl⟩⟩

theorem St.step (S : St an P h₀ g ρ σ h) (hg : ∀ b o, g b = some o → g' b = some o) (hle : ∀ b o, g' b = some o → h'.get? b = some o) (hoff : ∀ b, InMut ρ b → g' b = none)
    (hm : ∀ b o, InMut ρ b → h.get? b = some o → h'.get? b = some o) : St an P h₀ g' ρ σ h' where
  base b o e := hg b o (S.base b o e)
  le := hle
  off := hoff
  sep := S.sep
  len := S.len
  obj i p m e1 e2 := (S.obj i p m e1 e2).mono hg (fun _ _ e => e) (fun o => hm _ o (inMut_of e1).1) (fun o => hm _ o (inMut_of e1).2)

theorem St.keeps (S : St an P h₀ g ρ σ h) (k : ∀ b o, h.get? b = some o → h'.get? b = some o) : St an P h₀ g ρ σ h' :=
  S.step (fun _ _ e => e) (fun b o e => k b o (S.le b o e)) S.off fun b o _ e => k b o e
theorem Ext.keeps (k : ∀ b o, h.get? b = some o → h'.get? b = some o) : Ext W g ρ h g ρ h' :=
  ⟨fun _ _ e => e, fun _ _ e => e, fun b o e _ _ => k b o e, fun b o e => ⟨o, k b o e⟩, fun _ o e => .inl ⟨o, e⟩, fun _ e => .inl e⟩

theorem St.addG {q : Addr} {o : Obj} (S : St an P h₀ g ρ σ h) (k : ∀ b o, h.get? b = some o → h'.get? b = some o) (hq : h.get? q = none) (ho : h'.get? q = some o) : St an P h₀ (updG g q o) ρ σ h' := by
  refine S.step (fun b o' e => ?_) (fun b o' e => ?_) (fun b m => ?_) fun b o' _ e => k b o' e
  · have : b ≠ q := fun r => by have := S.le b o' e; rw [r, hq] at this; cases this
    simp [updG, this, e]
  · unfold updG at e
    split at e
    · rename_i r; cases e; rw [r]; exact ho
    · exact k b o' (S.le b o' e)
  · obtain ⟨o', e⟩ := S.alive m
    have : b ≠ q := fun r => by rw [r, hq] at e; cases e
    simp [updG, this, S.off b m]
theorem Ext.addG {q : Addr} {o : Obj} (S : St an P h₀ g ρ σ h) (k : ∀ b o, h.get? b = some o → h'.get? b = some o) (hq : h.get? q = none) : Ext W g ρ h (updG g q o) ρ h' where
  gle b o' e := by
    have : b ≠ q := fun r => by have := S.le b o' e; rw [r, hq] at this; cases this
    simp [updG, this, e]
  pre _ _ e := e
  keep b o e _ _ := k b o e
  live b o e := ⟨o, k b o e⟩
  gnew b o' e := by
    unfold updG at e
    split at e
    · rename_i r; right; rw [r]; exact hq
    · exact .inl ⟨o', e⟩
  mnew _ m := .inl m

theorem St.pushG (S : St an P h₀ g ρ σ h) (o : Obj) (hf : o.isFreed = false) : St an P h₀ (updG g h.objs.size o) ρ σ (h.push o) :=
  S.addG (fun b o' e => Heap.get?_push_of_some _ e) (get?_size h) (Heap.get?_push_size _ hf)
theorem Ext.pushG (S : St an P h₀ g ρ σ h) (o : Obj) : Ext W g ρ h (updG g h.objs.size o) ρ (h.push o) :=
  Ext.addG S (fun b o' e => Heap.get?_push_of_some _ e) (get?_size h)

theorem append_get {α : Type} {l : List α} {x y : α} {i : Nat} (e : (l ++ [x])[i]? = some y) : l[i]? = some y ∨ (i = l.length ∧ y = x) := by
  rcases Nat.lt_or_ge i l.length with q | q
  · left; rwa [List.getElem?_append_left q] at e
  · right
    rw [List.getElem?_append_right q] at e
    rcases Nat.eq_zero_or_pos (i - l.length) with z | z
    · rw [z] at e; simp at e; exact ⟨by omega, e.symm⟩
    · rw [List.getElem?_eq_none (by simp only [List.length_singleton]; omega)] at e; cases e
theorem append_pre {α : Type} {l : List α} {x : α} (i : Nat) (p : α) (e : l[i]? = some p) : (l ++ [x])[i]? = some p := by
  rw [List.getElem?_append_left (List.getElem?_eq_some_iff.mp e).1]; exact e

theorem St.addM {p : Addr × Addr} {m : MObj} (S : St an P h₀ g ρ σ h) (k : ∀ b o, h.get? b = some o → h'.get? b = some o) (f1 : h.get? p.1 = none) (f2 : h.get? p.2 = none) (hm : MIs an P (ρ ++ [p]) g h' p m) :
    St an P h₀ g (ρ ++ [p]) (σ ++ [m]) h' := by
  have live : ∀ {b}, InMut ρ b → b ≠ p.1 ∧ b ≠ p.2 := fun m => by obtain ⟨o, e⟩ := S.alive m; exact ⟨fun q => (by rw [q, f1] at e; cases e), fun q => (by rw [q, f2] at e; cases e)⟩
  refine ⟨S.base, fun b o e => k b o (S.le b o e), fun b m => ?_, fun i j p' q hij e1 e2 => ?_, by rw [List.length_append, List.length_append, S.len]; rfl, fun i p' m' e1 e2 => ?_⟩
  · obtain ⟨p', hp, hb⟩ := m
    rcases List.mem_append.mp hp with hp | hp
    · exact S.off b ⟨p', hp, hb⟩
    · rw [List.mem_singleton.mp hp] at hb
      cases e : g b with
      | none => rfl
      | some o =>
        have q := S.le b o e
        rcases hb with hb | hb
        · rw [hb, f1] at q; cases q
        · rw [hb, f2] at q; cases q
  · rcases append_get e1 with d1 | ⟨i1, i2⟩ <;> rcases append_get e2 with d2 | ⟨j1, j2⟩
    · exact S.sep i j p' q hij d1 d2
    · have a := live (inMut_of d1).1
      have b := live (inMut_of d1).2
      rw [j2]
      exact ⟨a.1, a.2, b.1, b.2⟩
    · have a := live (inMut_of d2).1
      have b := live (inMut_of d2).2
      rw [i2]
      exact ⟨Ne.symm a.1, Ne.symm b.1, Ne.symm a.2, Ne.symm b.2⟩
    · exact absurd (i1.trans j1.symm) hij
  · rcases append_get e1 with e1' | ⟨i1, i2⟩
    · rcases append_get e2 with e2' | ⟨j1, j2⟩
      · exact (S.obj i p' m' e1' e2').mono (fun _ _ e => e) append_pre (fun o e => k _ o e) fun o e => k _ o e
      · exact absurd (List.getElem?_eq_some_iff.mp e1').1 (Nat.not_lt.mpr (Nat.le_of_eq (S.len.trans j1.symm)))
    · rcases append_get e2 with e2' | ⟨j1, j2⟩
      · exact absurd (List.getElem?_eq_some_iff.mp e2').1 (Nat.not_lt.mpr (Nat.le_of_eq (S.len.symm.trans i1.symm)))
      · rw [i2, j2]; exact hm
theorem Ext.addM {p : Addr × Addr} (k : ∀ b o, h.get? b = some o → h'.get? b = some o) (f1 : h.get? p.1 = none) (f2 : h.get? p.2 = none) : Ext W g ρ h g (ρ ++ [p]) h' where
  gle _ _ e := e
  pre := append_pre
  keep b o' e _ _ := k b o' e
  live b o' e := ⟨o', k b o' e⟩
  gnew _ o' e := .inl ⟨o', e⟩
  mnew b m := by
    obtain ⟨p', hp, hb⟩ := m
    rcases List.mem_append.mp hp with hp | hp
    · exact .inl ⟨p', hp, hb⟩
    · rw [List.mem_singleton.mp hp] at hb
      rcases hb with hb | hb
      · exact .inr (hb ▸ f1)
      · exact .inr (hb ▸ f2)
theorem St.pushM {l : List D} {items : Array Value} (S : St an P h₀ g ρ σ h) (hz : items.size ≤ sizeLine) (hd : IsDs an P g l items.toList) :
    St an P h₀ g (ρ ++ [(h.objs.size, h.objs.size)]) (σ ++ [.lst l]) (h.push { cls := .type "list", data := .seq items }) :=
  S.addM (fun b o e => Heap.get?_push_of_some _ e) (get?_size h) (get?_size h) ⟨rfl, items, ⟨_, _, Heap.get?_push_size _ rfl, rfl, rfl, rfl⟩, hz, hd⟩
theorem Ext.pushM (S : St an P h₀ g ρ σ h) (o : Obj) : Ext W g ρ h g (ρ ++ [(h.objs.size, h.objs.size)]) (h.push o) :=
  Ext.addM (fun b o e => Heap.get?_push_of_some _ e) (get?_size h) (get?_size h)

theorem St.setM {n : Nat} {p : Addr × Addr} {m' : MObj} (S : St an P h₀ g ρ σ h) (hp : ρ[n]? = some p) (hm : MIs an P ρ g h' p m')
    (k : ∀ b o, b ≠ p.1 → b ≠ p.2 → h.get? b = some o → h'.get? b = some o) : St an P h₀ g ρ (σ.set n m') h' where
  base := S.base
  le b o e := k b o (fun q => by rw [q, S.off _ (inMut_of hp).1] at e; cases e) (fun q => by rw [q, S.off _ (inMut_of hp).2] at e; cases e) (S.le b o e)
  off := S.off
  sep := S.sep
  len := by simp [S.len]
  obj i q m e1 e2 := by
    by_cases hi : i = n
    · subst hi
      rw [hp] at e1; cases e1
      rw [List.getElem?_set_self (by rw [← S.len]; exact (List.getElem?_eq_some_iff.mp hp).1)] at e2
      cases e2
      exact hm
    · rw [List.getElem?_set_ne (Ne.symm hi)] at e2
      obtain ⟨a1, a2, a3, a4⟩ := S.sep i n q p hi e1 hp
      exact (S.obj i q m e1 e2).mono (fun _ _ e => e) (fun _ _ e => e) (fun o => k _ o a1 a2) fun o => k _ o a3 a4
theorem Ext.setM {n : Nat} {p : Addr × Addr} (hp : ρ[n]? = some p) (k : ∀ b o, b ≠ p.1 → b ≠ p.2 → h.get? b = some o → h'.get? b = some o)
    (l1 : ∃ o, h'.get? p.1 = some o) (l2 : ∃ o, h'.get? p.2 = some o) : Ext W g ρ h g ρ h' where
  gle _ _ e := e
  pre _ _ e := e
  keep b o e _ m := k b o (fun q => m (q ▸ (inMut_of hp).1)) (fun q => m (q ▸ (inMut_of hp).2)) e
  live b o e := by
    by_cases h1 : b = p.1
    · rw [h1]; exact l1
    · by_cases h2 : b = p.2
      · rw [h2]; exact l2
      · exact ⟨o, k b o h1 h2 e⟩
  gnew _ o e := .inl ⟨o, e⟩
  mnew _ m := .inl m

end

noncomputable def sh (s : Shared) (h : Heap) (tk : Nat) : Shared := { s with heap := h, toks := tk }
noncomputable def Out (an : Nat → Str) (P : Params) (h₀ : Heap) (g : G) (ρ : Rho) (h : Heap) (s : Shared) (v : V) (σ' : Sto) (Q : Value → Shared → Prop) : Prop :=
  ∀ ⦃val g' ρ' h' tk⦄, St an P h₀ g' ρ' σ' h' → Ext (fun _ => False) g ρ h g' ρ' h' → IsV an P ρ' g' v val → Q val (sh s h' tk)
theorem Out.of {an : Nat → Str} {P : Params} {h₀ : Heap} {g : G} {ρ : Rho} {h : Heap} {s : Shared} {v u : V} {σ' τ : Sto} {Q : Value → Shared → Prop} (hQ : Out an P h₀ g ρ h s v σ' Q) (e : some (u, τ) = some (v, σ')) : Out an P h₀ g ρ h s u τ Q := by
  cases e; exact hQ
noncomputable def OutT (an : Nat → Str) (P : Params) (h₀ : Heap) (g : G) (ρ : Rho) (h : Heap) (s : Shared) (σ' : Sto) (Q : Shared → Prop) : Prop :=
  ∀ ⦃g' ρ' h' tk⦄, St an P h₀ g' ρ' σ' h' → Ext (fun _ => False) g ρ h g' ρ' h' → Q (sh s h' tk)
noncomputable abbrev noW : Addr → Prop := fun _ => False

structure Room (A : Around) (n : Nat) : Prop where
  handled : A.handled = none
  depth : A.depth + 2 * n < 900
  units : A.units + 8 * n < 9000
theorem Room.in1 {A : Around} {n : Nat} (r : Room A n) (h : 0 < n) : Room A.in1 (n - 1) := ⟨r.handled, by have := r.depth; show A.depth + _ < _; omega, by have := r.units; show A.units + 1 + _ < _; omega⟩
theorem Room.less {A : Around} {n m : Nat} (r : Room A n) (h : m ≤ n) : Room A m := ⟨r.handled, by have := r.depth; omega, by have := r.units; omega⟩
theorem Room.deeper {A : Around} {n : Nat} {env : Env} (r : Room A (n + 1)) : Room (A.deeper env) n :=
  ⟨r.handled, by have := r.depth; show A.depth + 1 + _ < _; omega, by have := r.units; show A.units + 3 + _ < _; omega⟩

structure Wd (K : Frag) (h₀ : Heap) : Prop where
  k : K.In h₀
  g : ∃ mg, h₀.Ns mainGlobals mg
  b : ∃ mb, h₀.Ns builtinsNs mb ∧ ∀ x : Str, x ≠ "__name__" → mb x = bootBuiltins x
  lim : h₀.NoLimit

noncomputable def kindIn (sc : List (Str × NameKind)) (x : Str) : Option NameKind := sc.lookup x
structure EnvOk (an : Nat → Str) (P : Params) (env : Env) (vars : List Str) (m : Mem) (g : G) (ρ : Rho) (h : Heap) : Prop where
  kind : env.scope.kind = .function
  globals : env.globals = mainGlobals
  builtins : env.builtins = builtinsNs
  nodup : vars.Nodup
  ns : ∃ mr, h.Ns env.locals mr ∧ ∀ (i : Nat) x v, vars[i]? = some x → m[i]? = some (some v) → env.kindOf x = some .local → ∃ val, mr x = some val ∧ IsV an P ρ g v val
  cell : ∀ (i : Nat) x, vars[i]? = some x → (env.kindOf x = some .cell ∨ env.kindOf x = some .free) → ∃ c ov, env.cells.lookup x = some c ∧ h.IsCell c ov ∧ ∀ v, m[i]? = some (some v) → ∃ val, ov = some val ∧ IsV an P ρ g v val
  known : ∀ (i : Nat) x, vars[i]? = some x → env.kindOf x = some .local ∨ env.kindOf x = some .cell ∨ env.kindOf x = some .free
  loff : g env.locals = none ∧ ¬ InMut ρ env.locals
  coff : ∀ x c, env.cells.lookup x = some c → g c = none ∧ ¬ InMut ρ c ∧ c ≠ env.locals
  apart : ∀ x y c, env.cells.lookup x = some c → env.cells.lookup y = some c → x = y
  calive : ∀ x c, env.cells.lookup x = some c → ∃ o, h.get? c = some o
noncomputable def EnvR (env : Env) (b : Addr) : Prop := b = env.locals ∨ ∃ x, env.cells.lookup x = some b
noncomputable def EnvW (env : Env) (b : Addr) : Prop := b = env.locals ∨ (env.func ≠ none ∧ ∃ x, env.cells.lookup x = some b)
theorem EnvW.r {env : Env} {b : Addr} (h : EnvW env b) : EnvR env b := h.imp id fun x => x.2

section
variable {an : Nat → Str} {P : Params} {h₀ : Heap} {g g' : G} {ρ ρ' : Rho} {σ σ' : Sto} {h h' : Heap} {W : Addr → Prop} {env : Env} {vars : List Str} {m : Mem}
theorem EnvOk.ext (N : EnvOk an P env vars m g ρ h) (X : Ext W g ρ h g' ρ' h') (hw : ∀ b, EnvR env b → ¬ W b) : EnvOk an P env vars m g' ρ' h' := by
  obtain ⟨mr, hn, hm⟩ := N.ns
  obtain ⟨oL, es, ep, hL, r⟩ := id hn
  have hL' := X.keep _ _ hL (hw _ (.inl rfl)) N.loff.2
  refine ⟨N.kind, N.globals, N.builtins, N.nodup, ⟨mr, ⟨oL, es, ep, hL', r⟩, fun i x v e1 e2 e3 => ?_⟩, fun i x e1 e2 => ?_, N.known, ?_, fun x c e => ?_, N.apart, fun x c e => ?_⟩
  · obtain ⟨val, q1, q2⟩ := hm i x v e1 e2 e3
    exact ⟨val, q1, q2.mono X.gle X.pre⟩
  · obtain ⟨c, ov, q1, ⟨oc, q2, q2'⟩, q3⟩ := N.cell i x e1 e2
    refine ⟨c, ov, q1, ⟨oc, X.keep _ _ q2 (hw _ (.inr ⟨x, q1⟩)) (N.coff x c q1).2.1, q2'⟩, fun v ev => ?_⟩
    obtain ⟨val, q4, q5⟩ := q3 v ev
    exact ⟨val, q4, q5.mono X.gle X.pre⟩
  · refine ⟨?_, fun q => ?_⟩
    · cases e : g' env.locals with
      | none => rfl
      | some o =>
        rcases X.gnew _ o e with ⟨o', q⟩ | q
        · rw [N.loff.1] at q; cases q
        · rw [hL] at q; cases q
    · rcases X.mnew _ q with q | q
      · exact N.loff.2 q
      · rw [hL] at q; cases q
  · obtain ⟨a1, a2, a3⟩ := N.coff x c e
    obtain ⟨oc, ho⟩ := N.calive x c e
    refine ⟨?_, fun q => ?_, a3⟩
    · cases e' : g' c with
      | none => rfl
      | some o =>
        rcases X.gnew _ o e' with ⟨o', q⟩ | q
        · rw [a1] at q; cases q
        · rw [ho] at q; cases q
    · rcases X.mnew _ q with q | q
      · exact a2 q
      · rw [ho] at q; cases q
  · obtain ⟨oc, ho⟩ := N.calive x c e
    exact X.live _ _ ho
end

section
variable {α β γ : Type} {P' : Prop}
theorem noS {r : α} (h : (none : Option α) = some r) : P' := nomatch h
theorem obind {x : Option (α × β)} {f : α × β → Option γ} {r : γ} (h : x.bind f = some r) (k : ∀ a b, x = some (a, b) → f (a, b) = some r → P') : P' := by
  cases x with
  | none => exact noS h
  | some p => exact k p.1 p.2 rfl h
theorem obind1 {x : Option α} {f : α → Option γ} {r : γ} (h : x.bind f = some r) (k : ∀ a, x = some a → f a = some r → P') : P' := by
  cases x with
  | none => exact noS h
  | some p => exact k p rfl h
theorem omap {x : Option (α × β)} {f : α × β → γ} {r : γ} (h : x.map f = some r) (k : ∀ a b, x = some (a, b) → some (f (a, b)) = some r → P') : P' := by
  cases x with
  | none => exact noS h
  | some p => exact k p.1 p.2 rfl h
theorem omap1 {x : Option α} {f : α → γ} {r : γ} (h : x.map f = some r) (k : ∀ a, x = some a → some (f a) = some r → P') : P' := by
  cases x with
  | none => exact noS h
  | some p => exact k p rfl h
theorem whenB_el {b : Bool} {x r : α} (h : whenB b x = some r) (k : b = true → some x = some r → P') : P' := by
  cases b with
  | false => exact noS h
  | true => exact k rfl h
theorem whenO_el {b : Bool} {x : Option α} {r : α} (h : whenO b x = some r) (k : b = true → x = some r → P') : P' := by
  cases b with
  | false => exact noS h
  | true => exact k rfl h
theorem orElse_el {x y : Option α} {r : α} (h : orElse x y = some r) (k : x = some r → P') (l : y = some r → P') : P' := by
  cases x with
  | none => exact l h
  | some p => exact k h
theorem atL_el {σ : Sto} {n : Nat} {f : List D → Option α} {r : α} (h : atL σ n f = some r) (k : ∀ l, σ[n]? = some (.lst l) → f l = some r → P') : P' :=
  obind1 h fun a e h => by
    cases a with
    | lst l => exact k l e h
    | obj => exact noS h
theorem atO_el {σ : Sto} {n : Nat} {f : Nat → List Nat → List V → Option α} {r : α} (h : atO σ n f = some r) (k : ∀ c ks vs, σ[n]? = some (.obj c ks vs) → f c ks vs = some r → P') : P' :=
  obind1 h fun a e h => by
    cases a with
    | lst l => exact noS h
    | obj c ks vs => exact k c ks vs e h
theorem den1_el {f : Sto → Option (V × Sto)} {F : V → Sto → Option α} {σ : Sto} {r : α} (h : den1 f F σ = some r) (k : ∀ v τ, f σ = some (v, τ) → F v τ = some r → P') : P' := obind h k
theorem den2_el {f g : Sto → Option (V × Sto)} {F : V → V → Sto → Option α} {σ : Sto} {r : α} (h : den2 f g F σ = some r) (k : ∀ v τ u υ, f σ = some (v, τ) → g τ = some (u, υ) → F v u υ = some r → P') : P' :=
  obind h fun v τ h1 h => obind h fun u υ h2 h => k v τ u υ h1 h2 h
theorem denS_el {f : Sto → Option (List V × Sto)} {F : List V → Sto → Option α} {σ : Sto} {r : α} (h : denS f F σ = some r) (k : ∀ v τ, f σ = some (v, τ) → F v τ = some r → P') : P' := obind h k
end
section
variable {α : Type} {an : Nat → Str} {P : Params} {ρ : Rho} {g : G} {val : Value} {r : α}
@[elab_as_elim] theorem dI_is {x : D} {f : Int → Option α} {G : D → Value → Prop} (hv : IsD an P g x val) (h : x.onI f = some r) (k : ∀ i t, f i = some r → G (.int i) (.int i t)) : G x val := by
  cases x with
  | int i => obtain ⟨t, hv⟩ := hv; exact hv ▸ k i t h
  | _ => exact noS h
@[elab_as_elim] theorem dB_is {x : D} {f : Bool → Option α} {G : D → Value → Prop} (hv : IsD an P g x val) (h : x.onB f = some r) (k : ∀ b, f b = some r → G (.bool b) (.bool b)) : G x val := by
  cases x with
  | bool b => exact (show val = .bool b from hv) ▸ k b h
  | _ => exact noS h
@[elab_as_elim] theorem dT_is {x : D} {f : List D → Option α} {G : D → Prop} (h : x.onT f = some r) (k : ∀ l, f l = some r → G (.tup l)) : G x := by
  cases x with
  | tup l => exact k l h
  | _ => exact noS h
@[elab_as_elim] theorem dL_is {x : D} {f : List D → Option α} {G : D → Prop} (h : x.onL f = some r) (k : ∀ l, f l = some r → G (.lst l)) : G x := by
  cases x with
  | lst l => exact k l h
  | _ => exact noS h
@[elab_as_elim] theorem onD_is {v : V} {f : D → Option α} {G : V → Prop} (h : v.onD f = some r) (k : ∀ x, f x = some r → G (.d x)) : G v := by
  cases v with
  | d x => exact k x h
  | _ => exact noS h
@[elab_as_elim] theorem onI_is {v : V} {f : Int → Option α} {G : V → Value → Prop} (hv : IsV an P ρ g v val) (h : v.onI f = some r) (k : ∀ i t, f i = some r → G (.d (.int i)) (.int i t)) : G v val := by
  cases v with
  | d x => exact dI_is (G := fun x => G (.d x)) hv h k
  | _ => exact noS h
@[elab_as_elim] theorem onB_is {v : V} {f : Bool → Option α} {G : V → Value → Prop} (hv : IsV an P ρ g v val) (h : v.onB f = some r) (k : ∀ b, f b = some r → G (.d (.bool b)) (.bool b)) : G v val := by
  cases v with
  | d x => exact dB_is (G := fun x => G (.d x)) hv h k
  | _ => exact noS h
@[elab_as_elim] theorem onB_el {v : V} {f : Bool → Option α} {G : V → Prop} (h : v.onB f = some r) (k : ∀ b, f b = some r → G (.d (.bool b))) : G v := by
  cases v with
  | d x =>
    cases x with
    | bool b => exact k b h
    | _ => exact noS h
  | _ => exact noS h
@[elab_as_elim] theorem onI_el {v : V} {f : Int → Option α} {G : V → Prop} (h : v.onI f = some r) (k : ∀ i, f i = some r → G (.d (.int i))) : G v := by
  cases v with
  | d x =>
    cases x with
    | int b => exact k b h
    | _ => exact noS h
  | _ => exact noS h
@[elab_as_elim] theorem onR_is {v : V} {f : Nat → Option α} {G : V → Value → Prop} (hv : IsV an P ρ g v val) (h : v.onR f = some r) (k : ∀ n p, ρ[n]? = some p → f n = some r → G (.ref n) (.ref p.1)) : G v val := by
  cases v with
  | ref n => obtain ⟨p, h1, hv⟩ := hv; exact hv ▸ k n p h1 h
  | _ => exact noS h
end

section
variable {prog : Program} {w : World} {K : Frag} {h₀ : Heap} {an : Nat → Str} {Φ : Tab} {n : Nat} {sc : List (Str × NameKind)} {vars : List Str}

noncomputable def SoundE (prog : Program) (w : World) (h₀ : Heap) (an : Nat → Str) (Φ : Tab) (n : Nat) (sc : List (Str × NameKind)) (vars : List Str) (e : PySem.Expr) (me : E) : Prop :=
  ∀ ⦃env : Env⦄ ⦃A : Around⦄ ⦃Er : Value → Shared → Prop⦄ ⦃s : Shared⦄ ⦃h : Heap⦄ ⦃tk : Nat⦄ ⦃g : G⦄ ⦃ρ : Rho⦄ ⦃σ : Sto⦄ ⦃m : Mem⦄ ⦃v : V⦄ ⦃σ' : Sto⦄ ⦃Q : Value → Shared → Prop⦄, env.scope.names = sc → Room A n →
    EnvOk an w.params env vars m g ρ h → St an w.params h₀ g ρ σ h → E.den Φ m me σ = some (v, σ') → Out an w.params h₀ g ρ h s v σ' Q →
    wpAny (model prog w) A (eval e env) Q Er (sh s h tk)

noncomputable def SoundT (prog : Program) (w : World) (h₀ : Heap) (an : Nat → Str) (Φ : Tab) (n : Nat) (sc : List (Str × NameKind)) (vars : List Str) (e : PySem.Expr) (me : E) : Prop :=
  ∀ ⦃env : Env⦄ ⦃A : Around⦄ ⦃Er : Value → Shared → Prop⦄ ⦃s : Shared⦄ ⦃h : Heap⦄ ⦃tk : Nat⦄ ⦃g : G⦄ ⦃ρ : Rho⦄ ⦃σ : Sto⦄ ⦃m : Mem⦄ ⦃b : Bool⦄ ⦃σ' : Sto⦄ ⦃Q : Bool → Shared → Prop⦄, env.scope.names = sc → Room A n →
    EnvOk an w.params env vars m g ρ h → St an w.params h₀ g ρ σ h → E.den Φ m me σ = some (.d (.bool b), σ') → OutT an w.params h₀ g ρ h s σ' (Q b) →
    wpAny (model prog w) A (isTrue e env (eval e env)) Q Er (sh s h tk)

theorem noW_env {env : Env} : ∀ b, EnvR env b → ¬ noW b := fun _ _ h => h

theorem Out.here {s : Shared} {g : G} {ρ : Rho} {σ : Sto} {h : Heap} {v u : V} {val : Value} {P : Params} {τ : Sto} {Q : Value → Shared → Prop} (hQ : Out an P h₀ g ρ h s v σ Q) (S : St an P h₀ g ρ τ h) (e : some (u, τ) = some (v, σ)) (c : IsV an P ρ g u val) (tk : Nat) : Q val (sh s h tk) :=
  hQ.of e S Ext.rfl' c

theorem Out.toD {Pm : Params} {g : G} {ρ : Rho} {h : Heap} {s : Shared} {v : V} {σ' τ : Sto} {x : Option D} {Q : Value → Shared → Prop} (hQ : Out an Pm h₀ g ρ h s v σ' Q) (e : retD x τ = some (v, σ')) {P' : Prop} (k : ∀ d, x = some d → Out an Pm h₀ g ρ h s (.d d) τ Q → P') : P' :=
  omap1 e fun d hd e => k d hd (hQ.of e)
theorem Out.toV {Pm : Params} {g : G} {ρ : Rho} {h : Heap} {s : Shared} {v : V} {σ' τ : Sto} {x : Option V} {Q : Value → Shared → Prop} (hQ : Out an Pm h₀ g ρ h s v σ' Q) (e : retV x τ = some (v, σ')) {P' : Prop} (k : ∀ d, x = some d → Out an Pm h₀ g ρ h s d τ Q → P') : P' :=
  omap1 e fun d hd e => k d hd (hQ.of e)
theorem Out.then {Pm : Params} {g g1 : G} {ρ ρ1 : Rho} {h h1 : Heap} {s : Shared} {v : Mine.V} {σ' : Sto} {Q : Value → Shared → Prop} (hQ : Out an Pm h₀ g ρ h s v σ' Q) (X : Ext noW g ρ h g1 ρ1 h1) : Out an Pm h₀ g1 ρ1 h1 s v σ' Q :=
  fun _ _ _ _ _ S' X' hv => hQ S' (X.trans X') hv
theorem OutT.then {Pm : Params} {g g1 : G} {ρ ρ1 : Rho} {h h1 : Heap} {s : Shared} {σ' : Sto} {Q : Shared → Prop} (hQ : OutT an Pm h₀ g ρ h s σ' Q) (X : Ext noW g ρ h g1 ρ1 h1) : OutT an Pm h₀ g1 ρ1 h1 s σ' Q :=
  fun _ _ _ _ S' X' => hQ S' (X.trans X')
theorem Out.at {Pm : Params} {g : G} {ρ : Rho} {h : Heap} {s : Shared} {v : Mine.V} {σ' : Sto} {val : Value} {tk : Nat} {Q : Value → Shared → Prop} (hQ : Out an Pm h₀ g ρ h s v σ' Q) (S : St an Pm h₀ g ρ σ' h) (hv : IsV an Pm ρ g v val) : Q val (sh s h tk) := hQ S Ext.rfl' hv
theorem OutT.at {Pm : Params} {g : G} {ρ : Rho} {h : Heap} {s : Shared} {σ' : Sto} {tk : Nat} {Q : Shared → Prop} (hQ : OutT an Pm h₀ g ρ h s σ' Q) (S : St an Pm h₀ g ρ σ' h) : Q (sh s h tk) := hQ S Ext.rfl'
theorem ev1 {a : PySem.Expr} {ma : E} (ha : SoundE prog w h₀ an Φ n sc vars a ma) {env : Env} {A : Around} {Er : Value → Shared → Prop} {s : Shared} {h : Heap} {tk : Nat} {g : G} {ρ : Rho} {σ τ : Sto} {m : Mem} {u v : Mine.V} {σ' : Sto} {Q Q' : Value → Shared → Prop} (hsc : env.scope.names = sc) (R : Room A n)
    (N : EnvOk an w.params env vars m g ρ h) (S : St an w.params h₀ g ρ σ h) (h1 : E.den Φ m ma σ = some (u, τ)) (hQ : Out an w.params h₀ g ρ h s v σ' Q)
    (k : ∀ ⦃val g' ρ' h' tk'⦄, St an w.params h₀ g' ρ' τ h' → Out an w.params h₀ g' ρ' h' s v σ' Q → IsV an w.params ρ' g' u val → Q' val (sh s h' tk')) : wpAny (model prog w) A (eval a env) Q' Er (sh s h tk) :=
  ha hsc R N S h1 fun _ _ _ _ _ S1 X1 hv => k S1 (hQ.then X1) hv
theorem ev2 {a b : PySem.Expr} {ma mb : E} (ha : SoundE prog w h₀ an Φ n sc vars a ma) (hb : SoundE prog w h₀ an Φ n sc vars b mb) {env : Env} {A : Around} {Er : Value → Shared → Prop} {s : Shared} {h : Heap} {tk : Nat} {g : G} {ρ : Rho} {σ τ υ : Sto} {m : Mem} {u1 u2 v : Mine.V} {σ' : Sto} {Q : Value → Shared → Prop} {Q' : Value → Value → Shared → Prop} (hsc : env.scope.names = sc) (R : Room A n)
    (N : EnvOk an w.params env vars m g ρ h) (S : St an w.params h₀ g ρ σ h) (h1 : E.den Φ m ma σ = some (u1, τ)) (h2 : E.den Φ m mb τ = some (u2, υ)) (hQ : Out an w.params h₀ g ρ h s v σ' Q)
    (k : ∀ ⦃val1 val2 g' ρ' h' tk'⦄, St an w.params h₀ g' ρ' υ h' → Out an w.params h₀ g' ρ' h' s v σ' Q → IsV an w.params ρ' g' u1 val1 → IsV an w.params ρ' g' u2 val2 → Q' val1 val2 (sh s h' tk')) :
    wpAny (model prog w) A (eval a env) (fun val1 s1 => wpAny (model prog w) A (eval b env) (Q' val1) Er s1) Er (sh s h tk) :=
  ha hsc R N S h1 fun _ _ _ _ _ S1 X1 hv1 => hb hsc R (N.ext X1 noW_env) S1 h2 fun _ _ _ _ _ S2 X2 hv2 => k S2 ((hQ.then X1).then X2) (hv1.mono X2.gle X2.pre) hv2

theorem T_of_E {e : PySem.Expr} {me : E} (h : SoundE prog w h₀ an Φ n sc vars e me)
    (he : ∀ env whole, isTrue e env whole = (do let v ← whole; standAt e.pos; holding [v] (truthy v))) : SoundT prog w h₀ an Φ n sc vars e me := by
  intro env A Er s h₁ tk g ρ σ m b σ' Q hsc R N S hd hQ
  refine wpAny_isTrue_value (h hsc R N S hd fun val g' ρ' h' tk' S' X' hv => ?_) (he env _)
  rw [show val = .bool b from hv]
  exact wpAny_truthy_bool (hQ S' X')

theorem E_int (i : Int) (k : Nat) (pos : Pos) : SoundE prog w h₀ an Φ n sc vars (.Constant (.int i) k pos) (.lit (.int i)) := by
  intro env A Er s h tk g ρ σ m v σ' Q _ R N S hd hQ
  exact wpAny_Constant_int (hQ.here S hd ⟨_, rfl⟩ _)
theorem E_str (x : Str) (k : Nat) (pos : Pos) : SoundE prog w h₀ an Φ n sc vars (.Constant (.str x) k pos) (.lit (.str x)) := by
  intro env A Er s h tk g ρ σ m v σ' Q _ R N S hd hQ
  exact wpAny_Constant_str (hQ.here S hd ⟨_, rfl⟩ _)
theorem E_none (k : Nat) (pos : Pos) : SoundE prog w h₀ an Φ n sc vars (.Constant .none k pos) (.lit .none) := by
  intro env A Er s h tk g ρ σ m v σ' Q _ R N S hd hQ
  exact wpAny_Constant_none (hQ.here S hd rfl tk)
theorem E_bool (b : Bool) (k : Nat) (pos : Pos) : SoundE prog w h₀ an Φ n sc vars (.Constant (.bool b) k pos) (.lit (.bool b)) := by
  intro env A Er s h tk g ρ σ m v σ' Q _ R N S hd hQ
  exact wpAny_Constant_bool (hQ.here S hd rfl tk)

theorem getD_is {m : Mem} {i : Nat} {v : V} (h : m.getD i none = some v) : m[i]? = some (some v) := by
  rw [List.getD_eq_getElem?_getD] at h
  cases e : m[i]? with
  | none => rw [e] at h; cases h
  | some o => rw [e] at h; exact congrArg some h

theorem E_loc {i : Nat} {x : Str} {pos : Pos} (hx : vars[i]? = some x) (hd' : (x == ("__debug__" : Str)) = false) (hcd : (x == ("__classdict__" : Str)) = false) : SoundE prog w h₀ an Φ n sc vars (.Name x pos) (.loc i) := by
  intro env A Er s h tk g ρ σ m v σ' Q hsc R N S hd hQ
  refine wpAny_Name (omap1 hd fun u hm hd => ?_) hd'
  have hm := getD_is hm
  rcases N.known i x hx with hk | hk | hk
  · obtain ⟨mr, hn, hv⟩ := N.ns
    obtain ⟨val, h1, h2⟩ := hv i x u hx hm hk
    exact wpAny_loadName_local N.kind hk hn h1 (hQ.here S hd h2 tk)
  · obtain ⟨c, ov, h1, h2, h3⟩ := N.cell i x hx (.inl hk)
    obtain ⟨val, rfl, h5⟩ := h3 u hm
    exact wpAny_loadName_cell N.kind hk h1 h2 (hQ.here S hd h5 tk)
  · obtain ⟨c, ov, h1, h2, h3⟩ := N.cell i x hx (.inr hk)
    obtain ⟨val, rfl, h5⟩ := h3 u hm
    exact wpAny_loadName_free N.kind hk h1 h2 (hQ.here S hd h5 tk) hcd

theorem name_global (D : Wd K h₀) {env : Env} {A : Around} {Er : Value → Shared → Prop} {s : Shared} {g : G} {ρ : Rho} {σ : Sto} {m : Mem} {x : Str} {pos : Pos} {val : Value} {Q : Value → Shared → Prop}
    (N : EnvOk an w.params env vars m g ρ s.heap) (S : St an w.params h₀ g ρ σ s.heap) (hk : env.kindOf x = some .globalImplicit) (hx : nsIn K mainGlobals x = some (some val)) (hd' : (x == ("__debug__" : Str)) = false) (h : Q val s) :
    wpAny (model prog w) A (eval (.Name x pos) env) Q Er s := by
  refine wpAny_Name ?_ hd'
  rw [loadName_read N.kind hk]
  unfold loadGlobal
  rw [N.globals]
  exact wpAny_bind (((looks_nsIn (D.k.keeps fun b o e => S.heapOf b o e) hx)).here (wpAny_pure h))
theorem name_builtin (D : Wd K h₀) {env : Env} {A : Around} {Er : Value → Shared → Prop} {s : Shared} {g : G} {ρ : Rho} {σ : Sto} {m : Mem} {x : Str} {pos : Pos} {val : Value} {Q : Value → Shared → Prop}
    (N : EnvOk an w.params env vars m g ρ s.heap) (S : St an w.params h₀ g ρ σ s.heap) (hk : env.kindOf x = some .globalImplicit) (hx : nsIn K mainGlobals x = some none) (hb : bootBuiltins x = some val)
    (hd' : (x == ("__debug__" : Str)) = false) (hn : x ≠ "__name__") (h : Q val s) :
    wpAny (model prog w) A (eval (.Name x pos) env) Q Er s := by
  refine wpAny_Name ?_ hd'
  rw [loadName_read N.kind hk]
  unfold loadGlobal
  rw [N.globals, N.builtins]
  obtain ⟨mb, hb1, hb2⟩ := D.b
  refine wpAny_bind (((looks_nsIn (D.k.keeps fun b o e => S.heapOf b o e) hx)).here ?_)
  refine wpAny_bind (wpAny_nsGet (hb1.keeps fun b o e => S.heapOf b o e) ?_)
  rw [hb2 x hn, hb]
  exact wpAny_pure h

theorem E_not {e : PySem.Expr} {me : E} {pos : Pos} (h : SoundE prog w h₀ an Φ n sc vars e me) : SoundE prog w h₀ an Φ n sc vars (.UnaryOp .Not e pos) (.not me) := by
  intro env A Er s h₁ tk g ρ σ m v σ' Q hsc R N S hd hQ
  refine den1_el hd fun v1 σ1 h1 hd => hQ.toD hd fun x hx hQ => wpAny_UnaryOp (ev1 h hsc R N S h1 hQ fun val g' ρ' h' tk' S' hQ hv => onB_is hv hx fun b hx => ?_)
  cases hx
  exact not_value (wpAny_truthy_bool (hQ.at S' rfl))
theorem T_not {e : PySem.Expr} {me : E} {pos : Pos} (h : SoundT prog w h₀ an Φ n sc vars e me) : SoundT prog w h₀ an Φ n sc vars (.UnaryOp .Not e pos) (.not me) := by
  intro env A Er s h₁ tk g ρ σ m b σ' Q hsc R N S hd hQ
  refine den1_el hd fun v1 σ1 h1 hd => wpAny_isTrue_Not (omap1 hd fun x hx hd => onB_el (G := fun v => E.den Φ m me σ = some (v, σ1) → _) hx (fun b' hx h1 => ?_) h1)
  cases hx
  cases hd
  exact h hsc R N S h1 hQ
theorem E_neg {e : PySem.Expr} {me : E} {pos : Pos} (h : SoundE prog w h₀ an Φ n sc vars e me) : SoundE prog w h₀ an Φ n sc vars (.UnaryOp .USub e pos) (.neg me) := by
  intro env A Er s h₁ tk g ρ σ m v σ' Q hsc R N S hd hQ
  refine den1_el hd fun v1 σ1 h1 hd => hQ.toD hd fun x hx hQ => wpAny_UnaryOp (ev1 h hsc R N S h1 hQ fun val g' ρ' h' tk' S' hQ hv => onI_is hv hx fun i t hx => ?_)
  cases hx
  exact P.neg_int (hQ.at S' ⟨_, rfl⟩)

theorem small_bits {i : Int} (h : small i = true) : Builtin.Int.intBits i ≤ 64 :=
  have h := Bool.and_eq_true_iff.mp h
  intBits_le_64 (of_decide_eq_true h.1) (of_decide_eq_true h.2)
theorem small_mul {i j : Int} (h : (small i || small j) = true) : IntMulOk i j := by
  rcases Bool.or_eq_true_iff.mp h with h | h
  · exact IntMulOk.of_left (small_bits h)
  · exact IntMulOk.of_right (small_bits h)

theorem noPyl {i j : Int} (h1 : 0 < j) (h2 : j < 10 ^ 95) : Builtin.divisionGoesByPylong i j = false := by
  refine PyProof.noPylong_of_log2 ?_
  have h3 : j.natAbs < 2 ^ 400 := Nat.lt_of_lt_of_le (by omega : j.natAbs < 10 ^ 95) (by decide +kernel)
  have : j.natAbs.log2 < 400 := (Nat.log2_lt (by omega)).mpr h3
  omega
theorem and_el {a b : Bool} {P' : Prop} (h : (a && b) = true) (k : a = true → b = true → P') : P' := k (Bool.and_eq_true_iff.mp h).1 (Bool.and_eq_true_iff.mp h).2
theorem and_dec {p q : Prop} [Decidable p] [Decidable q] (h : (decide p && decide q) = true) : p ∧ q := and_el h fun a b => ⟨of_decide_eq_true a, of_decide_eq_true b⟩
theorem bin_ints {op : Operator} {i j k : Int} {t u : Nat} {A : Around} {Er : Value → Shared → Prop} {s : Shared} {h : Heap} {tk : Nat} {Q : Value → Shared → Prop}
    (e : binI op i j = some k) (hQ : ∀ t tk, Q (.int k t) (sh s h tk)) : wpAny (model prog w) A (binaryOp op (.int i t) (.int j u)) Q Er (sh s h tk) := by
  cases op with
  | Add => cases e; exact P.add_int (hQ _ _)
  | Sub => cases e; exact P.sub_int (hQ _ _)
  | Mult => refine whenB_el e fun hs e => ?_; cases e; exact P.mul_int (hQ _ _) (small_mul hs)
  | FloorDiv =>
    refine whenB_el e fun hs e => ?_
    have hs := and_dec hs
    cases e
    exact floordiv_int (Int.ne_of_gt hs.1) ((Int.fdiv_eq_ediv_of_nonneg i (Int.le_of_lt hs.1)).symm ▸ hQ _ _) (Or.inl (noPyl hs.1 hs.2))
  | Mod =>
    refine whenB_el e fun hs e => ?_
    have hs := of_decide_eq_true hs
    cases e
    exact mod_int' (Int.ne_of_gt hs) ((Int.fmod_eq_emod_of_nonneg i (Int.le_of_lt hs)).symm ▸ hQ _ _)
  | Pow =>
    refine whenB_el e fun hs e => and_el hs fun h1 hs => ?_
    have hs := and_dec hs
    cases e
    exact pow_int hs.1 (Int.le_trans (Int.mul_le_mul (Int.ofNat_le.mpr (small_bits h1)) hs.2 hs.1 (by decide)) (by decide)) (hQ _ _)
  | _ => exact noS e
theorem binD_is {op : Operator} {a b : V} {x : D} {va vb : Value} {A : Around} {Er : Value → Shared → Prop} {s : Shared} {h : Heap} {tk : Nat} {ρ : Rho} {g : G} {Pm : Params} {Q : Value → Shared → Prop}
    (e : binD op a b = some x) (ha : IsV an Pm ρ g a va) (hb : IsV an Pm ρ g b vb) (hQ : ∀ val tk, IsD an Pm g x val → Q val (sh s h tk)) : wpAny (model prog w) A (binaryOp op va vb) Q Er (sh s h tk) :=
  onI_is (G := fun _ va => wpAny (model prog w) A (binaryOp op va vb) Q Er (sh s h tk)) ha e fun i t e => onI_is (G := fun _ vb => wpAny (model prog w) A (binaryOp op (.int i t) vb) Q Er (sh s h tk)) hb e fun j u e => omap1 e fun k ek e => bin_ints ek fun t tk => hQ _ _ (Option.some.inj e ▸ ⟨t, rfl⟩)

@[elab_as_elim] theorem lst_is {g : G} {h : Heap} {P : Params} {l : List D} {val : Value} (hle : ∀ b o, g b = some o → h.get? b = some o) (x : IsD an P g (.lst l) val) {G : Value → Prop} (k : ∀ a items, h.IsList a items → items.size ≤ sizeLine → IsDs an P g l items.toList → G (.ref a)) : G val := by
  obtain ⟨a, o, ep, items, hv, h1, h2, h3, h5, h4⟩ := x
  exact hv ▸ k a items ⟨o, hle _ _ h1, h2, ep, h3⟩ h5 h4
theorem mlst_is {σ : Sto} {i : Nat} {l : List D} {p : Addr × Addr} {ρ : Rho} {g : G} {P : Params} {h : Heap} (S : St an P h₀ g ρ σ h) (e : σ[i]? = some (.lst l)) (hp : ρ[i]? = some p) {G : Prop} (k : ∀ items, PlainL h p.1 items → items.size ≤ sizeLine → IsDs an P g l items.toList → G) : G := by
  obtain ⟨_, items, q1, q2, q3⟩ := S.obj i p _ hp e
  exact k items q1 q2 q3
@[elab_as_elim] theorem listOf_is {σ : Sto} {v : V} {l : List D} {val : Value} {ρ : Rho} {g : G} {P : Params} {h : Heap} (S : St an P h₀ g ρ σ h) (e : listOf σ v = some l) (hv : IsV an P ρ g v val) {G : Value → Prop}
    (k : ∀ a items, h.IsList a items → items.size ≤ sizeLine → IsDs an P g l items.toList → G (.ref a)) : G val := by
  cases v with
  | d x => cases x with
    | lst l' => cases e; exact lst_is S.le hv k
    | _ => exact noS e
  | ref i =>
    obtain ⟨p, hp, hv⟩ := hv
    exact atL_el e fun l' hl e => mlst_is S hl hp fun items q1 q2 q3 => by cases e; exact hv ▸ k p.1 items q1.isList q2 q3
  | tup => exact noS e

theorem cat_is {l r : List D} {a1 a2 : Addr} {i1 i2 : Array Value} {A : Around} {Er : Value → Shared → Prop} {s : Shared} {g : G} {ρ : Rho} {σ : Sto} {h : Heap} {tk : Nat} {Pm : Params} {Q : Value → Shared → Prop} (S : St an Pm h₀ g ρ σ h) (hz : l.length + r.length ≤ 2 ^ 24)
    (q1 : h.IsList a1 i1) (q3 : IsDs an Pm g l i1.toList) (r1 : h.IsList a2 i2) (r3 : IsDs an Pm g r i2.toList) (hQ : Out an Pm h₀ g ρ h s (.d (.lst (l ++ r))) σ Q) :
    wpAny (model prog w) A (binaryOp .Add (.ref a1) (.ref a2)) Q Er (sh s h tk) := by
  obtain ⟨⟨cls, dd, data, sl⟩, ho, rfl, nn, rfl⟩ := id q1
  obtain ⟨⟨cls2, dd2, data2, sl2⟩, ho2, rfl, n2, rfl⟩ := id r1
  have hz' : i1.size + i2.size ≤ sizeLine := by
    have z1 : l.length = i1.size := q3.length.trans Array.length_toList
    have z2 : r.length = i2.size := r3.length.trans Array.length_toList
    rw [sizeLine_eq, ← z1, ← z2]; exact hz
  refine concat_meets ⟨_, ho, rfl⟩ ⟨_, ho2, rfl⟩ noFill_list_add seq_list_add PySem.F.slot_list_add PySem.F.entry_list_add (PySem.F.args_list_add_2 _ _) (list_addW a1 a2 i1 i2 nn n2 dd dd2 sl sl2 hz') ⟨ho, ho2, ?_⟩
  have gl := (Ext.pushG (W := noW) S { cls := .type "list", data := .seq (i1 ++ i2) }).gle
  refine hQ (S.pushG { cls := .type "list", data := .seq (i1 ++ i2) } rfl) (Ext.pushG S _) ⟨_, _, _, i1 ++ i2, rfl, updG_self _ _ _, rfl, rfl, by rw [Array.size_append]; exact hz', ?_⟩
  rw [Array.toList_append]
  exact (q3.mono gl).append (r3.mono gl)

theorem isAdd_is {op : Operator} (h : isAdd op = true) : op = .Add := by cases op <;> first | rfl | cases h
theorem E_bin {a b : PySem.Expr} {ma mb : E} {op : Operator} {pos : Pos} (ha : SoundE prog w h₀ an Φ n sc vars a ma) (hb : SoundE prog w h₀ an Φ n sc vars b mb) :
    SoundE prog w h₀ an Φ n sc vars (.BinOp a op b pos) (.bin op ma mb) := by
  intro env A Er s h₁ tk g ρ σ m v σ' Q hsc R N S hd hQ
  refine den2_el hd fun v1 σ1 v2 σ2 h1 h2 hd => hQ.toD hd fun x hx hQ => wpAny_BinOp (ev2 ha hb hsc R N S h1 h2 hQ fun val1 val2 g2 ρ2 hh2 tk2 S2 hQ hv1 hv2 => ?_)
  refine orElse_el hx (fun hx => binD_is hx hv1 hv2 fun val tk hval => hQ.at S2 hval) fun hx => whenO_el hx fun hop hx => obind1 hx fun l hl hx => obind1 hx fun r hr hx => whenB_el hx fun hz hx => ?_
  cases hx
  cases isAdd_is hop
  exact listOf_is S2 hl hv1 fun a1 i1 q1 q2 q3 => listOf_is S2 hr hv2 fun a2 i2 r1 r2 r3 => cat_is S2 (of_decide_eq_true hz) q1 q3 r1 r3 hQ
end

section
variable {prog : Program} {w : World} {K : Frag} {h₀ : Heap} {an : Nat → Str} {Φ : Tab} {n : Nat} {sc : List (Str × NameKind)} {vars : List Str}

mutual
theorem reads_of {g : G} {h : Heap} {Pm : Params} (hle : ∀ b o, g b = some o → h.get? b = some o) : ∀ (d : D) {v : Value} {p : PyData}, IsD an Pm g d v → py? d = some p → ∃ as, Reads h v p as
  | .none, v, p, x, e => by cases e; cases (x : v = .none); exact ⟨_, .none⟩
  | .bool b, v, p, x, e => by cases e; cases (x : v = .bool b); exact ⟨_, .bool b⟩
  | .int i, v, p, x, e => by cases e; obtain ⟨t, rfl⟩ := x; exact ⟨_, .int i t⟩
  | .str i, v, p, x, e => by cases e; obtain ⟨t, rfl⟩ := x; exact ⟨_, .str i t⟩
  | .tup l, v, p, x, e => by
    obtain ⟨a, ep, items, rfl, h1, h2, h3⟩ := x
    refine omap1 e fun ps e1 e => ?_
    obtain ⟨as, r⟩ := reads_all_of hle l h3 e1
    exact Option.some.inj e ▸ ⟨_, .tuple (hle _ _ h1) rfl rfl r⟩
  | .lst l, v, p, x, e => by
    obtain ⟨a, o, ep, items, rfl, h1, h2, h4, h5, h3⟩ := x
    refine omap1 e fun ps e1 e => ?_
    obtain ⟨as, r⟩ := reads_all_of hle l h3 e1
    exact Option.some.inj e ▸ ⟨_, .list (hle _ _ h1) h2 h4 r⟩
  | .obj .., v, p, x, e => noS e
theorem reads_all_of {g : G} {h : Heap} {Pm : Params} (hle : ∀ b o, g b = some o → h.get? b = some o) : ∀ (l : List D) {vs : List Value} {ps : List PyData}, IsDs an Pm g l vs → pys? l = some ps → ∃ as, ReadsAll h vs ps as
  | [], [], ps, _, e => by cases e; exact ⟨_, .nil⟩
  | [], _ :: _, _, x, _ => False.elim x
  | _ :: _, [], _, x, _ => False.elim x
  | d :: ds, v :: vs, ps, x, e => by
    refine obind1 e fun p e1 e => omap1 e fun ps' e2 e => ?_
    obtain ⟨as, r⟩ := reads_of hle d x.1 e1
    obtain ⟨bs, r'⟩ := reads_all_of hle ds x.2 e2
    exact Option.some.inj e ▸ ⟨_, .cons r r'⟩
end

theorem str_beq (x y : Str) : (x.cps.toList == y.cps.toList) = (x == y) := by
  rw [Bool.eq_iff_iff, beq_iff_eq, beq_iff_eq]
  constructor
  · intro h
    cases x; cases y
    simp only at h
    congr
    exact Array.toList_inj.mp h
  · rintro rfl; rfl

theorem list_shape {h : Heap} {a : Addr} {items : Array Value} (x : h.IsList a items) : ∃ dd n sl, h.get? a = some { cls := .type "list", dict := dd, data := .seq items n, slots := sl } := by
  obtain ⟨⟨c, d, dt, sl⟩, ho, hc, n, hd⟩ := x
  simp only at hc hd
  subst hc hd
  exact ⟨d, n, sl, ho⟩

theorem eq_nil {A : Around} {Er : Value → Shared → Prop} {s : Shared} {a b : Addr} {items items2 : Array Value} {Q : Value → Shared → Prop} (hl : s.heap.IsList a items) (hb : s.heap.IsList b items2) (h2 : items2.size = 0)
    (hu : A.units < cLine) (h : Q (.bool (items.size == 0)) s) : wpAny (model prog w) A (compareOp .Eq (.ref a) (.ref b)) Q Er s := by
  obtain ⟨dd, nn, sl, h1⟩ := list_shape hl
  obtain ⟨dd2, nn2, sl2, h3⟩ := list_shape hb
  by_cases hs : items.size = 0
  · refine richCompare_meets_room (op := .Eq) ⟨_, h1, rfl⟩ ⟨_, h3, rfl⟩ F.slot_list_eq F.entry_list_eq (F.args_list_eq_2 _ _) (SeqAt.list_eqAt a b items items2 nn nn2 dd dd2 sl sl2 (by rw [hs, h2]) (fun _ => true)) ⟨h1, h3, fun j q => by omega, ?_⟩ hu
    refine ⟨(fun x => nomatch x), ?_⟩
    rw [hs] at h ⊢
    simpa using h
  · refine richCompare_meets_room (op := .Eq) ⟨_, h1, rfl⟩ ⟨_, h3, rfl⟩ F.slot_list_eq F.entry_list_eq (F.args_list_eq_2 _ _) (SeqAt.list_eq_lengthsAt a b items items2 nn nn2 dd dd2 sl sl2 (by simp [h2, hs])) ⟨h1, h3, ?_⟩ hu
    refine ⟨(fun x => nomatch x), ?_⟩
    have : (items.size == 0) = false := by simp [hs]
    rwa [this] at h
theorem ne_nil {A : Around} {Er : Value → Shared → Prop} {s : Shared} {a b : Addr} {items items2 : Array Value} {Q : Value → Shared → Prop} (hl : s.heap.IsList a items) (hb : s.heap.IsList b items2) (h2 : items2.size = 0)
    (hu : A.units < cLine) (h : Q (.bool (!(items.size == 0))) s) : wpAny (model prog w) A (compareOp .NotEq (.ref a) (.ref b)) Q Er s := by
  obtain ⟨dd, nn, sl, h1⟩ := list_shape hl
  obtain ⟨dd2, nn2, sl2, h3⟩ := list_shape hb
  by_cases hs : items.size = 0
  · refine richCompare_meets_room (op := .NotEq) ⟨_, h1, rfl⟩ ⟨_, h3, rfl⟩ F.slot_list_ne F.entry_list_ne (F.args_list_ne_2 _ _) (SeqAt.list_neAt a b items items2 nn nn2 dd dd2 sl sl2 (by rw [hs, h2]) (fun _ => true)) ⟨h1, h3, fun j q => by omega, ?_⟩ hu
    refine ⟨(fun x => nomatch x), ?_⟩
    rw [hs] at h ⊢
    simpa using h
  · refine richCompare_meets_room (op := .NotEq) ⟨_, h1, rfl⟩ ⟨_, h3, rfl⟩ F.slot_list_ne F.entry_list_ne (F.args_list_ne_2 _ _) (SeqAt.list_ne_lengthsAt a b items items2 nn nn2 dd dd2 sl sl2 (by simp [h2, hs])) ⟨h1, h3, ?_⟩ hu
    refine ⟨(fun x => nomatch x), ?_⟩
    have : (items.size == 0) = false := by simp [hs]
    rw [this] at h
    exact h

theorem eqP_el {x y : D} {b : Bool} {vx vy : Value} {g : G} {h : Heap} {Pm : Params} (e : eqP x y = some b) (hx : IsD an Pm g x vx) (hy : IsD an Pm g y vy) (hle : ∀ b o, g b = some o → h.get? b = some o) {P' : Prop}
    (k : ∀ p q as bs, Reads h vx p as → Reads h vy q bs → SeqAt.shaped p = true → SeqAt.shaped q = true → some (PyData.eqv p q) = some b → P') : P' :=
  obind1 e fun p hp e => obind1 e fun q hq e => whenB_el e fun hs e => by
    obtain ⟨as, ra⟩ := reads_of hle _ hx hp
    obtain ⟨bs, rb⟩ := reads_of hle _ hy hq
    exact and_el hs fun s1 s2 => k p q as bs ra rb s1 s2 e
theorem eqD_el {x y : D} {b : Bool} {vx vy : Value} {g : G} {h : Heap} {Pm : Params} (e : eqD x y = some b) (hx : IsD an Pm g x vx) (hy : IsD an Pm g y vy) (hle : ∀ b o, g b = some o → h.get? b = some o) {G : Value → Value → Prop}
    (ki : ∀ i j t u, some (i == j) = some b → G (.int i t) (.int j u)) (kb : ∀ i j, some (i == j) = some b → G (.bool i) (.bool j)) (ks : ∀ i j t u, some (i == j) = some b → G (.str i t) (.str j u))
    (kl : ∀ a c i1 i2, h.IsList a i1 → h.IsList c i2 → i2.size = 0 → some (i1.size == 0) = some b → G (.ref a) (.ref c))
    (kp : ∀ p q as bs, Reads h vx p as → Reads h vy q bs → SeqAt.shaped p = true → SeqAt.shaped q = true → some (PyData.eqv p q) = some b → G vx vy) : G vx vy := by
  cases x with
  | int i => cases y with
    | int j => obtain ⟨t, rfl⟩ := hx; obtain ⟨u, rfl⟩ := hy; exact ki i j t u e
    | _ => exact eqP_el e hx hy hle kp
  | bool i => cases y with
    | bool j => cases (hx : vx = .bool i); cases (hy : vy = .bool j); exact kb i j e
    | _ => exact eqP_el e hx hy hle kp
  | str i => cases y with
    | str j => obtain ⟨t, rfl⟩ := hx; obtain ⟨u, rfl⟩ := hy; exact ks i j t u e
    | _ => exact eqP_el e hx hy hle kp
  | lst l => cases y with
    | lst r => cases r with
      | nil =>
        obtain ⟨a, o, ep, i1, rfl, h1, h2, h3, h5, h4⟩ := hx
        obtain ⟨c, o', ep', i2, rfl, q1, q2, q3, q5, q4⟩ := hy
        refine kl a c i1 i2 ⟨o, hle _ _ h1, h2, ep, h3⟩ ⟨o', hle _ _ q1, q2, ep', q3⟩ (q4.length.symm.trans rfl) ?_
        rw [← show l.length = i1.size from h4.length.trans Array.length_toList, ← show some l.isEmpty = some b from e]
        cases l <;> rfl
      | cons => exact eqP_el e hx hy hle kp
    | _ => exact eqP_el e hx hy hle kp
  | _ => exact eqP_el e hx hy hle kp
theorem eqD_sound {x y : D} {b : Bool} {vx vy : Value} {g : G} {A : Around} {Er : Value → Shared → Prop} {s : Shared} {Q : Value → Shared → Prop} {Pm : Params} (e : eqD x y = some b) (hx : IsD an Pm g x vx) (hy : IsD an Pm g y vy)
    (hle : ∀ b o, g b = some o → s.heap.get? b = some o) (hu : A.units + 64 < cLine) (h : Q (.bool b) s) : wpAny (model prog w) A (compareOp .Eq vx vy) Q Er s :=
  eqD_el (G := fun vx vy => wpAny (model prog w) A (compareOp .Eq vx vy) Q Er s) e hx hy hle (fun i j t u e => P.eq_int (Option.some.inj e ▸ h)) (fun i j e => eq_bool (Option.some.inj e ▸ h)) (fun i j t u e => P.eq_str (by rw [str_beq]; exact Option.some.inj e ▸ h))
    (fun a c i1 i2 h1 h2 h3 e => eq_nil h1 h2 h3 (Nat.lt_of_le_of_lt (Nat.le_add_right _ _) hu) (Option.some.inj e ▸ h)) fun p q as bs ra rb s1 s2 e => SeqAt.compareEq_shaped ra rb s1 s2 hu (Option.some.inj e ▸ h)
theorem neD_sound {x y : D} {b : Bool} {vx vy : Value} {g : G} {A : Around} {Er : Value → Shared → Prop} {s : Shared} {Q : Value → Shared → Prop} {Pm : Params} (e : eqD x y = some b) (hx : IsD an Pm g x vx) (hy : IsD an Pm g y vy)
    (hle : ∀ b o, g b = some o → s.heap.get? b = some o) (hu : A.units + 64 < cLine) (h : Q (.bool (!b)) s) : wpAny (model prog w) A (compareOp .NotEq vx vy) Q Er s :=
  eqD_el (G := fun vx vy => wpAny (model prog w) A (compareOp .NotEq vx vy) Q Er s) e hx hy hle (fun i j t u e => P.ne_int (by cases e; exact h)) (fun i j e => ne_bool (by cases e; exact h)) (fun i j t u e => P.ne_str (by rw [bne, str_beq]; exact Option.some.inj e ▸ h))
    (fun a c i1 i2 h1 h2 h3 e => ne_nil h1 h2 h3 (Nat.lt_of_le_of_lt (Nat.le_add_right _ _) hu) (Option.some.inj e ▸ h)) fun p q as bs ra rb s1 s2 e => SeqAt.compareNe_shaped ra rb s1 s2 hu (Option.some.inj e ▸ h)

theorem isD_none {g : G} {Pm : Params} {x : D} {v : Value} (h : IsD an Pm g x v) : (v == Value.none) = x.isNone := by
  cases x with
  | none => cases (h : v = .none); rfl
  | bool b => cases (h : v = .bool b); rfl
  | int i => obtain ⟨t, h⟩ := h; rw [h]; rfl
  | str i => obtain ⟨t, h⟩ := h; rw [h]; rfl
  | tup => obtain ⟨a, ep, items, h, _⟩ := h; rw [h]; rfl
  | lst => obtain ⟨a, o, ep, items, h, _⟩ := h; rw [h]; rfl
  | obj => obtain ⟨a, d, od, es, ep, h, _⟩ := h; rw [h]; rfl

theorem ints_is {g : G} {Pm : Params} : ∀ {l : List D} {ns : List Int} {vs : List Value}, ints? l = some ns → IsDs an Pm g l vs → IntsAre vs ns
  | [], _, [], e, _ => Option.some.inj e ▸ .nil
  | [], _, _ :: _, _, x => False.elim x
  | _ :: _, _, [], _, x => False.elim x
  | d :: l, ns, v :: vs, e, x => by
    cases d with
    | int i =>
      refine omap1 e fun r e1 e => ?_
      obtain ⟨t, hx⟩ := x.1
      rw [hx, ← Option.some.inj e]
      exact .cons i t (ints_is e1 x.2)
    | _ => exact noS e

theorem in_ints {A : Around} {Er : Value → Shared → Prop} {s : Shared} {l : Addr} {items : Array Value} {ep : Nat} {ns : List Int} {k : Int} {t : Tok} {Q : Value → Shared → Prop} (hl : s.heap.get? l = some { cls := .type "tuple", data := .seq items ep })
    (hi : IntsAre items.toList ns) (h : Q (.bool (ns.contains k)) s) : wpAny (model prog w) A (compareOp .In (.int k t) (.ref l)) Q Er s := by
  refine SeqRoads2.in_tuple (fun y => match y with | .int i _ => i == k | _ => false) (fun y hy => ?_) hl ?_
  · obtain ⟨j, hj⟩ := List.mem_iff_getElem?.mp (Array.mem_toList_iff.mpr hy)
    have hlt : j < ns.length := by
      have := (List.getElem?_eq_some_iff.mp hj).1
      rw [hi.length] at this
      exact this
    obtain ⟨u, hu⟩ := hi.get j ns[j] (by simp [hlt])
    rw [hu] at hj
    cases hj
    exact MeetsSeq.EqGives.int ns[j] k u t
  · have key : ∀ {vs : List Value} {ns : List Int}, IntsAre vs ns → vs.any (fun y => match y with | .int i _ => i == k | _ => false) = ns.contains k := by
      intro vs ns hi
      induction hi with
      | nil => rfl
      | cons n u _ ih =>
        rw [List.any_cons, List.contains_cons, ih]
        congr 1
        rw [Bool.eq_iff_iff, beq_iff_eq, beq_iff_eq]
        exact ⟨Eq.symm, Eq.symm⟩
    rw [← Array.any_toList, key hi]
    exact h

theorem none_el {y : D} (h : y.isNone = true) : y = .none := by cases y <;> first | rfl | cases h
theorem cmpI_el {f : Int → Int → Bool} {a b : V} {c : Bool} {va vb : Value} {ρ : Rho} {g : G} {Pm : Params} (e : cmpI f a b = some c) (ha : IsV an Pm ρ g a va) (hb : IsV an Pm ρ g b vb) {G : Value → Value → Bool → Prop} (k : ∀ i j t u, G (.int i t) (.int j u) (f i j)) : G va vb c :=
  onI_is (G := fun _ va => G va vb c) ha e fun i t e => onI_is (G := fun _ vb => G (.int i t) vb c) hb e fun j u e => Option.some.inj e ▸ k i j t u
theorem isD_el {a b : V} {c : Bool} {va vb : Value} {ρ : Rho} {g : G} {Pm : Params} (e : isD a b = some c) (ha : IsV an Pm ρ g a va) (hb : IsV an Pm ρ g b vb) {P' : Prop} (k : vb = .none → (va == Value.none) = c → P') : P' := by
  cases a with
  | d x => cases b with
    | d y =>
      refine whenB_el e fun hn e => ?_
      cases none_el hn
      exact k hb ((isD_none ha).trans (Option.some.inj e))
    | _ => exact noS e
  | _ => exact noS e
theorem cmp_sound {op : CmpOp} {a b : V} {c : Bool} {va vb : Value} {A : Around} {Er : Value → Shared → Prop} {s : Shared} {ρ : Rho} {g : G} {Pm : Params} {Q : Value → Shared → Prop}
    (e : cmpD op a b = some c) (ha : IsV an Pm ρ g a va) (hb : IsV an Pm ρ g b vb) (hle : ∀ b o, g b = some o → s.heap.get? b = some o) (hu : A.units + 64 < cLine) (h : Q (.bool c) s) : wpAny (model prog w) A (compareOp op va vb) Q Er s := by
  cases op with
  | Eq => exact onD_is (G := fun a => IsV an Pm ρ g a va → _) e (fun x e ha => onD_is (G := fun b => IsV an Pm ρ g b vb → _) e (fun y e hb => eqD_sound e ha hb hle hu h) hb) ha
  | NotEq => exact onD_is (G := fun a => IsV an Pm ρ g a va → _) e (fun x e ha => onD_is (G := fun b => IsV an Pm ρ g b vb → _) e (fun y e hb => omap1 e fun c' e e' => neD_sound e ha hb hle hu (Option.some.inj e' ▸ h)) hb) ha
  | Lt => exact cmpI_el (G := fun va vb c => Q (.bool c) s → wpAny (model prog w) A (compareOp .Lt va vb) Q Er s) e ha hb (fun i j t u h => P.lt_int h) h
  | LtE => exact cmpI_el (G := fun va vb c => Q (.bool c) s → wpAny (model prog w) A (compareOp .LtE va vb) Q Er s) e ha hb (fun i j t u h => P.le_int h) h
  | Gt => exact cmpI_el (G := fun va vb c => Q (.bool c) s → wpAny (model prog w) A (compareOp .Gt va vb) Q Er s) e ha hb (fun i j t u h => P.gt_int h) h
  | GtE => exact cmpI_el (G := fun va vb c => Q (.bool c) s → wpAny (model prog w) A (compareOp .GtE va vb) Q Er s) e ha hb (fun i j t u h => P.ge_int h) h
  | Is => exact isD_el e ha hb fun hb hv => hb ▸ is_none (hv ▸ h)
  | IsNot => exact omap1 e fun c' e e' => isD_el e ha hb fun hb hv => hb ▸ isNot_none (hv ▸ Option.some.inj e' ▸ h)
  | In =>
    refine onI_is (G := fun _ va => wpAny (model prog w) A (compareOp .In va vb) Q Er s) ha e fun i t e => onD_is (G := fun b => IsV an Pm ρ g b vb → _) e (fun y e hb => dT_is (G := fun y => IsD an Pm g y vb → _) e (fun l e hb => omap1 e fun ns e' e => ?_) hb) hb
    obtain ⟨l, ep, items, hv, h1, h2, h3⟩ := hb
    exact hv ▸ in_ints (hle _ _ h1) (ints_is e' h3) (Option.some.inj e ▸ h)
  | _ => exact noS e

theorem Room.cline {A : Around} (R : Room A n) : A.units + 64 < cLine := by
  have := R.units
  show _ < 9900
  omega

theorem E_cmp {a b : PySem.Expr} {ma mb : E} {op : CmpOp} {pos : Pos} (ha : SoundE prog w h₀ an Φ n sc vars a ma) (hb : SoundE prog w h₀ an Φ n sc vars b mb) (hm : behindInMarks op b = false) :
    SoundE prog w h₀ an Φ n sc vars (.Compare a [op] [b] pos) (.cmp op ma mb) := by
  intro env A Er s h tk g ρ σ m v σ' Q hsc R N S hd hQ
  refine den2_el hd fun v1 σ1 v2 σ2 h1 h2 hd => hQ.toD hd fun x hx hQ => omap1 hx fun c hc hx => wpAny_Compare1 (ev2 ha hb hsc R N S h1 h2 hQ fun val1 val2 g2 ρ2 hh2 tk2 S2 hQ hv1 hv2 => ?_) hm
  exact cmp_sound hc hv1 hv2 S2.le R.cline (hQ.at S2 (Option.some.inj hx ▸ rfl))
theorem OutT.E {Pm : Params} {g : G} {ρ : Rho} {h : Heap} {s : Shared} {σ' : Sto} {Q : Value → Shared → Prop} {b : Bool} (hQ : OutT an Pm h₀ g ρ h s σ' (Q (.bool b))) : Out an Pm h₀ g ρ h s (.d (.bool b)) σ' Q :=
  fun val _ _ _ _ S X hv => (show val = .bool b from hv) ▸ hQ S X
theorem T_cmp {a b : PySem.Expr} {ma mb : E} {op : CmpOp} {pos : Pos} (ha : SoundE prog w h₀ an Φ n sc vars a ma) (hb : SoundE prog w h₀ an Φ n sc vars b mb) (hm : behindInMarks op b = false) :
    SoundT prog w h₀ an Φ n sc vars (.Compare a [op] [b] pos) (.cmp op ma mb) := by
  intro env A Er s h tk g ρ σ m b σ' Q hsc R N S hd hQ
  have hQ : Out an w.params h₀ g ρ h s (.d (.bool b)) σ' (fun val s' => wpAny (model prog w) A (truthy val) Q Er s') := OutT.E fun _ _ _ _ S X => wpAny_truthy_bool (hQ S X)
  refine den2_el hd fun v1 σ1 v2 σ2 h1 h2 hd => hQ.toD hd fun x hx hQ => omap1 hx fun c hc hx => wpAny_isTrue_Compare1 (ev2 ha hb hsc R N S h1 h2 hQ fun val1 val2 g2 ρ2 hh2 tk2 S2 hQ hv1 hv2 => ?_) hm
  exact cmp_sound hc hv1 hv2 S2.le R.cline (hQ.at S2 (Option.some.inj hx ▸ rfl))

theorem if_t {α : Type} {x y : Option α} {r : α} (h : (if true = true then x else y) = some r) : x = some r := h
theorem if_f {α : Type} {x y : Option α} {r : α} (h : (if false = true then x else y) = some r) : y = some r := h
theorem E_chain {a b c : PySem.Expr} {ma mb mc : E} {op op' : CmpOp} {pos : Pos} (ha : SoundE prog w h₀ an Φ n sc vars a ma) (hb : SoundE prog w h₀ an Φ n sc vars b mb) (hc : SoundE prog w h₀ an Φ n sc vars c mc)
    (hm : behindInMarks op' c = false) : SoundE prog w h₀ an Φ n sc vars (.Compare a [op, op'] [b, c] pos) (.chain op op' ma mb mc) := by
  intro env A Er s h tk g ρ σ m v σ' Q hsc R N S hd hQ
  show wpAny _ A (do compareChain pos (← eval a env) [op, op'] [eval b env, markedBehindIn op' c (eval c env)]) _ Er _
  rw [markedBehindIn_of_false hm]
  refine den2_el hd fun v1 σ1 v2 σ2 h1 h2 hd => obind1 hd fun t ht hd => wpAny_bind (ha hsc R N S h1 fun val1 g1 ρ1 hh1 tk1 S1 X1 hv1 => ?_)
  refine wpAny_bind (wpAny_holding (hb hsc R (N.ext X1 noW_env) S1 h2 fun val2 g2 ρ2 hh2 tk2 S2 X2 hv2 => ?_))
  refine wpAny_bind (wpAny_standAt (wpAny_bind (wpAny_holding (cmp_sound ht (hv1.mono X2.gle X2.pre) hv2 S2.le R.cline ?_))))
  have hQ := (hQ.then X1).then X2
  refine wpAny_bind (wpAny_release (wpAny_bind (wpAny_holding (wpAny_truthy_bool ?_))))
  cases t with
  | false => exact wpAny_pure (hQ.of hd S2 Ext.rfl' rfl)
  | true =>
    refine den1_el (if_t hd) fun v3 σ3 h3 hd => hQ.toD hd fun x hx hQ => omap1 hx fun c' hc' hx => ?_
    refine wpAny_bind (wpAny_holding (hc hsc R ((N.ext X1 noW_env).ext X2 noW_env) S2 h3 fun val3 g3 ρ3 hh3 tk3 S3 X3 hv3 => ?_))
    exact wpAny_bind (wpAny_standAt (wpAny_operateT (cmp_sound hc' (hv2.mono X3.gle X3.pre) hv3 S3.le R.cline (hQ S3 X3 (Option.some.inj hx ▸ rfl)))))
theorem T_chain {a b c : PySem.Expr} {ma mb mc : E} {op op' : CmpOp} {pos : Pos} (ha : SoundE prog w h₀ an Φ n sc vars a ma) (hb : SoundE prog w h₀ an Φ n sc vars b mb) (hc : SoundE prog w h₀ an Φ n sc vars c mc)
    (hm : behindInMarks op' c = false) : SoundT prog w h₀ an Φ n sc vars (.Compare a [op, op'] [b, c] pos) (.chain op op' ma mb mc) := by
  intro env A Er s h tk g ρ σ m b' σ' Q hsc R N S hd hQ
  show wpAny _ A (do testChain pos (← eval a env) [op, op'] [eval b env, markedBehindIn op' c (eval c env)]) _ Er _
  rw [markedBehindIn_of_false hm]
  have hQ : Out an w.params h₀ g ρ h s (.d (.bool b')) σ' (fun val s' => wpAny (model prog w) A (truthy val) Q Er s') := OutT.E fun _ _ _ _ S X => wpAny_truthy_bool (hQ S X)
  refine den2_el hd fun v1 σ1 v2 σ2 h1 h2 hd => obind1 hd fun t ht hd => wpAny_bind (ha hsc R N S h1 fun val1 g1 ρ1 hh1 tk1 S1 X1 hv1 => ?_)
  refine wpAny_bind (wpAny_holding (hb hsc R (N.ext X1 noW_env) S1 h2 fun val2 g2 ρ2 hh2 tk2 S2 X2 hv2 => ?_))
  refine wpAny_bind (wpAny_standAt (wpAny_bind (wpAny_holding (cmp_sound ht (hv1.mono X2.gle X2.pre) hv2 S2.le R.cline ?_))))
  have hQ := (hQ.then X1).then X2
  refine wpAny_bind (wpAny_release (wpAny_bind (wpAny_holding (wpAny_truthy_bool ?_))))
  cases t with
  | false => exact (hQ.of hd S2 Ext.rfl' rfl : wpAny _ A (truthy (.bool false)) _ _ _)
  | true =>
    refine den1_el (if_t hd) fun v3 σ3 h3 hd => hQ.toD hd fun x hx hQ => omap1 hx fun c' hc' hx => ?_
    refine wpAny_bind (wpAny_holding (hc hsc R ((N.ext X1 noW_env).ext X2 noW_env) S2 h3 fun val3 g3 ρ3 hh3 tk3 S3 X3 hv3 => ?_))
    exact wpAny_bind (wpAny_standAt (wpAny_bind (wpAny_operateT (cmp_sound hc' (hv2.mono X3.gle X3.pre) hv3 S3.le R.cline (wpAny_holding (hQ S3 X3 (Option.some.inj hx ▸ rfl)))))))

theorem E_ite {c a b : PySem.Expr} {mc ma mb : E} {pos : Pos} (hc : SoundT prog w h₀ an Φ n sc vars c mc) (ha : SoundE prog w h₀ an Φ n sc vars a ma) (hb : SoundE prog w h₀ an Φ n sc vars b mb) :
    SoundE prog w h₀ an Φ n sc vars (.IfExp c a b pos) (.ite mc ma mb) := by
  intro env A Er s h tk g ρ σ m v σ' Q hsc R N S hd hQ
  refine den1_el hd fun v1 σ1 h1 hd => wpAny_IfExp (onB_el (G := fun v => E.den Φ m mc σ = some (v, σ1) → _) hd (fun t hd h1 => hc hsc R N S h1 fun g1 ρ1 hh1 tk1 S1 X1 => ?_) h1)
  cases t with
  | true => exact ha hsc R (N.ext X1 noW_env) S1 hd (hQ.then X1)
  | false => exact hb hsc R (N.ext X1 noW_env) S1 hd (hQ.then X1)
theorem T_ite {c a b : PySem.Expr} {mc ma mb : E} {pos : Pos} (hc : SoundT prog w h₀ an Φ n sc vars c mc) (ha : SoundT prog w h₀ an Φ n sc vars a ma) (hb : SoundT prog w h₀ an Φ n sc vars b mb) :
    SoundT prog w h₀ an Φ n sc vars (.IfExp c a b pos) (.ite mc ma mb) := by
  intro env A Er s h tk g ρ σ m b' σ' Q hsc R N S hd hQ
  show wpAny _ A (do if ← isTrue c env (eval c env) then isTrue a env (eval a env) else isTrue b env (eval b env)) _ Er _
  refine den1_el hd fun v1 σ1 h1 hd => wpAny_bind (onB_el (G := fun v => E.den Φ m mc σ = some (v, σ1) → _) hd (fun t hd h1 => hc hsc R N S h1 fun g1 ρ1 hh1 tk1 S1 X1 => ?_) h1)
  cases t with
  | true => exact ha hsc R (N.ext X1 noW_env) S1 hd (hQ.then X1)
  | false => exact hb hsc R (N.ext X1 noW_env) S1 hd (hQ.then X1)
end
open PySem

noncomputable def onBoolOp (e : PySem.Expr) (f : BoolOp → List PySem.Expr → Pos → Bool) : Bool := if h : e.ctorIdx = 0 then @PySem.Expr.BoolOp.elim (fun _ => Bool) e h f else false
@[elab_as_elim] theorem onBoolOp_el {e : PySem.Expr} {f : BoolOp → List PySem.Expr → Pos → Bool} {G : PySem.Expr → Prop} (h : onBoolOp e f = true) (k : ∀ a b c, f a b c = true → G (.BoolOp a b c)) : G e := by
  by_cases hc : e.ctorIdx = 0
  · exact @PySem.Expr.BoolOp.elim (fun e => ∀ hc, @PySem.Expr.BoolOp.elim (fun _ => Bool) e hc f = true → G e) e hc (fun a b c _ h => k a b c h) hc ((dif_pos hc).symm.trans h)
  · exact Bool.noConfusion ((dif_neg hc).symm.trans h)
noncomputable def onBinOp (e : PySem.Expr) (f : PySem.Expr → Operator → PySem.Expr → Pos → Bool) : Bool := if h : e.ctorIdx = 2 then @PySem.Expr.BinOp.elim (fun _ => Bool) e h f else false
@[elab_as_elim] theorem onBinOp_el {e : PySem.Expr} {f : PySem.Expr → Operator → PySem.Expr → Pos → Bool} {G : PySem.Expr → Prop} (h : onBinOp e f = true) (k : ∀ a b c d, f a b c d = true → G (.BinOp a b c d)) : G e := by
  by_cases hc : e.ctorIdx = 2
  · exact @PySem.Expr.BinOp.elim (fun e => ∀ hc, @PySem.Expr.BinOp.elim (fun _ => Bool) e hc f = true → G e) e hc (fun a b c d _ h => k a b c d h) hc ((dif_pos hc).symm.trans h)
  · exact Bool.noConfusion ((dif_neg hc).symm.trans h)
noncomputable def onUnaryOp (e : PySem.Expr) (f : UnaryOp → PySem.Expr → Pos → Bool) : Bool := if h : e.ctorIdx = 3 then @PySem.Expr.UnaryOp.elim (fun _ => Bool) e h f else false
@[elab_as_elim] theorem onUnaryOp_el {e : PySem.Expr} {f : UnaryOp → PySem.Expr → Pos → Bool} {G : PySem.Expr → Prop} (h : onUnaryOp e f = true) (k : ∀ a b c, f a b c = true → G (.UnaryOp a b c)) : G e := by
  by_cases hc : e.ctorIdx = 3
  · exact @PySem.Expr.UnaryOp.elim (fun e => ∀ hc, @PySem.Expr.UnaryOp.elim (fun _ => Bool) e hc f = true → G e) e hc (fun a b c _ h => k a b c h) hc ((dif_pos hc).symm.trans h)
  · exact Bool.noConfusion ((dif_neg hc).symm.trans h)
noncomputable def onIfExp (e : PySem.Expr) (f : PySem.Expr → PySem.Expr → PySem.Expr → Pos → Bool) : Bool := if h : e.ctorIdx = 5 then @PySem.Expr.IfExp.elim (fun _ => Bool) e h f else false
@[elab_as_elim] theorem onIfExp_el {e : PySem.Expr} {f : PySem.Expr → PySem.Expr → PySem.Expr → Pos → Bool} {G : PySem.Expr → Prop} (h : onIfExp e f = true) (k : ∀ a b c d, f a b c d = true → G (.IfExp a b c d)) : G e := by
  by_cases hc : e.ctorIdx = 5
  · exact @PySem.Expr.IfExp.elim (fun e => ∀ hc, @PySem.Expr.IfExp.elim (fun _ => Bool) e hc f = true → G e) e hc (fun a b c d _ h => k a b c d h) hc ((dif_pos hc).symm.trans h)
  · exact Bool.noConfusion ((dif_neg hc).symm.trans h)
noncomputable def onListComp (e : PySem.Expr) (f : PySem.Expr → List Comprehension → Scope → Pos → Bool) : Bool := if h : e.ctorIdx = 8 then @PySem.Expr.ListComp.elim (fun _ => Bool) e h f else false
@[elab_as_elim] theorem onListComp_el {e : PySem.Expr} {f : PySem.Expr → List Comprehension → Scope → Pos → Bool} {G : PySem.Expr → Prop} (h : onListComp e f = true) (k : ∀ a b c d, f a b c d = true → G (.ListComp a b c d)) : G e := by
  by_cases hc : e.ctorIdx = 8
  · exact @PySem.Expr.ListComp.elim (fun e => ∀ hc, @PySem.Expr.ListComp.elim (fun _ => Bool) e hc f = true → G e) e hc (fun a b c d _ h => k a b c d h) hc ((dif_pos hc).symm.trans h)
  · exact Bool.noConfusion ((dif_neg hc).symm.trans h)
noncomputable def onCompare (e : PySem.Expr) (f : PySem.Expr → List CmpOp → List PySem.Expr → Pos → Bool) : Bool := if h : e.ctorIdx = 15 then @PySem.Expr.Compare.elim (fun _ => Bool) e h f else false
@[elab_as_elim] theorem onCompare_el {e : PySem.Expr} {f : PySem.Expr → List CmpOp → List PySem.Expr → Pos → Bool} {G : PySem.Expr → Prop} (h : onCompare e f = true) (k : ∀ a b c d, f a b c d = true → G (.Compare a b c d)) : G e := by
  by_cases hc : e.ctorIdx = 15
  · exact @PySem.Expr.Compare.elim (fun e => ∀ hc, @PySem.Expr.Compare.elim (fun _ => Bool) e hc f = true → G e) e hc (fun a b c d _ h => k a b c d h) hc ((dif_pos hc).symm.trans h)
  · exact Bool.noConfusion ((dif_neg hc).symm.trans h)
noncomputable def onCall (e : PySem.Expr) (f : PySem.Expr → List PySem.Expr → List Keyword → Pos → Bool) : Bool := if h : e.ctorIdx = 16 then @PySem.Expr.Call.elim (fun _ => Bool) e h f else false
@[elab_as_elim] theorem onCall_el {e : PySem.Expr} {f : PySem.Expr → List PySem.Expr → List Keyword → Pos → Bool} {G : PySem.Expr → Prop} (h : onCall e f = true) (k : ∀ a b c d, f a b c d = true → G (.Call a b c d)) : G e := by
  by_cases hc : e.ctorIdx = 16
  · exact @PySem.Expr.Call.elim (fun e => ∀ hc, @PySem.Expr.Call.elim (fun _ => Bool) e hc f = true → G e) e hc (fun a b c d _ h => k a b c d h) hc ((dif_pos hc).symm.trans h)
  · exact Bool.noConfusion ((dif_neg hc).symm.trans h)
noncomputable def onConstant (e : PySem.Expr) (f : Const → Nat → Pos → Bool) : Bool := if h : e.ctorIdx = 19 then @PySem.Expr.Constant.elim (fun _ => Bool) e h f else false
@[elab_as_elim] theorem onConstant_el {e : PySem.Expr} {f : Const → Nat → Pos → Bool} {G : PySem.Expr → Prop} (h : onConstant e f = true) (k : ∀ a b c, f a b c = true → G (.Constant a b c)) : G e := by
  by_cases hc : e.ctorIdx = 19
  · exact @PySem.Expr.Constant.elim (fun e => ∀ hc, @PySem.Expr.Constant.elim (fun _ => Bool) e hc f = true → G e) e hc (fun a b c _ h => k a b c h) hc ((dif_pos hc).symm.trans h)
  · exact Bool.noConfusion ((dif_neg hc).symm.trans h)
noncomputable def onAttribute (e : PySem.Expr) (f : PySem.Expr → Str → Pos → Bool) : Bool := if h : e.ctorIdx = 20 then @PySem.Expr.Attribute.elim (fun _ => Bool) e h f else false
@[elab_as_elim] theorem onAttribute_el {e : PySem.Expr} {f : PySem.Expr → Str → Pos → Bool} {G : PySem.Expr → Prop} (h : onAttribute e f = true) (k : ∀ a b c, f a b c = true → G (.Attribute a b c)) : G e := by
  by_cases hc : e.ctorIdx = 20
  · exact @PySem.Expr.Attribute.elim (fun e => ∀ hc, @PySem.Expr.Attribute.elim (fun _ => Bool) e hc f = true → G e) e hc (fun a b c _ h => k a b c h) hc ((dif_pos hc).symm.trans h)
  · exact Bool.noConfusion ((dif_neg hc).symm.trans h)
noncomputable def onSubscript (e : PySem.Expr) (f : PySem.Expr → PySem.Expr → Pos → Bool) : Bool := if h : e.ctorIdx = 21 then @PySem.Expr.Subscript.elim (fun _ => Bool) e h f else false
@[elab_as_elim] theorem onSubscript_el {e : PySem.Expr} {f : PySem.Expr → PySem.Expr → Pos → Bool} {G : PySem.Expr → Prop} (h : onSubscript e f = true) (k : ∀ a b c, f a b c = true → G (.Subscript a b c)) : G e := by
  by_cases hc : e.ctorIdx = 21
  · exact @PySem.Expr.Subscript.elim (fun e => ∀ hc, @PySem.Expr.Subscript.elim (fun _ => Bool) e hc f = true → G e) e hc (fun a b c _ h => k a b c h) hc ((dif_pos hc).symm.trans h)
  · exact Bool.noConfusion ((dif_neg hc).symm.trans h)
noncomputable def onName (e : PySem.Expr) (f : Str → Pos → Bool) : Bool := if h : e.ctorIdx = 23 then @PySem.Expr.Name.elim (fun _ => Bool) e h f else false
@[elab_as_elim] theorem onName_el {e : PySem.Expr} {f : Str → Pos → Bool} {G : PySem.Expr → Prop} (h : onName e f = true) (k : ∀ a b, f a b = true → G (.Name a b)) : G e := by
  by_cases hc : e.ctorIdx = 23
  · exact @PySem.Expr.Name.elim (fun e => ∀ hc, @PySem.Expr.Name.elim (fun _ => Bool) e hc f = true → G e) e hc (fun a b _ h => k a b h) hc ((dif_pos hc).symm.trans h)
  · exact Bool.noConfusion ((dif_neg hc).symm.trans h)
noncomputable def onList (e : PySem.Expr) (f : List PySem.Expr → Pos → Bool) : Bool := if h : e.ctorIdx = 24 then @PySem.Expr.List.elim (fun _ => Bool) e h f else false
@[elab_as_elim] theorem onList_el {e : PySem.Expr} {f : List PySem.Expr → Pos → Bool} {G : PySem.Expr → Prop} (h : onList e f = true) (k : ∀ a b, f a b = true → G (.List a b)) : G e := by
  by_cases hc : e.ctorIdx = 24
  · exact @PySem.Expr.List.elim (fun e => ∀ hc, @PySem.Expr.List.elim (fun _ => Bool) e hc f = true → G e) e hc (fun a b _ h => k a b h) hc ((dif_pos hc).symm.trans h)
  · exact Bool.noConfusion ((dif_neg hc).symm.trans h)
noncomputable def onTuple (e : PySem.Expr) (f : List PySem.Expr → Nat → Pos → Bool) : Bool := if h : e.ctorIdx = 25 then @PySem.Expr.Tuple.elim (fun _ => Bool) e h f else false
@[elab_as_elim] theorem onTuple_el {e : PySem.Expr} {f : List PySem.Expr → Nat → Pos → Bool} {G : PySem.Expr → Prop} (h : onTuple e f = true) (k : ∀ a b c, f a b c = true → G (.Tuple a b c)) : G e := by
  by_cases hc : e.ctorIdx = 25
  · exact @PySem.Expr.Tuple.elim (fun e => ∀ hc, @PySem.Expr.Tuple.elim (fun _ => Bool) e hc f = true → G e) e hc (fun a b c _ h => k a b c h) hc ((dif_pos hc).symm.trans h)
  · exact Bool.noConfusion ((dif_neg hc).symm.trans h)
noncomputable def onSlice (e : PySem.Expr) (f : Option PySem.Expr → Option PySem.Expr → Option PySem.Expr → Pos → Bool) : Bool := if h : e.ctorIdx = 26 then @PySem.Expr.Slice.elim (fun _ => Bool) e h f else false
@[elab_as_elim] theorem onSlice_el {e : PySem.Expr} {f : Option PySem.Expr → Option PySem.Expr → Option PySem.Expr → Pos → Bool} {G : PySem.Expr → Prop} (h : onSlice e f = true) (k : ∀ a b c d, f a b c d = true → G (.Slice a b c d)) : G e := by
  by_cases hc : e.ctorIdx = 26
  · exact @PySem.Expr.Slice.elim (fun e => ∀ hc, @PySem.Expr.Slice.elim (fun _ => Bool) e hc f = true → G e) e hc (fun a b c d _ h => k a b c d h) hc ((dif_pos hc).symm.trans h)
  · exact Bool.noConfusion ((dif_neg hc).symm.trans h)
noncomputable def atReturn (e : PySem.Stmt) (f : Option PySem.Expr → Pos → Bool) : Bool := if h : e.ctorIdx = 3 then @PySem.Stmt.Return.elim (fun _ => Bool) e h f else false
@[elab_as_elim] theorem atReturn_el {e : PySem.Stmt} {f : Option PySem.Expr → Pos → Bool} {G : PySem.Stmt → Prop} (h : atReturn e f = true) (k : ∀ a b, f a b = true → G (.Return a b)) : G e := by
  by_cases hc : e.ctorIdx = 3
  · exact @PySem.Stmt.Return.elim (fun e => ∀ hc, @PySem.Stmt.Return.elim (fun _ => Bool) e hc f = true → G e) e hc (fun a b _ h => k a b h) hc ((dif_pos hc).symm.trans h)
  · exact Bool.noConfusion ((dif_neg hc).symm.trans h)
noncomputable def atAssign (e : PySem.Stmt) (f : List PySem.Expr → PySem.Expr → Pos → Bool) : Bool := if h : e.ctorIdx = 5 then @PySem.Stmt.Assign.elim (fun _ => Bool) e h f else false
@[elab_as_elim] theorem atAssign_el {e : PySem.Stmt} {f : List PySem.Expr → PySem.Expr → Pos → Bool} {G : PySem.Stmt → Prop} (h : atAssign e f = true) (k : ∀ a b c, f a b c = true → G (.Assign a b c)) : G e := by
  by_cases hc : e.ctorIdx = 5
  · exact @PySem.Stmt.Assign.elim (fun e => ∀ hc, @PySem.Stmt.Assign.elim (fun _ => Bool) e hc f = true → G e) e hc (fun a b c _ h => k a b c h) hc ((dif_pos hc).symm.trans h)
  · exact Bool.noConfusion ((dif_neg hc).symm.trans h)
noncomputable def atAugAssign (e : PySem.Stmt) (f : PySem.Expr → Operator → PySem.Expr → Pos → Bool) : Bool := if h : e.ctorIdx = 7 then @PySem.Stmt.AugAssign.elim (fun _ => Bool) e h f else false
@[elab_as_elim] theorem atAugAssign_el {e : PySem.Stmt} {f : PySem.Expr → Operator → PySem.Expr → Pos → Bool} {G : PySem.Stmt → Prop} (h : atAugAssign e f = true) (k : ∀ a b c d, f a b c d = true → G (.AugAssign a b c d)) : G e := by
  by_cases hc : e.ctorIdx = 7
  · exact @PySem.Stmt.AugAssign.elim (fun e => ∀ hc, @PySem.Stmt.AugAssign.elim (fun _ => Bool) e hc f = true → G e) e hc (fun a b c d _ h => k a b c d h) hc ((dif_pos hc).symm.trans h)
  · exact Bool.noConfusion ((dif_neg hc).symm.trans h)
noncomputable def atFor (e : PySem.Stmt) (f : PySem.Expr → PySem.Expr → List Stmt → List Stmt → Pos → Bool) : Bool := if h : e.ctorIdx = 9 then @PySem.Stmt.For.elim (fun _ => Bool) e h f else false
@[elab_as_elim] theorem atFor_el {e : PySem.Stmt} {f : PySem.Expr → PySem.Expr → List Stmt → List Stmt → Pos → Bool} {G : PySem.Stmt → Prop} (h : atFor e f = true) (k : ∀ a b c d e, f a b c d e = true → G (.For a b c d e)) : G e := by
  by_cases hc : e.ctorIdx = 9
  · exact @PySem.Stmt.For.elim (fun e => ∀ hc, @PySem.Stmt.For.elim (fun _ => Bool) e hc f = true → G e) e hc (fun a b c d e _ h => k a b c d e h) hc ((dif_pos hc).symm.trans h)
  · exact Bool.noConfusion ((dif_neg hc).symm.trans h)
noncomputable def atWhile (e : PySem.Stmt) (f : PySem.Expr → List Stmt → List Stmt → Pos → Bool) : Bool := if h : e.ctorIdx = 11 then @PySem.Stmt.While.elim (fun _ => Bool) e h f else false
@[elab_as_elim] theorem atWhile_el {e : PySem.Stmt} {f : PySem.Expr → List Stmt → List Stmt → Pos → Bool} {G : PySem.Stmt → Prop} (h : atWhile e f = true) (k : ∀ a b c d, f a b c d = true → G (.While a b c d)) : G e := by
  by_cases hc : e.ctorIdx = 11
  · exact @PySem.Stmt.While.elim (fun e => ∀ hc, @PySem.Stmt.While.elim (fun _ => Bool) e hc f = true → G e) e hc (fun a b c d _ h => k a b c d h) hc ((dif_pos hc).symm.trans h)
  · exact Bool.noConfusion ((dif_neg hc).symm.trans h)
noncomputable def atIf (e : PySem.Stmt) (f : PySem.Expr → List Stmt → List Stmt → Pos → Bool) : Bool := if h : e.ctorIdx = 12 then @PySem.Stmt.If.elim (fun _ => Bool) e h f else false
@[elab_as_elim] theorem atIf_el {e : PySem.Stmt} {f : PySem.Expr → List Stmt → List Stmt → Pos → Bool} {G : PySem.Stmt → Prop} (h : atIf e f = true) (k : ∀ a b c d, f a b c d = true → G (.If a b c d)) : G e := by
  by_cases hc : e.ctorIdx = 12
  · exact @PySem.Stmt.If.elim (fun e => ∀ hc, @PySem.Stmt.If.elim (fun _ => Bool) e hc f = true → G e) e hc (fun a b c d _ h => k a b c d h) hc ((dif_pos hc).symm.trans h)
  · exact Bool.noConfusion ((dif_neg hc).symm.trans h)
noncomputable def atExpr (e : PySem.Stmt) (f : PySem.Expr → Pos → Bool) : Bool := if h : e.ctorIdx = 24 then @PySem.Stmt.Expr.elim (fun _ => Bool) e h f else false
@[elab_as_elim] theorem atExpr_el {e : PySem.Stmt} {f : PySem.Expr → Pos → Bool} {G : PySem.Stmt → Prop} (h : atExpr e f = true) (k : ∀ a b, f a b = true → G (.Expr a b)) : G e := by
  by_cases hc : e.ctorIdx = 24
  · exact @PySem.Stmt.Expr.elim (fun e => ∀ hc, @PySem.Stmt.Expr.elim (fun _ => Bool) e hc f = true → G e) e hc (fun a b _ h => k a b h) hc ((dif_pos hc).symm.trans h)
  · exact Bool.noConfusion ((dif_neg hc).symm.trans h)
noncomputable def dtseq (e : PySem.Data) (f : Array Value → Nat → Bool) : Bool := if h : e.ctorIdx = 2 then @PySem.Data.seq.elim (fun _ => Bool) e h f else false
@[elab_as_elim] theorem dtseq_el {e : PySem.Data} {f : Array Value → Nat → Bool} {G : PySem.Data → Prop} (h : dtseq e f = true) (k : ∀ a b, f a b = true → G (.seq a b)) : G e := by
  by_cases hc : e.ctorIdx = 2
  · exact @PySem.Data.seq.elim (fun e => ∀ hc, @PySem.Data.seq.elim (fun _ => Bool) e hc f = true → G e) e hc (fun a b _ h => k a b h) hc ((dif_pos hc).symm.trans h)
  · exact Bool.noConfusion ((dif_neg hc).symm.trans h)
noncomputable def dtfunc (e : PySem.Data) (f : FuncData → Bool) : Bool := if h : e.ctorIdx = 7 then @PySem.Data.func.elim (fun _ => Bool) e h f else false
@[elab_as_elim] theorem dtfunc_el {e : PySem.Data} {f : FuncData → Bool} {G : PySem.Data → Prop} (h : dtfunc e f = true) (k : ∀ a, f a = true → G (.func a)) : G e := by
  by_cases hc : e.ctorIdx = 7
  · exact @PySem.Data.func.elim (fun e => ∀ hc, @PySem.Data.func.elim (fun _ => Bool) e hc f = true → G e) e hc (fun a _ h => k a h) hc ((dif_pos hc).symm.trans h)
  · exact Bool.noConfusion ((dif_neg hc).symm.trans h)
noncomputable def fbstmts (e : PySem.FuncBody) (f : List Stmt → Bool) : Bool := if h : e.ctorIdx = 0 then @PySem.FuncBody.stmts.elim (fun _ => Bool) e h f else false
@[elab_as_elim] theorem fbstmts_el {e : PySem.FuncBody} {f : List Stmt → Bool} {G : PySem.FuncBody → Prop} (h : fbstmts e f = true) (k : ∀ a, f a = true → G (.stmts a)) : G e := by
  by_cases hc : e.ctorIdx = 0
  · exact @PySem.FuncBody.stmts.elim (fun e => ∀ hc, @PySem.FuncBody.stmts.elim (fun _ => Bool) e hc f = true → G e) e hc (fun a _ h => k a h) hc ((dif_pos hc).symm.trans h)
  · exact Bool.noConfusion ((dif_neg hc).symm.trans h)
noncomputable def cnbool (e : PySem.Const) (f : Bool → Bool) : Bool := if h : e.ctorIdx = 1 then @PySem.Const.bool.elim (fun _ => Bool) e h f else false
@[elab_as_elim] theorem cnbool_el {e : PySem.Const} {f : Bool → Bool} {G : PySem.Const → Prop} (h : cnbool e f = true) (k : ∀ a, f a = true → G (.bool a)) : G e := by
  by_cases hc : e.ctorIdx = 1
  · exact @PySem.Const.bool.elim (fun e => ∀ hc, @PySem.Const.bool.elim (fun _ => Bool) e hc f = true → G e) e hc (fun a _ h => k a h) hc ((dif_pos hc).symm.trans h)
  · exact Bool.noConfusion ((dif_neg hc).symm.trans h)
noncomputable def cnint (e : PySem.Const) (f : Int → Bool) : Bool := if h : e.ctorIdx = 2 then @PySem.Const.int.elim (fun _ => Bool) e h f else false
@[elab_as_elim] theorem cnint_el {e : PySem.Const} {f : Int → Bool} {G : PySem.Const → Prop} (h : cnint e f = true) (k : ∀ a, f a = true → G (.int a)) : G e := by
  by_cases hc : e.ctorIdx = 2
  · exact @PySem.Const.int.elim (fun e => ∀ hc, @PySem.Const.int.elim (fun _ => Bool) e hc f = true → G e) e hc (fun a _ h => k a h) hc ((dif_pos hc).symm.trans h)
  · exact Bool.noConfusion ((dif_neg hc).symm.trans h)
noncomputable def cnstr (e : PySem.Const) (f : Str → Bool) : Bool := if h : e.ctorIdx = 5 then @PySem.Const.str.elim (fun _ => Bool) e h f else false
@[elab_as_elim] theorem cnstr_el {e : PySem.Const} {f : Str → Bool} {G : PySem.Const → Prop} (h : cnstr e f = true) (k : ∀ a, f a = true → G (.str a)) : G e := by
  by_cases hc : e.ctorIdx = 5
  · exact @PySem.Const.str.elim (fun e => ∀ hc, @PySem.Const.str.elim (fun _ => Bool) e hc f = true → G e) e hc (fun a _ h => k a h) hc ((dif_pos hc).symm.trans h)
  · exact Bool.noConfusion ((dif_neg hc).symm.trans h)
noncomputable def vlref (e : PySem.Value) (f : Addr → Bool) : Bool := if h : e.ctorIdx = 10 then @PySem.Value.ref.elim (fun _ => Bool) e h f else false
@[elab_as_elim] theorem vlref_el {e : PySem.Value} {f : Addr → Bool} {G : PySem.Value → Prop} (h : vlref e f = true) (k : ∀ a, f a = true → G (.ref a)) : G e := by
  by_cases hc : e.ctorIdx = 10
  · exact @PySem.Value.ref.elim (fun e => ∀ hc, @PySem.Value.ref.elim (fun _ => Bool) e hc f = true → G e) e hc (fun a _ h => k a h) hc ((dif_pos hc).symm.trans h)
  · exact Bool.noConfusion ((dif_neg hc).symm.trans h)
noncomputable def vlint (e : PySem.Value) (f : Int → Tok → Bool) : Bool := if h : e.ctorIdx = 4 then @PySem.Value.int.elim (fun _ => Bool) e h f else false
@[elab_as_elim] theorem vlint_el {e : PySem.Value} {f : Int → Tok → Bool} {G : PySem.Value → Prop} (h : vlint e f = true) (k : ∀ a b, f a b = true → G (.int a b)) : G e := by
  by_cases hc : e.ctorIdx = 4
  · exact @PySem.Value.int.elim (fun e => ∀ hc, @PySem.Value.int.elim (fun _ => Bool) e hc f = true → G e) e hc (fun a b _ h => k a b h) hc ((dif_pos hc).symm.trans h)
  · exact Bool.noConfusion ((dif_neg hc).symm.trans h)
open PySem PySem.W PySem.Calls PyProof.Rows

inductive All2 {α β : Type} (R : α → β → Prop) : List α → List β → Prop
  | nil : All2 R [] []
  | cons {a b l r} : R a b → All2 R l r → All2 R (a :: l) (b :: r)

section
variable {prog : Program} {w : World} {K : Frag} {h₀ : Heap} {an : Nat → Str} {Φ : Tab} {n : Nat} {sc : List (Str × NameKind)} {vars : List Str}

theorem OutT.of {Pm : Params} {g : G} {ρ : Rho} {h : Heap} {s : Shared} {σ' τ : Sto} {b c : Bool} {F : Bool → Shared → Prop} (hQ : OutT an Pm h₀ g ρ h s σ' (F b)) (e : some (c, τ) = some (b, σ')) : OutT an Pm h₀ g ρ h s τ (F c) := by
  cases e; exact hQ
theorem all_true (isAnd : Bool) {es : List PySem.Expr} {mes : List E} (H : All2 (SoundT prog w h₀ an Φ n sc vars) es mes) :
    ∀ ⦃env : Env⦄ ⦃A : Around⦄ ⦃Er : Value → Shared → Prop⦄ ⦃s : Shared⦄ ⦃h : Heap⦄ ⦃tk : Nat⦄ ⦃g : G⦄ ⦃ρ : Rho⦄ ⦃σ : Sto⦄ ⦃m : Mem⦄ ⦃b : Bool⦄ ⦃σ' : Sto⦄ ⦃Q : Bool → Shared → Prop⦄, env.scope.names = sc → Room A n →
    EnvOk an w.params env vars m g ρ h → St an w.params h₀ g ρ σ h → E.dens? Φ m isAnd mes σ = some (b, σ') → OutT an w.params h₀ g ρ h s σ' (Q b) →
    wpAny (model prog w) A (allTrue (if isAnd then .And else .Or) es env) Q Er (sh s h tk) := by
  induction H with
  | nil =>
    intro env A Er s h tk g ρ σ m b σ' Q hsc R N S hd hQ
    cases hd
    cases isAnd
    · exact wpAny_allTrue_Or_nil (hQ.at S)
    · exact wpAny_allTrue_And_nil (hQ.at S)
  | @cons e0 me0 es0 mes0 he _ ih =>
    intro env A Er s h tk g ρ σ m b σ' Q hsc R N S hd hQ
    refine den1_el hd fun v1 σ1 h1 hd => onB_el (G := fun v => E.den Φ m me0 σ = some (v, σ1) → _) hd (fun b1 hd h1 => ?_) h1
    cases isAnd with
    | true =>
      refine wpAny_allTrue_And_cons (he hsc R N S h1 fun g1 ρ1 hh1 tk1 S1 X1 => ?_)
      cases b1 with
      | true => exact ih hsc R (N.ext X1 noW_env) S1 hd (hQ.then X1)
      | false => exact hQ.of hd S1 X1
    | false =>
      refine wpAny_allTrue_Or_cons (he hsc R N S h1 fun g1 ρ1 hh1 tk1 S1 X1 => ?_)
      cases b1 with
      | false => exact ih hsc R (N.ext X1 noW_env) S1 hd (hQ.then X1)
      | true => exact hQ.of hd S1 X1
theorem T_bop {isAnd : Bool} {es : List PySem.Expr} {mes : List E} {pos : Pos} (H : All2 (SoundT prog w h₀ an Φ n sc vars) es mes) : SoundT prog w h₀ an Φ n sc vars (.BoolOp (if isAnd then .And else .Or) es pos) (.bop isAnd mes) := by
  intro env A Er s h tk g ρ σ m b σ' Q hsc R N S hd hQ
  refine omap hd fun c τ h1 hd => wpAny_isTrue_BoolOp ?_
  cases hd
  exact all_true isAnd H hsc R N S h1 hQ

theorem bool_op (isAnd : Bool) (pos : Pos) {es : List PySem.Expr} {mes : List E} (hne : es ≠ []) (H : All2 (SoundE prog w h₀ an Φ n sc vars) es mes) :
    ∀ ⦃env : Env⦄ ⦃A : Around⦄ ⦃Er : Value → Shared → Prop⦄ ⦃s : Shared⦄ ⦃h : Heap⦄ ⦃tk : Nat⦄ ⦃g : G⦄ ⦃ρ : Rho⦄ ⦃σ : Sto⦄ ⦃m : Mem⦄ ⦃b : Bool⦄ ⦃σ' : Sto⦄ ⦃Q : Value → Shared → Prop⦄, env.scope.names = sc → Room A n →
    EnvOk an w.params env vars m g ρ h → St an w.params h₀ g ρ σ h → E.dens? Φ m isAnd mes σ = some (b, σ') → OutT an w.params h₀ g ρ h s σ' (Q (.bool b)) →
    wpAny (model prog w) A (boolOp pos (if isAnd then .And else .Or) (evalEach es env)) Q Er (sh s h tk) := by
  induction H with
  | nil => exact absurd rfl hne
  | @cons e me es mes he hes ih =>
    intro env A Er s h tk g ρ σ m b σ' Q hsc R N S hd hQ
    refine den1_el hd fun v1 σ1 h1 hd => onB_el (G := fun v => E.den Φ m me σ = some (v, σ1) → _) hd (fun b1 hd h1 => ?_) h1
    cases hes with
    | nil =>
      show wpAny _ A (eval e env) Q Er _
      refine he hsc R N S h1 (OutT.E fun g1 ρ1 hh1 tk1 S1 X1 => ?_)
      cases isAnd <;> cases b1 <;> exact OutT.of (F := fun b => Q (.bool b)) hQ hd S1 X1
    | @cons e2 me2 es2 mes2 he2 hes2 =>
      show wpAny _ A (do
        let v ← eval e env
        standAt pos
        let t ← holding [v] (truthy v)
        match (if isAnd then BoolOp.And else BoolOp.Or), t with
        | .And, false | .Or, true => pure v
        | _, _ => boolOp pos (if isAnd then .And else .Or) (evalEach (e2 :: es2) env)) _ Er _
      refine wpAny_bind (he hsc R N S h1 (OutT.E fun g1 ρ1 hh1 tk1 S1 X1 => ?_))
      refine wpAny_bind (wpAny_standAt (wpAny_bind (wpAny_holding (wpAny_truthy_bool ?_))))
      cases isAnd <;> cases b1
      · exact ih (List.cons_ne_nil _ _) hsc R (N.ext X1 noW_env) S1 hd (hQ.then X1)
      · exact wpAny_pure (OutT.of (F := fun b => Q (.bool b)) hQ hd S1 X1)
      · exact wpAny_pure (OutT.of (F := fun b => Q (.bool b)) hQ hd S1 X1)
      · exact ih (List.cons_ne_nil _ _) hsc R (N.ext X1 noW_env) S1 hd (hQ.then X1)
theorem E_bop {isAnd : Bool} {es : List PySem.Expr} {mes : List E} {pos : Pos} (hne : es ≠ []) (H : All2 (SoundE prog w h₀ an Φ n sc vars) es mes) : SoundE prog w h₀ an Φ n sc vars (.BoolOp (if isAnd then .And else .Or) es pos) (.bop isAnd mes) := by
  intro env A Er s h tk g ρ σ m v σ' Q hsc R N S hd hQ
  refine omap hd fun c τ h1 hd => ?_
  exact (bool_op isAnd pos hne H hsc R N S h1 fun _ _ _ _ S1 X1 => hQ.of hd S1 X1 rfl : wpAny _ A (boolOp pos (if isAnd then .And else .Or) (evalEach es env)) _ Er _)

noncomputable def notBare (e : PySem.Expr) : Bool := !onCall e fun f args kws _ => onName f fun _ _ => args.isEmpty && kws.isEmpty
theorem base_plain {o : PySem.Expr} {attr : Str} {env : Env} {whole : Sem Value} (h : notBare o = true) : attributeBase o attr env whole = whole := by
  cases o with
  | Call f args kws p =>
    cases f with
    | Name x q =>
      cases args with
      | nil => cases kws with
        | nil => cases h
        | cons => rfl
      | cons => rfl
    | _ => rfl
  | _ => rfl

noncomputable def clsOk (K : Frag) (c : Addr) : Bool := (clsIn K c).any (fun cd => cd.hasDict) && findIn K (.ref c) "__getattribute__" == some (some (.builtin "object.__getattribute__")) && findIn K (.ref c) "__setattr__" == some (some (.builtin "object.__setattr__")) &&
  findIn K (.ref c) "__getattr__" == some none && plainOver K c
noncomputable def attrOk (K : Frag) (c : Addr) (x : Str) : Bool := clsOk K c && findIn K (.ref c) x == some none
noncomputable def isIntV (i : Int) : Value → Bool
  | .int j _ => i == j
  | _ => false
noncomputable def oo {α : Type} (x : Option (Option α)) (f : α → Bool) : Bool := match x with
  | some (some v) => f v
  | _ => false
noncomputable def D.intIs (f : Int → Bool) : D → Bool
  | .int i => f i
  | _ => false
noncomputable def cattrOk (K : Frag) (c : Addr) (x : Str) (d : D) : Bool := clsOk K c && (!copiedNames.contains x && d.intIs fun i => oo (findIn K (.ref c) x) (isIntV i))
@[elab_as_elim] theorem intIs_el {f : Int → Bool} {d : D} (h : d.intIs f = true) {G : D → Prop} (k : ∀ i, f i = true → G (.int i)) : G d := by
  cases d with
  | int i => exact k i h
  | _ => exact Bool.noConfusion h
theorem oo_el {α : Type} {x : Option (Option α)} {f : α → Bool} (h : oo x f = true) {P' : Prop} (k : ∀ v, x = some (some v) → f v = true → P') : P' := by
  cases x with
  | none => exact Bool.noConfusion h
  | some x => cases x with
    | none => exact Bool.noConfusion h
    | some v => exact k v rfl h
theorem isIntV_el {i : Int} {v : Value} (h : isIntV i v = true) : ∃ t, v = .int i t := by
  cases v with
  | int j t => exact ⟨t, by rw [beq_iff_eq.mp h]⟩
  | _ => exact Bool.noConfusion h
theorem int_no_get (i : Int) (t : Tok) : specialIn K (.int i t) "__get__" = some none := by
  show (typeIn K (.int i t)).bind _ = _
  rw [show typeIn K (.int i t) = some (.type "int") from rfl]
  show fastLookup "int" _ = some none
  kernel_rfl

theorem fz_some {α : Type} {R : α → Value → Prop} {Pm : Params} (hinj : ∀ i j, an i = an j → i = j) {k : Nat} {x : α} {ks : List Nat} {vs : List α} {es : List DictEntry} (H : Fz an Pm R ks vs es) (e : lookK ks vs k = some x) :
    ∃ e, es.find? (fun e => e.key.isStr (an k)) = some e ∧ R x e.val := by
  induction H with
  | nil => exact noS e
  | @cons j v d ks vs es ht _ hv _ ih =>
    obtain ⟨t, ht⟩ := ht
    rw [List.find?_cons, ht]
    by_cases q : k = j
    · rw [show (Value.str (an j) t).isStr (an k) = true from q ▸ beq_self_eq_true (an k)]
      cases (if_pos q).symm.trans e
      exact ⟨d, rfl, hv⟩
    · rw [show (Value.str (an j) t).isStr (an k) = false from beq_eq_false_iff_ne.mpr fun z => q (hinj _ _ z).symm]
      exact ih ((if_neg q).symm.trans e)
theorem fz_none {α : Type} {R : α → Value → Prop} {Pm : Params} (hinj : ∀ i j, an i = an j → i = j) {k : Nat} {ks : List Nat} {vs : List α} {es : List DictEntry} (H : Fz an Pm R ks vs es) (e : lookK ks vs k = none) :
    es.find? (fun e => e.key.isStr (an k)) = none ∧ es.any (·.refKey) = false := by
  induction H with
  | nil => exact ⟨rfl, rfl⟩
  | @cons j v d ks vs es ht _ hv _ ih =>
    obtain ⟨t, ht⟩ := ht
    by_cases q : k = j
    · cases (if_pos q).symm.trans e
    · obtain ⟨r1, r2⟩ := ih ((if_neg q).symm.trans e)
      rw [List.find?_cons, List.any_cons, ht, r2, show (Value.str (an j) t).isStr (an k) = false from beq_eq_false_iff_ne.mpr fun z => q (hinj _ _ z).symm]
      exact ⟨r1, by rw [Bool.or_false, DictEntry.refKey, ht]⟩

structure ClsOk (K : Frag) (c : Addr) : Prop where
  cls : ∃ cd, clsIn K c = some cd ∧ cd.hasDict = true
  ga : findIn K (.ref c) "__getattribute__" = some (some (.builtin "object.__getattribute__"))
  sa : findIn K (.ref c) "__setattr__" = some (some (.builtin "object.__setattr__"))
  gt : findIn K (.ref c) "__getattr__" = some none
  plain : plainOver K c = true
theorem clsOk_iff {c : Addr} (h : clsOk K c = true) : ClsOk K c := by
  refine and_el h fun h h5 => and_el h fun h h4 => and_el h fun h h3 => and_el h fun h1 h2 => ⟨?_, beq_iff_eq.mp h2, beq_iff_eq.mp h3, beq_iff_eq.mp h4, h5⟩
  cases q : clsIn K c with
  | none => rw [q] at h1; cases h1
  | some cd => rw [q] at h1; exact ⟨cd, rfl, h1⟩

theorem own_some {cd : ClassData} {od : Obj} {x : Str} {es : Array DictEntry} {ep : Nat} {e : DictEntry} (hhd : cd.hasDict = true) (hdat : od.data = .dict es ep) (he : es.toList.find? (fun e => e.key.isStr x) = some e) : PySem.W.ownOf cd (some od) x = some (some e.val) := by
  unfold PySem.W.ownOf
  rw [hhd, if_pos rfl]
  unfold lookIn
  dsimp only
  rw [hdat]
  dsimp only
  rw [he]
theorem own_none {cd : ClassData} {od : Obj} {x : Str} {es : Array DictEntry} {ep : Nat} (hhd : cd.hasDict = true) (hdat : od.data = .dict es ep) (he : es.toList.find? (fun e => e.key.isStr x) = none) (hr : es.toList.any (·.refKey) = false) : PySem.W.ownOf cd (some od) x = some none := by
  unfold PySem.W.ownOf
  rw [hhd, if_pos rfl]
  unfold lookIn
  dsimp only
  rw [hdat]
  dsimp only
  rw [he, hr]
  rfl
theorem get_own' {A : Around} {Er : Value → Shared → Prop} {s : Shared} {h : Heap} {tk : Nat} {x c : Addr} {k : Nat} {d : Addr} {od : Obj} {es : Array DictEntry} {ep : Nat} {e : DictEntry} {Q : Value → Shared → Prop} (X : K.In h) (hk : attrOk K c (an k) = true)
    (hx : h.get? x = some (instObj c d)) (hd : h.get? d = some od) (hdat : od.data = .dict es ep) (he : es.toList.find? (fun e => e.key.isStr (an k)) = some e) (hh : handedIn e.val = true) (hQ : Q e.val (sh s h (tk + 1))) :
    wpAny (model prog w) A (getAttr (.ref x) (an k) true) Q Er (sh s h tk) := by
  refine and_el hk fun hc hk => ?_
  have C := clsOk_iff hc
  obtain ⟨cd, hcd, hhd⟩ := C.cls
  refine get_value (s := sh s h tk) (od := some od) X ⟨hx, rfl, rfl, hd⟩ C.ga ?_ hh hQ
  unfold findObj
  rw [hcd, Option.bind_some, beq_iff_eq.mp hk, Option.bind_some, Option.bind_some, own_some hhd hdat he]
  rfl
theorem get_cls' {A : Around} {Er : Value → Shared → Prop} {s : Shared} {h : Heap} {tk : Nat} {x c : Addr} {k : Nat} {d : Addr} {od : Obj} {es : Array DictEntry} {ep : Nat} {y : D} {Q : Value → Shared → Prop} (X : K.In h) (hk : cattrOk K c (an k) y = true)
    (hx : h.get? x = some (instObj c d)) (hd : h.get? d = some od) (hdat : od.data = .dict es ep) (he : es.toList.find? (fun e => e.key.isStr (an k)) = none ∧ es.toList.any (·.refKey) = false)
    (hQ : ∀ i t, y = .int i → Q (.int i t) (sh s h (tk + 1))) : wpAny (model prog w) A (getAttr (.ref x) (an k) true) Q Er (sh s h tk) := by
  refine and_el hk fun hc hk => and_el hk fun hcp hk => ?_
  have C := clsOk_iff hc
  obtain ⟨cd, hcd, hhd⟩ := C.cls
  revert hQ
  refine intIs_el hk fun i hk hQ => oo_el hk fun v hf hk => ?_
  obtain ⟨t, rfl⟩ := isIntV_el hk
  refine get_value (s := sh s h tk) (od := some od) X ⟨hx, rfl, rfl, hd⟩ C.ga ?_ rfl (hQ i t rfl)
  unfold findObj
  rw [hcd, Option.bind_some, hf, Option.bind_some]
  dsimp only
  rw [int_no_get, Option.bind_some, own_none hhd hdat he.1 he.2, Option.bind_some]
  dsimp only
  rw [(Bool.not_eq_true' _).mp hcp]
  rfl

theorem handedD {g : G} {Pm : Params} {x : D} {v : Value} (h : IsD an Pm g x v) : handedIn v = true := by
  cases x with
  | none => cases (h : v = .none); rfl
  | bool b => cases (h : v = .bool b); rfl
  | int i => obtain ⟨t, h⟩ := h; rw [h]; rfl
  | str i => obtain ⟨t, h⟩ := h; rw [h]; rfl
  | tup => obtain ⟨a, ep, items, h, _⟩ := h; rw [h]; rfl
  | lst => obtain ⟨a, o, ep, items, h, _⟩ := h; rw [h]; rfl
  | obj => obtain ⟨a, d, od, es, ep, h, _⟩ := h; rw [h]; rfl
theorem handed_is {g : G} {ρ : Rho} {Pm : Params} {x : V} {v : Value} (h : IsV an Pm ρ g x v) : handedIn v = true := by
  cases x with
  | d y => exact handedD h
  | ref j => obtain ⟨p, _, h⟩ := h; rw [h]; rfl
  | tup l => obtain ⟨a, ep, items, h, _⟩ := h; rw [h]; rfl

structure TabOk (K : Frag) (an : Nat → Str) (addr : Nat → Addr) (Φ : Tab) : Prop where
  inj : ∀ i j, an i = an j → i = j
  ok : ∀ c k, Φ.ok c k = true → attrOk K c (an k) = true
  cattr : ∀ c k x, Φ.cattr c k = some x → cattrOk K c (an k) x = true
  meth : ∀ c k f, Φ.meth c k = some f → clsOk K c = true ∧ findIn K (.ref c) (an k) = some (some (.ref (addr f))) ∧ typeIn K (.ref (addr f)) = some (.type "function")
  init : ∀ c f, Φ.init c = some f → makesIn K c = true ∧ findIn K (.ref c) "__init__" = some (some (.ref (addr f))) ∧ typeIn K (.ref (addr f)) = some (.type "function")

theorem field_sound {α : Type} {R : α → Value → Prop} {f : D → α} {addr : Nat → Addr} (TO : TabOk K an addr Φ) {A : Around} {Er : Value → Shared → Prop} {s : Shared} {h : Heap} {tk : Nat} {k c : Nat} {ks : List Nat} {vs : List α} {r : α} {x d : Addr} {od : Obj} {es : Array DictEntry} {ep : Nat} {Q : Value → Shared → Prop} (X : K.In h)
    (hx : h.get? x = some (instObj c d)) (hd : h.get? d = some od) (hdat : od.data = .dict es ep) (H : Fz an w.params R ks vs es.toList) (hh : ∀ a v, R a v → handedIn v = true) (hf : ∀ i t, R (f (.int i)) (.int i t)) (e : fieldOf Φ f c (lookK ks vs k) k = some r)
    (hQ : ∀ val, R r val → Q val (sh s h (tk + 1))) : wpAny (model prog w) A (getAttr (.ref x) (an k) true) Q Er (sh s h tk) := by
  cases q : lookK ks vs k with
  | some y =>
    rw [q] at e
    refine whenB_el e fun hok e => ?_
    obtain ⟨en, q1, q2⟩ := fz_some TO.inj H q
    cases e
    exact get_own' X (TO.ok _ _ hok) hx hd hdat q1 (hh _ _ q2) (hQ _ q2)
  | none =>
    rw [q] at e
    refine omap1 e fun y hc e => get_cls' X (TO.cattr _ _ _ hc) hx hd hdat (fz_none TO.inj H q) fun i t hy => hQ _ ?_
    cases e
    exact hy ▸ hf i t
theorem attr_sound {addr : Nat → Addr} (TO : TabOk K an addr Φ) {A : Around} {Er : Value → Shared → Prop} {s : Shared} {h : Heap} {tk : Nat} {g : G} {ρ : Rho} {σ : Sto} {k : Nat} {v r : V} {val : Value} {Q : Value → Shared → Prop} (X : K.In h)
    (S : St an w.params h₀ g ρ σ h) (hv : IsV an w.params ρ g v val) (e : attrV Φ σ v k = some r) (hQ : ∀ val', IsV an w.params ρ g r val' → Q val' (sh s h (tk + 1))) :
    wpAny (model prog w) A (getAttr val (an k) true) Q Er (sh s h tk) := by
  cases v with
  | d x => cases x with
    | obj c ks vs =>
      obtain ⟨a, d, od, es, ep, hv, h1, h2, h3, h4, h5⟩ := hv
      exact omap1 e fun y e e' => hv ▸ field_sound (R := IsD an w.params g) (f := id) TO X (S.le _ _ h1) (S.le _ _ h2) h4 (fz_of_fs h5) (fun _ _ q => handedD q) (fun i t => ⟨t, rfl⟩) e fun val hval => hQ _ (Option.some.inj e' ▸ hval)
    | _ => exact noS e
  | ref i =>
    obtain ⟨p, hp, hv⟩ := hv
    refine atO_el e fun c ks vs hs e => ?_
    obtain ⟨_, h1, od, es, ep, h2, h3, h4, h5⟩ := S.obj _ _ _ hp hs
    exact hv ▸ field_sound (R := IsV an w.params ρ g) (f := V.d) TO X h1 h2 h4 h5 (fun _ _ q => handed_is q) (fun i t => ⟨t, rfl⟩) e hQ
  | tup => exact noS e

theorem E_attr {addr : Nat → Addr} (D : Wd K h₀) (TO : TabOk K an addr Φ) {a : PySem.Expr} {ma : E} {k : Nat} {x : Str} {pos : Pos} (ha : SoundE prog w h₀ an Φ n sc vars a ma) (hb : notBare a = true) (hx : an k = x) :
    SoundE prog w h₀ an Φ n sc vars (.Attribute a x pos) (.attr ma k) := by
  subst hx
  intro env A Er s h tk g ρ σ m v σ' Q hsc R N S hd hQ
  refine den1_el hd fun v1 σ1 h1 hd => hQ.toV hd fun r hr hQ => Attribute_any_ (ev1 ha hsc R N S h1 hQ fun val g1 ρ1 hh1 tk1 S1 hQ hv => ?_) ?_
  · exact attr_sound TO (D.k.keeps fun b o e => S1.heapOf b o e) S1 hv hr fun val' hval' => hQ.at S1 hval'
  · show (do let o ← attributeBase a (an k) env (eval a env); standAt pos.atName; let r ← holding [o] (getAttr o (an k) true); letTemporaryGo a o r; pure r) = _
    rw [base_plain hb]
end

section
variable {prog : Program} {w : World} {K : Frag} {h₀ : Heap} {an : Nat → Str} {Φ : Tab} {n : Nat} {sc : List (Str × NameKind)} {vars : List Str}

noncomputable def notSlice (e : PySem.Expr) : Bool := !(e.ctorIdx == 26)
theorem subscripted_plain {sl : PySem.Expr} {o i : Value} (h : notSlice sl = true) : subscripted sl false o i = operate [o, i] (getItem o i) := by
  cases sl <;> first | rfl | cases h

theorem Out.newL {Pm : Params} {g : G} {ρ : Rho} {h : Heap} {s : Shared} {l : List D} {σ : Sto} {items : Array Value} {tk : Nat} {Q : Value → Shared → Prop} (hQ : Out an Pm h₀ g ρ h s (.d (.lst l)) σ Q) (S : St an Pm h₀ g ρ σ h) (hz : items.size ≤ sizeLine) (hi : IsDs an Pm g l items.toList) :
    Q (.ref h.objs.size) (sh s (h.push { cls := .type "list", data := .seq items }) tk) :=
  hQ (S.pushG _ rfl) (Ext.pushG S _) ⟨_, _, _, items, rfl, updG_self _ _ _, rfl, rfl, hz, hi.mono (Ext.pushG (W := noW) S _).gle⟩
theorem Out.newT {Pm : Params} {g : G} {ρ : Rho} {h : Heap} {s : Shared} {l : List D} {σ : Sto} {items : Array Value} {tk : Nat} {Q : Value → Shared → Prop} (hQ : Out an Pm h₀ g ρ h s (.d (.tup l)) σ Q) (S : St an Pm h₀ g ρ σ h) (hz : items.size ≤ sizeLine) (hi : IsDs an Pm g l items.toList) :
    Q (.ref h.objs.size) (sh s (h.push { cls := .type "tuple", data := .seq items }) tk) :=
  hQ (S.pushG _ rfl) (Ext.pushG S _) ⟨_, _, items, rfl, updG_self _ _ _, hz, hi.mono (Ext.pushG (W := noW) S _).gle⟩

theorem seqIdx {α : Type} {l : List α} {i : Int} {x : α} (h : getIdx l i = some x) : ∃ j, seqIndex? i l.length = some j ∧ l[j]? = some x ∧ j < l.length ∧ -(l.length : Int) ≤ i ∧ i < (l.length : Int) := by
  unfold getIdx at h
  split at h
  · rename_i h0
    have hlt : i.toNat < l.length := (List.getElem?_eq_some_iff.mp h).1
    refine ⟨i.toNat, ?_, h, hlt, by omega, by omega⟩
    unfold seqIndex?
    have : ¬ i < 0 := by omega
    simp only [this, if_false]
    rw [if_pos (by simp; omega)]
  · split at h
    · rename_i h0 h1
      have hlt : (i + l.length).toNat < l.length := (List.getElem?_eq_some_iff.mp h).1
      refine ⟨_, seqIndex_neg (by omega) h1, h, hlt, h1, by omega⟩
    · cases h

theorem size_line_lt {k : Nat} (h : k ≤ sizeLine) : (k : Int) ≤ 16777216 := by rw [sizeLine_eq] at h; omega

theorem item_list' {A : Around} {Er : Value → Shared → Prop} {s : Shared} {a : Addr} {items : Array Value} {i : Int} {t : Tok} {val : Value} {Q : Value → Shared → Prop} {value sl : PySem.Expr} (hl : s.heap.IsList a items) (hz : items.size ≤ sizeLine)
    (hi : getIdx items.toList i = some val) (hs : notSlice sl = true) (h : Q val s) : wpAny (model prog w) A (subscriptTail value sl (.ref a) (.int i t)) Q Er s := by
  refine tail_any hl.typeIs slot_list_getitem.lookup ?_ (subscripted_plain hs)
  have hz' := size_line_lt hz
  unfold getIdx at hi
  split at hi
  · rename_i h0
    have hlt := (List.getElem?_eq_some_iff.mp hi).1
    rw [Array.length_toList] at hlt
    exact wpAny_getItem_list hl h0 (by omega) (by simpa using hi) h
  · split at hi
    · rename_i h0 h1
      rw [Array.length_toList] at h1 hi
      exact wpAny_getItem_list_neg hl (by omega) h1 (by omega) (by simpa using hi) h
    · cases hi
theorem item_tup' {A : Around} {Er : Value → Shared → Prop} {s : Shared} {a : Addr} {items : Array Value} {ep : Nat} {i : Int} {t : Tok} {val : Value} {Q : Value → Shared → Prop} {value sl : PySem.Expr} (hl : s.heap.get? a = some { cls := .type "tuple", data := .seq items ep }) (hz : items.size ≤ sizeLine)
    (hi : getIdx items.toList i = some val) (hs : notSlice sl = true) (h : Q val s) : wpAny (model prog w) A (subscriptTail value sl (.ref a) (.int i t)) Q Er s := by
  have ht : IsTup s.heap a items := ⟨_, hl, rfl, ep, rfl⟩
  refine tail_any ht.typeIs slot_tuple_getitem.lookup ?_ (subscripted_plain hs)
  have hz' := size_line_lt hz
  obtain ⟨j, hj, hx, hlt, hlo, hhi⟩ := seqIdx hi
  rw [Array.length_toList] at hj hlt hlo hhi
  exact getItem_tuple ht (by omega) (by omega) hj (by simpa using hx) h

theorem getIdx_el {α : Type} {l : List α} {i : Int} {x : α} (e : getIdx l i = some x) {P' : Prop} (k : ∀ j : Nat, l[j]? = some x → (∀ {β : Type} (r : List β) y, r.length = l.length → r[j]? = some y → getIdx r i = some y) → P') : P' := by
  unfold getIdx at e
  split at e
  · rename_i q
    exact k _ e fun r y _ hr => (if_pos q).trans hr
  · rename_i q
    split at e
    · rename_i q2
      exact k _ e fun r y hl hr => by rw [getIdx, if_neg q, hl, if_pos q2, hr]
    · cases e
theorem getIdx_ds {g : G} {Pm : Params} {l : List D} {vs : List Value} {i : Int} {x : D} (h : IsDs an Pm g l vs) (e : getIdx l i = some x) : ∃ v, getIdx vs i = some v ∧ IsD an Pm g x v :=
  getIdx_el e fun j hj k => by
    obtain ⟨v, h1, h2⟩ := h.get hj
    exact ⟨v, k _ _ h.length.symm h1, h2⟩
theorem getIdx_vs {g : G} {ρ : Rho} {Pm : Params} {l : List V} {vs : List Value} {i : Int} {x : V} (h : IsVs an Pm ρ g l vs) (e : getIdx l i = some x) : ∃ v, getIdx vs i = some v ∧ IsV an Pm ρ g x v :=
  getIdx_el e fun j hj k => by
    obtain ⟨v, h1, h2⟩ := h.get hj
    exact ⟨v, k _ _ h.length.symm h1, h2⟩

theorem idx_sound {A : Around} {Er : Value → Shared → Prop} {s : Shared} {h : Heap} {tk : Nat} {g : G} {ρ : Rho} {σ : Sto} {v r : V} {val : Value} {i : Int} {t : Tok} {value sl : PySem.Expr} {Q : Value → Shared → Prop} (S : St an w.params h₀ g ρ σ h) (hv : IsV an w.params ρ g v val)
    (e : idxV σ v i = some r) (hs : notSlice sl = true) (hQ : ∀ x, IsV an w.params ρ g r x → Q x (sh s h tk)) : wpAny (model prog w) A (subscriptTail value sl val (.int i t)) Q Er (sh s h tk) := by
  cases v with
  | d x =>
    refine omap1 e fun y he e' => ?_
    cases e'
    cases x with
    | tup l =>
      obtain ⟨a, ep, items, hv, h1, h2, h3⟩ := hv
      obtain ⟨vx, q1, q2⟩ := getIdx_ds h3 he
      exact hv ▸ item_tup' (s := sh s h tk) (S.le _ _ h1) h2 q1 hs (hQ _ q2)
    | lst l =>
      refine lst_is S.le hv fun a items q1 q2 q3 => ?_
      obtain ⟨vx, r1, r2⟩ := getIdx_ds q3 he
      exact item_list' (s := sh s h tk) q1 q2 r1 hs (hQ _ r2)
    | _ => exact noS he
  | tup l =>
    obtain ⟨a, ep, items, hv, h1, h2, h3⟩ := hv
    obtain ⟨vx, q1, q2⟩ := getIdx_vs h3 e
    exact hv ▸ item_tup' (s := sh s h tk) (S.le _ _ h1) h2 q1 hs (hQ _ q2)
  | ref n =>
    obtain ⟨p, hp, hv⟩ := hv
    refine atL_el e fun l hl e => omap1 e fun y e e' => mlst_is S hl hp fun items q1 q2 q3 => ?_
    obtain ⟨vx, r1, r2⟩ := getIdx_ds q3 e
    cases e'
    exact hv ▸ item_list' (s := sh s h tk) q1.isList q2 r1 hs (hQ _ r2)

theorem E_idx {a i : PySem.Expr} {ma mi : E} {pos : Pos} (ha : SoundE prog w h₀ an Φ n sc vars a ma) (hi : SoundE prog w h₀ an Φ n sc vars i mi) (hs : notSlice i = true) :
    SoundE prog w h₀ an Φ n sc vars (.Subscript a i pos) (.idx ma mi) := by
  intro env A Er s h tk g ρ σ m v σ' Q hsc R N S hd hQ
  refine den2_el hd fun v1 σ1 v2 σ2 h1 h2 hd => hQ.toV hd fun x hx hQ => Subscript_ (ev2 ha hi hsc R N S h1 h2 hQ fun val1 val2 g2 ρ2 hh2 tk2 S2 hQ hv1 hv2 => ?_)
  exact onI_is (G := fun _ val2 => wpAny (model prog w) A (subscriptTail a i val1 val2) Q Er (sh s hh2 tk2)) hv2 hx fun k t hx => idx_sound S2 hv1 hx hs fun x hx => hQ.at S2 hx

theorem slice_to (items : Array Value) (b : Nat) : slicePick items none (some b) none = (items.toList.take b).toArray := by
  have e : slicePick items none (some (b : Int)) none = slicePick items none (some ((min b items.size : Nat) : Int)) none := by
    unfold slicePick
    have : sliceBounds none (some (b : Int)) none items.size = sliceBounds none (some ((min b items.size : Nat) : Int)) none items.size := by
      simp only [sliceBounds, Option.getD_none]
      have h1 : ¬ ((b : Int) < 0) := by omega
      have h2 : ¬ (((min b items.size : Nat) : Int) < 0) := by omega
      simp only [h1, h2, if_false, show (1 : Int) > 0 by decide, if_true]
      congr 2
      omega
    rw [this]
  rw [e, slicePick_upto items _ (Nat.min_le_right _ _)]
  congr 1
  rcases Nat.le_total b items.size with q | q
  · rw [Nat.min_eq_left q]
  · rw [Nat.min_eq_right q, List.take_of_length_le (by simp), List.take_of_length_le (by simpa using q)]
theorem slice_from (items : Array Value) (a : Nat) : slicePick items (some a) none none = (items.toList.drop a).toArray := by
  have e : slicePick items (some (a : Int)) none none = slicePick items (some ((min a items.size : Nat) : Int)) none none := by
    unfold slicePick
    have : sliceBounds (some (a : Int)) none none items.size = sliceBounds (some ((min a items.size : Nat) : Int)) none none items.size := by
      simp only [sliceBounds, Option.getD_none]
      have h1 : ¬ ((a : Int) < 0) := by omega
      have h2 : ¬ (((min a items.size : Nat) : Int) < 0) := by omega
      simp only [h1, h2, if_false, show (1 : Int) > 0 by decide, if_true]
      congr 1
      omega
    rw [this]
  rw [e, slicePick_from items _ (Nat.min_le_right _ _)]
  congr 1
  rcases Nat.le_total a items.size with q | q
  · rw [Nat.min_eq_left q]
  · rw [Nat.min_eq_right q, List.drop_of_length_le (by simp), List.drop_of_length_le (by simpa using q)]

theorem slice_apply {M : Model} {A : Around} {Er : Value → Shared → Prop} {s : Shared} {sl : Addr} {b sz : Nat} {u : Tok} {Q : Int × Int × Nat → Shared → Prop} (hs : s.heap.IsSliceOf sl .none (.int b u) .none) (hb : b ≤ sz) (h : Q (0, 1, b) s) :
    wpAny (model prog w) A (Builtin.Slice.sliceApplied (.ref sl) (pure (sz : Int))) Q Er s := by
  obtain ⟨os, hos, hcs, hds⟩ := id hs
  unfold Builtin.Slice.sliceApplied Builtin.Slice.sliceFields
  refine wpAny_bind (wpAny_bind (wpAny_field hos hds (x := .none) rfl (wpAny_bind (wpAny_field hos hds (x := .int b u) rfl (wpAny_bind (wpAny_field hos hds (x := .none) rfl (wpAny_pure ?_)))))))
  refine wpAny_bind (slicePart_none ?_)
  show wpAny _ _ (if ((1 : Int) == 0) = true then _ else _) _ _ s
  rw [if_neg (by decide)]
  refine wpAny_bind (slicePart_none (wpAny_bind (slicePart_int (wpAny_bind (wpAny_pure ?_)))))
  show wpAny _ _ (match Builtin.Slice.sliceAdjust none (some (b : Int)) 1 (sz : Int) with | (lo, hi) => pure (lo, (1 : Int), Builtin.Slice.slicePlaces lo hi 1)) _ _ s
  have e1 : Builtin.Slice.sliceAdjust none (some (b : Int)) 1 (sz : Int) = (0, (b : Int)) := by
    unfold Builtin.Slice.sliceAdjust
    have h1 : ¬ ((1 : Int) < 0) := by omega
    have h2 : ¬ ((b : Int) < 0) := by omega
    simp only [h1, h2, if_false]
    congr 1
    omega
  have e2 : Builtin.Slice.slicePlaces 0 (b : Int) 1 = b := by
    unfold Builtin.Slice.slicePlaces
    have h1 : (1 : Int) > 0 := by omega
    simp only [h1, if_true, Int.ediv_one]
    split <;> omega
  rw [e1]
  show wpAny _ _ (pure (0, (1 : Int), Builtin.Slice.slicePlaces 0 (b : Int) 1)) _ _ s
  rw [e2]
  exact wpAny_pure h

theorem tup_to {A : Around} {Er : Value → Shared → Prop} {s : Shared} {t sl : Addr} {items : Array Value} {b : Nat} {u : Tok} {Q : Value → Shared → Prop} (ht : IsTup s.heap t items) (hs : s.heap.IsSliceOf sl .none (.int b u) .none) (hb : b < items.size)
    (hsz : items.size ≤ sizeLine) (h : Q (.ref s.heap.objs.size) { s with heap := s.heap.push { cls := .type "tuple", data := .seq (items.toList.take b).toArray } }) : wpAny (model prog w) A (getItem (.ref t) (.ref sl)) Q Er s := by
  have hdrop : sizeOk (.seq (items.toList.take b).toArray) := by
    show (items.toList.take b).toArray.size ≤ sizeLine
    rw [List.size_toArray, List.length_take, Array.length_toList]
    omega
  obtain ⟨os, hos, hcs, hds⟩ := id hs
  have hTs : s.TypeIs (.ref sl) "slice" := ⟨os, hos, hcs⟩
  unfold getItem
  try with_reducible refine wpAny_holding ?_
  first | refine wpAny_bind (wpAny_pure ?_) | skip
  refine wpAny_bind (wpAny_sequenceKey ht.typeIs (by decide) ?_)
  refine wpAny_bind (wpAny_callSpecial?_slot (name := Str.ofString "__getitem__") ht.typeIs slot_tuple_getitem
    (wpAny_call_entry slot_tuple_getitem ht.typeIs entry_tuple_getitem ?_ (args_tuple_getitem _ _)))
  show wpAny _ _ (Builtin.Tuple.tupleItemsOf (.ref t) >>= _) _ _ s
  refine wpAny_bind (tupleItemsOf_ ht ?_)
  refine wpAny_bind (wpAny_typeOf hTs ?_)
  rw [if_pos (by decide)]
  refine wpAny_bind (slice_apply (M := model prog w) hs (Nat.le_of_lt hb) ?_)
  have hno : ¬ (((0 : Int) == 0 && (1 : Int) == 1 && b == items.size) = true) := by
    have : (b == items.size) = false := by rw [beq_eq_false_iff_ne]; omega
    rw [this]; simp
  show wpAny _ _ (if ((0 : Int) == 0 && (1 : Int) == 1 && b == items.size) = true then _ else _) _ _ s
  have hp : ((List.range b).filterMap fun (k : Nat) => items[((0 : Int) + (k : Int) * 1).toNat]?).toArray = (items.toList.take b).toArray := by
    have e : (fun (k : Nat) => items[((0 : Int) + (k : Int) * 1).toNat]?) = ((fun x => items[x]?) ∘ fun x => 0 + x) := by
      funext k
      have : ((0 : Int) + (k : Int) * 1).toNat = 0 + k := by omega
      rw [this]; rfl
    rw [e, ← List.filterMap_map, pick_run items 0 b]
    simp
  rw [if_neg hno, hp]
  first
    | exact wpAny_bind (m := Builtin.Tuple.tupleExact _) (wpAny_newObj_type (wpAny_pure ⟨_, rfl, wpAny_pure h⟩) hdrop)
    | exact wpAny_bind (m := Builtin.Tuple.tupleExact _) (wpAny_newObj_type (wpAny_bind (wpAny_pure (wpAny_pure ⟨_, rfl, wpAny_pure h⟩))) hdrop)
    | exact wpAny_bind (wpAny_bind (m := Builtin.Tuple.tupleExact _) (wpAny_newObj_type (wpAny_pure (wpAny_pure ⟨_, rfl, wpAny_pure h⟩)) hdrop))
    | exact wpAny_bind (wpAny_bind (m := Builtin.Tuple.tupleExact _) (wpAny_newObj_type (wpAny_pure ⟨_, rfl, wpAny_pure h⟩) hdrop))

noncomputable def Cut (prog : Program) (w : World) (A : Around) (Er : Value → Shared → Prop) (o vl vu : Value) (Q : Value → Shared → Prop) (s₃ : Shared) : Prop :=
  ∃ T id, ({ s₃ with heap := s₃.heap.push { cls := .type "slice", data := .fields #[vl, vu, .none] } } : Shared).TypeIs o T ∧ typeLookup (.type T) "__getitem__" = pure (some (.builtin id)) ∧
    wpAny (model prog w) A (getItem o (.ref s₃.heap.objs.size)) Q Er { s₃ with heap := s₃.heap.push { cls := .type "slice", data := .fields #[vl, vu, .none] } }
theorem slice_stmt {env : Env} {A : Around} {Er : Value → Shared → Prop} {s : Shared} {value : PySem.Expr} {lower upper : Option PySem.Expr} {p pos : Pos} {Q : Value → Shared → Prop}
    (h : wpAny (model prog w) A (eval value env) (fun o s₁ => wpAny (model prog w) A (evalPart lower env) (fun vl s₂ => wpAny (model prog w) A (evalPart upper env) (fun vu s₃ =>
      Cut prog w A Er o vl vu Q s₃) Er s₂) Er s₁) Er s) :
    wpAny (model prog w) A (eval (.Subscript value (.Slice lower upper none p) pos) env) Q Er s := by
  rw [eval_Subscript]
  refine wpAny_bind (wpAny_mono h (fun o s₁ h₁ => wpAny_bind (wpAny_holding (wpAny_Slice (wpAny_mono h₁ (fun l s₂ h₂ => wpAny_mono h₂ (fun u s₃ h₃ => ?_) fun _ _ x => x) fun _ _ x => x)))) fun _ _ x => x)
  rw [evalPart_none]
  refine wpAny_pure (wpAny_bind (wpAny_standAt ?_))
  obtain ⟨T, id, hT, hl, hg⟩ := h₃
  have fin : wpAny (model prog w) A (operate [.ref s₃.heap.objs.size, o] (getItem o (.ref s₃.heap.objs.size))) (fun r s₃ => wpAny (model prog w) A (letTemporaryGo value o r >>= fun _ => pure r) Q Er s₃) Er { s₃ with heap := s₃.heap.push { cls := .type "slice", data := .fields #[l, u, .none] } } :=
    wpAny_operating (wpAny_mono hg (fun r s₃ h₃ => wpAny_bind (wpAny_letTemporaryGo (wpAny_pure h₃))) fun _ _ x => x)
  refine wpAny_bind ?_
  rw [getitemInPython_of_ne hT.not_modules]
  refine wpAny_bind (wpAny_specialOf hT hl ?_)
  first
    | exact wpAny_pure (wpAny_bind fin)
    | exact wpAny_bind (wpAny_pure (wpAny_bind fin))
    | exact wpAny_bind fin

theorem cutV_el {to : Bool} {σ : Sto} {v : V} {k : Int} {r : D} {val : Value} {g : G} {ρ : Rho} {h : Heap} {Pm : Params} (S : St an Pm h₀ g ρ σ h) (hv : IsV an Pm ρ g v val) (e : cutV σ v to k = some r) {G : Int → Value → Prop}
    (kt : ∀ (kn : Nat) l a ep items, to = true → kn < items.size → g a = some { cls := .type "tuple", data := .seq items ep } → items.size ≤ sizeLine → IsDs an Pm g l items.toList → D.tup (l.take kn) = r → G kn (.ref a))
    (kl : ∀ (kn : Nat) l a items, h.IsList a items → items.size ≤ sizeLine → IsDs an Pm g l items.toList → D.lst (if to then l.take kn else l.drop kn) = r → G kn (.ref a)) : G k val := by
  refine whenO_el e fun hk e => ?_
  obtain ⟨kn, rfl⟩ := Int.eq_ofNat_of_zero_le (of_decide_eq_true hk)
  cases v with
  | d x => cases x with
    | tup l =>
      obtain ⟨a, ep, items, hv, h1, h2, h3⟩ := hv
      refine whenB_el e fun hq e => and_el hq fun ht hq => hv ▸ kt kn l a ep items ht ?_ h1 h2 h3 (Option.some.inj e)
      have q : l.length = items.size := h3.length.trans Array.length_toList
      exact q ▸ Int.ofNat_lt.mp (and_dec hq).2
    | lst l => exact lst_is S.le hv fun a items q1 q2 q3 => kl kn l a items q1 q2 q3 (Option.some.inj e)
    | _ => exact noS e
  | ref n =>
    obtain ⟨p, hp, hv⟩ := hv
    exact atL_el e fun l hl e => mlst_is S hl hp fun items q1 q2 q3 => hv ▸ kl kn l p.1 items q1.isList q2 q3 (Option.some.inj e)
  | tup => exact noS e

theorem E_cutTo {a i : PySem.Expr} {ma mi : E} {p pos : Pos} (ha : SoundE prog w h₀ an Φ n sc vars a ma) (hi : SoundE prog w h₀ an Φ n sc vars i mi) :
    SoundE prog w h₀ an Φ n sc vars (.Subscript a (.Slice none (some i) none p) pos) (.cutTo ma mi) := by
  intro env A Er s h tk g ρ σ m v σ' Q hsc R N S hd hQ
  refine den2_el hd fun v1 σ1 v2 σ2 h1 h2 hd => hQ.toD hd fun x hx hQ => slice_stmt (ha hsc R N S h1 fun val1 g1 ρ1 hh1 tk1 S1 X1 hv1 => wpAny_pure (hi hsc R (N.ext X1 noW_env) S1 h2 fun val2 g2 ρ2 hh2 tk2 S2 X2 hv2 => ?_))
  have hv1 := hv1.mono X2.gle X2.pre
  have hQ := (hQ.then X1).then X2
  refine onI_is (G := fun _ val2 => Cut prog w A Er val1 .none val2 Q (sh s hh2 tk2)) hv2 hx fun k t hx => ?_
  have kp : ∀ b o, hh2.get? b = some o → (hh2.push { cls := .type "slice", data := .fields #[.none, .int k t, .none] }).get? b = some o := fun b o e => Heap.get?_push_of_some _ e
  have S3 := S2.keeps kp
  have hQ := hQ.then (Ext.keeps kp)
  refine cutV_el (G := fun k' val1 => k' = k → Cut prog w A Er val1 .none (.int k t) Q (sh s hh2 tk2)) S2 hv1 hx (fun kn l aa ep items _ hb q1 q2 q3 e hk => ?_) (fun kn l aa items q1 q2 q3 e hk => ?_) rfl
  · have ht : IsTup (hh2.push { cls := .type "slice", data := .fields #[.none, .int k t, .none] }) aa items := ⟨_, kp _ _ (S2.le _ _ q1), rfl, ep, rfl⟩
    subst e hk
    refine ⟨"tuple", _, ht.typeIs (s := Shared.mk _ _ _ _ _), slot_tuple_getitem.lookup, tup_to (s := sh s _ tk2) (b := kn) ht (Heap.IsSliceOf.new ..) hb q2 (hQ.newT S3 ?_ (q3.take kn))⟩
    rw [List.size_toArray]
    exact Nat.le_trans (List.length_take_le' _ _) q2
  · have ht := q1.push { cls := .type "slice", data := .fields #[.none, .int k t, .none] }
    subst e hk
    refine ⟨"list", _, ht.typeIs (s := Shared.mk _ _ _ _ _), slot_list_getitem.lookup, wpAny_getItem_list_slice (s := sh s _ tk2) ht (Heap.IsSliceOf.new ..) .none (.int _ _) .none (by simp) ?_ q2⟩
    rw [slice_to]
    refine hQ.newL S3 ?_ (q3.take kn)
    rw [List.size_toArray]
    exact Nat.le_trans (List.length_take_le' _ _) q2
theorem E_cutFrom {a i : PySem.Expr} {ma mi : E} {p pos : Pos} (ha : SoundE prog w h₀ an Φ n sc vars a ma) (hi : SoundE prog w h₀ an Φ n sc vars i mi) :
    SoundE prog w h₀ an Φ n sc vars (.Subscript a (.Slice (some i) none none p) pos) (.cutFrom ma mi) := by
  intro env A Er s h tk g ρ σ m v σ' Q hsc R N S hd hQ
  refine den2_el hd fun v1 σ1 v2 σ2 h1 h2 hd => hQ.toD hd fun x hx hQ => slice_stmt (ha hsc R N S h1 fun val1 g1 ρ1 hh1 tk1 S1 X1 hv1 => hi hsc R (N.ext X1 noW_env) S1 h2 fun val2 g2 ρ2 hh2 tk2 S2 X2 hv2 => wpAny_pure ?_)
  have hv1 := hv1.mono X2.gle X2.pre
  have hQ := (hQ.then X1).then X2
  refine onI_is (G := fun _ val2 => Cut prog w A Er val1 val2 .none Q (sh s hh2 tk2)) hv2 hx fun k t hx => ?_
  have kp : ∀ b o, hh2.get? b = some o → (hh2.push { cls := .type "slice", data := .fields #[.int k t, .none, .none] }).get? b = some o := fun b o e => Heap.get?_push_of_some _ e
  have S3 := S2.keeps kp
  have hQ := hQ.then (Ext.keeps kp)
  refine cutV_el (G := fun k' val1 => k' = k → Cut prog w A Er val1 (.int k t) .none Q (sh s hh2 tk2)) S2 hv1 hx (fun kn l aa ep items hto hb q1 q2 q3 e hk => nomatch hto) (fun kn l aa items q1 q2 q3 e hk => ?_) rfl
  have ht := q1.push { cls := .type "slice", data := .fields #[.int k t, .none, .none] }
  subst e hk
  refine ⟨"list", _, ht.typeIs (s := Shared.mk _ _ _ _ _), slot_list_getitem.lookup, wpAny_getItem_list_slice (s := sh s _ tk2) ht (Heap.IsSliceOf.new ..) (.int _ _) .none .none (by simp) ?_ q2⟩
  rw [slice_from]
  refine hQ.newL S3 ?_ (q3.drop kn)
  rw [List.size_toArray, List.length_drop, Array.length_toList]
  exact Nat.le_trans (Nat.sub_le _ _) q2
end

noncomputable def notStar (e : PySem.Expr) : Bool := !(e.ctorIdx == 22)
theorem starEach_cons {env : Env} {e : PySem.Expr} {r : List PySem.Expr} (h : notStar e = true) : starEach (e :: r) env = (false, eval e env) :: starEach r env := by
  cases e with
  | Starred => exact Bool.noConfusion h
  | _ => rfl
theorem starEach_plain {env : Env} : ∀ {es : List PySem.Expr}, es.all notStar = true → starEach es env = es.map fun e => (false, eval e env)
  | [], _ => rfl
  | e :: r, h => and_el (b := r.all notStar) h fun h1 h2 => (starEach_cons h1).trans (congrArg _ (starEach_plain h2))
theorem trees_plain {env : Env} {pos : Pos} {es : List PySem.Expr} (h : es.all notStar = true) : backTo pos (starEach es env) = es.map fun e => (false, eval e env) := by
  rw [starEach_plain h]
  unfold backTo
  rw [List.map_map]
  apply List.map_congr_left
  intro e _
  rfl

noncomputable def BindsAs (K : Frag) (a : Addr) (args : Args) (vs : List Value) : Prop :=
  ∃ oc od fd osl, K.lookup a = some ⟨oc, od, .func fd, osl⟩ ∧ vs.length = fd.params.args.length ∧ ∀ s : Shared, K.In s.heap → BindsTo s fd args ((fd.params.args.map (·.arg)).zip vs)
noncomputable def Shape (K : Frag) (a : Addr) (k : Nat) (dfl : List D) (kwn : List Str) : Prop :=
  keepIn K (.ref a) = true ∧ ∃ dvals : List Value, (∀ (an : Nat → Str) (P : Params) (g : G), IsDs an P g dfl dvals) ∧
    ∀ vs kvs : List Value, vs.length = k → kvs.length = kwn.length → BindsAs K a ⟨vs, kwn.zip kvs⟩ (vs ++ dvals ++ kvs)

structure RoomF (A : Around) (n : Nat) : Prop where
  handled : A.handled = none
  depth : A.depth + 2 * n < 901
  units : A.units + 8 * n < 9004
theorem Room.f {A : Around} {n : Nat} (r : Room A n) : RoomF A n := ⟨r.handled, by have := r.depth; omega, by have := r.units; omega⟩
theorem RoomF.deeper {A : Around} {n : Nat} {env : Env} (r : RoomF A (n + 1)) : Room (A.deeper env) n :=
  ⟨r.handled, by have := r.depth; show A.depth + 1 + _ < _; omega, by have := r.units; show A.units + 3 + _ < _; omega⟩
theorem Room.typeCall {A : Around} {n : Nat} {args : Args} (r : Room A n) : RoomF (A.under (.builtin "type.__call__" args)) n := by
  have h1 := r.depth
  have h2 := r.units
  have hg : (Code.builtin "type.__call__" args).isGuard = false := by show guardIds.contains "type.__call__" = false; decide +kernel
  have hw : (Code.builtin "type.__call__" args).weight ≤ 1 := by
    unfold Code.weight
    rw [hg, show (Code.builtin "type.__call__" args).frames = 0 from rfl, show (Code.builtin "type.__call__" args).isCaller = false from rfl]
    cases (Code.builtin "type.__call__" args).isCreation <;> simp
  have hu : (Code.builtin "type.__call__" args).cUnits = 1 := by rfl
  exact ⟨r.handled, by show A.depth + (Code.builtin "type.__call__" args).weight + _ < _; omega, by show A.units + (Code.builtin "type.__call__" args).cUnits + _ < _; rw [hu]; omega⟩

section
variable (prog : Program) (w : World) (K : Frag) (h₀ : Heap) (an : Nat → Str)
noncomputable def FnSpec (n : Nat) (a : Addr) (F : List V → Sto → Option (V × Sto)) : Prop :=
  ∀ ⦃A : Around⦄ ⦃s : Shared⦄ ⦃h : Heap⦄ ⦃tk : Nat⦄ ⦃g : G⦄ ⦃ρ : Rho⦄ ⦃σ : Sto⦄ ⦃args : Args⦄ ⦃vs : List Value⦄ ⦃mvs : List V⦄ ⦃v : V⦄ ⦃σ' : Sto⦄ ⦃Q : Except Value Flow → Shared → Prop⦄, RoomF A n → St an w.params h₀ g ρ σ h → IsVs an w.params ρ g mvs vs → F mvs σ = some (v, σ') → BindsAs K a args vs →
    Out an w.params h₀ g ρ h s v σ' (fun val => Q (.ok (.ret val))) → codeAny (model prog w) A (.call (.ref a) args) Q (sh s h tk)
noncomputable def OutL (g : G) (ρ : Rho) (h : Heap) (s : Shared) (vs : List V) (σ' : Sto) (Q : List Value → Shared → Prop) : Prop :=
  ∀ ⦃vals g' ρ' h' tk⦄, St an w.params h₀ g' ρ' σ' h' → Ext noW g ρ h g' ρ' h' → IsVs an w.params ρ' g' vs vals → Q vals (sh s h' tk)
end

section
variable {prog : Program} {w : World} {K : Frag} {h₀ : Heap} {an : Nat → Str} {Φ : Tab} {n : Nat} {sc : List (Str × NameKind)} {vars : List Str}

theorem OutL.of {g : G} {ρ : Rho} {h : Heap} {s : Shared} {us vs : List V} {σ' τ : Sto} {Q : List Value → Shared → Prop} (hQ : OutL w h₀ an g ρ h s vs σ' Q) (e : some (us, τ) = some (vs, σ')) : OutL w h₀ an g ρ h s us τ Q := by
  cases e; exact hQ
theorem args_sound {es : List PySem.Expr} {mes : List E} (H : All2 (SoundE prog w h₀ an Φ n sc vars) es mes) :
    ∀ ⦃env : Env⦄ ⦃A : Around⦄ ⦃Er : Value → Shared → Prop⦄ ⦃s : Shared⦄ ⦃h : Heap⦄ ⦃tk : Nat⦄ ⦃g : G⦄ ⦃ρ : Rho⦄ ⦃σ : Sto⦄ ⦃m : Mem⦄ ⦃vs : List V⦄ ⦃σ' : Sto⦄ ⦃Q : List Value → Shared → Prop⦄, env.scope.names = sc → Room A n →
    EnvOk an w.params env vars m g ρ h → St an w.params h₀ g ρ σ h → E.dens Φ m mes σ = some (vs, σ') → OutL w h₀ an g ρ h s vs σ' Q →
    wpAny (model prog w) A (spliced (es.map fun e => (false, eval e env))) Q Er (sh s h tk) := by
  induction H with
  | nil =>
    intro env A Er s h tk g ρ σ m vs σ' Q hsc R N S hd hQ
    exact wpAny_pure (hQ.of hd S Ext.rfl' trivial)
  | @cons e me es mes he _ ih =>
    intro env A Er s h tk g ρ σ m vs σ' Q hsc R N S hd hQ
    refine den1_el hd fun v1 σ1 h1 hd => omap hd fun vs' σ2 h2 hd => ?_
    show wpAny _ A (do
      let v ← eval e env
      let here ← (pure [v] : Sem (List Value))
      return here ++ (← holding here (spliced (es.map fun e => (false, eval e env))))) _ Er _
    refine wpAny_bind (he hsc R N S h1 fun val g1 ρ1 hh1 tk1 S1 X1 hv1 => ?_)
    refine wpAny_bind (wpAny_pure (wpAny_bind (wpAny_holding (ih hsc R (N.ext X1 noW_env) S1 h2 fun vals g2 ρ2 hh2 tk2 S2 X2 hv2 => ?_))))
    exact wpAny_pure (hQ.of hd S2 (X1.trans X2) ⟨hv1.mono X2.gle X2.pre, hv2⟩)

theorem kws_sound (pos : Pos) : ∀ {ks : List Keyword} {mes : List E}, All2 (SoundE prog w h₀ an Φ n sc vars) (ks.map (·.value)) mes →
    ∀ ⦃env : Env⦄ ⦃A : Around⦄ ⦃Er : Value → Shared → Prop⦄ ⦃s : Shared⦄ ⦃h : Heap⦄ ⦃tk : Nat⦄ ⦃g : G⦄ ⦃ρ : Rho⦄ ⦃σ : Sto⦄ ⦃m : Mem⦄ ⦃vs : List V⦄ ⦃σ' : Sto⦄ ⦃Q : List Value → Shared → Prop⦄, env.scope.names = sc → Room A n →
    EnvOk an w.params env vars m g ρ h → St an w.params h₀ g ρ σ h → E.dens Φ m mes σ = some (vs, σ') → OutL w h₀ an g ρ h s vs σ' Q →
    wpAny (model prog w) A (evalAll ((backToKw pos (keywordEach ks env)).map (·.2))) Q Er (sh s h tk)
  | [], mes, H => by
    intro env A Er s h tk g ρ σ m vs σ' Q hsc R N S hd hQ
    cases H
    exact wpAny_pure (hQ.of hd S Ext.rfl' trivial)
  | ⟨nm, e, kp⟩ :: ks, mes, H => by
    intro env A Er s h tk g ρ σ m vs σ' Q hsc R N S hd hQ
    cases H with
    | @cons _ me _ mes he hr =>
      refine den1_el hd fun v1 σ1 h1 hd => omap hd fun vs' σ2 h2 hd => ?_
      show wpAny _ A (evalAll ((do let v ← eval e env; standAt pos; pure v) :: (backToKw pos (keywordEach ks env)).map (·.2))) _ Er _
      refine wpAny_evalAll_cons (wpAny_bind (he hsc R N S h1 fun val g1 ρ1 hh1 tk1 S1 X1 hv1 => wpAny_bind (wpAny_standAt (wpAny_pure ?_))))
      exact kws_sound pos hr hsc R (N.ext X1 noW_env) S1 h2 fun vals g2 ρ2 hh2 tk2 S2 X2 hv2 => hQ.of hd S2 (X1.trans X2) ⟨hv1.mono X2.gle X2.pre, hv2⟩

theorem kw_names (pos : Pos) (env : Env) : ∀ {ks : List Keyword}, (ks.all (·.arg.isSome)) = true → (backToKw pos (keywordEach ks env)).all (·.1.isSome) = true ∧ (backToKw pos (keywordEach ks env)).filterMap (·.1) = ks.filterMap (·.arg) ∧
    (backToKw pos (keywordEach ks env)).any (·.1.isNone) = false
  | [], _ => ⟨rfl, rfl, rfl⟩
  | ⟨nm, e, kp⟩ :: ks, h => by
    have h := Bool.and_eq_true_iff.mp (show (nm.isSome && ks.all (·.arg.isSome)) = true from h)
    obtain ⟨a, b, c⟩ := kw_names pos env h.2
    cases nm with
    | none => exact Bool.noConfusion h.1
    | some x =>
      refine ⟨?_, ?_, ?_⟩
      · show (true && (backToKw pos (keywordEach ks env)).all (·.1.isSome)) = true
        rw [a]; rfl
      · show List.filterMap (·.1) ((some x, _) :: backToKw pos (keywordEach ks env)) = _
        simp only [List.filterMap_cons]
        rw [b]
      · show (false || (backToKw pos (keywordEach ks env)).any (·.1.isNone)) = false
        rw [c]; rfl

theorem evalArgs_all {M : Model} {A : Around} {Er : Value → Shared → Prop} {s : Shared} {f : Value} {es : List PySem.Expr} {env : Env} {keywords : List (Option Str × Sem Value)} {Q : Args → Shared → Prop} (hall : keywords.all (·.1.isSome) = true)
    (h : wpAny M A (spliced (es.map fun e => (false, eval e env))) (fun vs s₁ => wpAny M A (evalAll (keywords.map (·.2))) (fun ks s₂ => Q ⟨vs, (keywords.filterMap (·.1)).zip ks⟩ s₂) Er s₁) Er s) :
    wpAny M A (evalArgs f true (es.map fun e => (false, eval e env)) keywords) Q Er s := by
  cases es with
  | nil =>
    unfold evalArgs
    show wpAny M A (spliced [] >>= _) Q Er s
    refine wpAny_bind (wpAny_mono h (fun vs s₁ h₁ => ?_) fun _ _ x => x)
    refine wpAny_bind (wpAny_pure ?_)
    refine wpAny_holding ?_
    simp only [hall, if_true]
    refine wpAny_bind (wpAny_mono h₁ (fun ks s₂ h₂ => ?_) fun _ _ x => x)
    exact wpAny_bind (wpAny_pure (wpAny_pure h₂))
  | cons e r => exact evalArgs_kw hall h
theorem any_star (es : List PySem.Expr) (env : Env) : ((es.map fun e => ((false, eval e env) : Bool × Sem Value)).any (·.1)) = false := by
  induction es with
  | nil => rfl
  | cons e r ih => simp only [List.map_cons, List.any_cons, ih]; rfl

theorem IsVs.append' {g : G} {ρ : Rho} {Pm : Params} : ∀ {l l' : List V} {vs vs' : List Value}, IsVs an Pm ρ g l vs → IsVs an Pm ρ g l' vs' → IsVs an Pm ρ g (l ++ l') (vs ++ vs')
  | [], _, [], _, _, y => y
  | [], _, _ :: _, _, x, _ => False.elim x
  | _ :: _, _, [], _, x, _ => False.elim x
  | d :: ds, _, v :: vs, _, x, y => And.intro x.1 (IsVs.append' x.2 y)

theorem dens_len {m : Mem} : ∀ {mes : List E} {σ σ' : Sto} {vs : List V}, E.dens Φ m mes σ = some (vs, σ') → vs.length = mes.length
  | [], σ, σ', vs, h => by cases h; rfl
  | e :: r, σ, σ', vs, h => den1_el h fun v1 σ1 h1 hd => omap hd fun vs' σ2 h2 hd => by
    have := dens_len h2
    cases hd
    exact congrArg (· + 1) this
theorem All2.length {α β : Type} {R : α → β → Prop} {l : List α} {r : List β} (h : All2 R l r) : l.length = r.length := by
  induction h with
  | nil => rfl
  | cons _ _ ih => exact congrArg (· + 1) ih

theorem E_call {addr : Nat → Addr} (WD : Wd K h₀) (hF : ∀ f, FnSpec prog w K h₀ an n (addr f) (Φ.fn f)) {f : Nat} {es : List PySem.Expr} {mes : List E} {dfl : List D} {kws : List Keyword} {mkw : List E} {x : Str} {np pos : Pos}
    (hk : sc.lookup x = some .globalImplicit) (hx : nsIn K mainGlobals x = some (some (.ref (addr f)))) (hd' : (x == ("__debug__" : Str)) = false) (hst : es.all notStar = true) (hes : All2 (SoundE prog w h₀ an Φ n sc vars) es mes)
    (hkn : kws.all (·.arg.isSome) = true) (hkw : All2 (SoundE prog w h₀ an Φ n sc vars) (kws.map (·.value)) mkw) (hsh : Shape K (addr f) es.length dfl (kws.filterMap (·.arg))) (hkl : (kws.filterMap (·.arg)).length = kws.length) :
    SoundE prog w h₀ an Φ n sc vars (.Call (.Name x np) es kws pos) (.call f mes dfl mkw) := by
  intro env A Er s h tk g ρ σ m v σ' Q hsc R N S hd hQ
  obtain ⟨kn1, kn2, kn3⟩ := kw_names pos env hkn
  obtain ⟨hkeep, dvals, hdv, hbind⟩ := hsh
  refine denS_el hd fun vs1 σ1 h1 hd => denS_el hd fun vs2 σ2 h2 hd => wpAny_Call_ofName (name_global WD N S (by show env.scope.names.lookup x = _; rw [hsc]; exact hk) hx hd' ?_)
  rw [trees_plain hst]
  refine callWith_of (P := K.In) (by rw [any_star, kn3]; rfl) (keeps_K hkeep) (evalArgs_all kn1 ?_)
  refine args_sound hes hsc R N S h1 fun vals g1 ρ1 hh1 tk1 S1 X1 hv1 => kws_sound pos hkw hsc R (N.ext X1 noW_env) S1 h2 fun kvals g2 ρ2 hh2 tk2 S2 X2 hv2 => ⟨WD.k.keeps fun b o e => S2.heapOf b o e, ?_⟩
  rw [kn2]
  refine wpAny_call (hF f R.f S2 (((hv1.mono X2.gle X2.pre).append' (isVs_of_ds (hdv an w.params g2))).append' hv2) hd (hbind vals kvals ?_ ?_) ((hQ.then X1).then X2))
  · rw [← hv1.length, dens_len h1, hes.length]
  · rw [← hv2.length, dens_len h2, ← hkw.length, List.length_map, hkl]
end

section
variable {prog : Program} {w : World} {K : Frag} {h₀ : Heap} {an : Nat → Str} {Φ : Tab} {n : Nat} {sc : List (Str × NameKind)} {vars : List Str}

theorem allD_is {g : G} {ρ : Rho} {Pm : Params} : ∀ {vs : List V} {l : List D} {vals : List Value}, allD vs = some l → IsVs an Pm ρ g vs vals → IsDs an Pm g l vals
  | [], l, [], e, _ => Option.some.inj e ▸ trivial
  | [], _, _ :: _, _, x => False.elim x
  | _ :: _, _, [], _, x => False.elim x
  | v :: r, l, val :: vals, e, y => by
    cases v with
    | d x => exact omap1 e fun l' h1 e => Option.some.inj e ▸ And.intro y.1 (allD_is h1 y.2)
    | _ => exact noS e

theorem IsVs.mono' {g g' : G} {ρ ρ' : Rho} {Pm : Params} {l : List V} {vs : List Value} (x : IsVs an Pm ρ g l vs) (hg : ∀ b o, g b = some o → g' b = some o) (hr : ∀ (i : Nat) p, ρ[i]? = some p → ρ'[i]? = some p) : IsVs an Pm ρ' g' l vs := IsVs.mono hg hr l x

theorem mkTup_is {g : G} {ρ : Rho} {Pm : Params} {vs : List V} {vals : List Value} {a : Addr} (ha : g a = some { cls := .type "tuple", data := .seq vals.toArray }) (hz : vals.length ≤ sizeLine) (x : IsVs an Pm ρ g vs vals) : IsV an Pm ρ g (mkTup vs) (.ref a) := by
  unfold mkTup
  cases hl : allD vs with
  | some l => exact ⟨a, _, vals.toArray, rfl, ha, hz, allD_is hl x⟩
  | none => exact ⟨a, _, vals.toArray, rfl, ha, hz, x⟩

theorem args_len {m : Mem} {es : List PySem.Expr} {mes : List E} {σ σ' : Sto} {vs : List V} {vals : List Value} {g : G} {ρ : Rho} {Pm : Params} (hes : All2 (SoundE prog w h₀ an Φ n sc vars) es mes) (h : E.dens Φ m mes σ = some (vs, σ')) (hv : IsVs an Pm ρ g vs vals) : vals.length = es.length :=
  hv.length.symm.trans ((dens_len h).trans hes.length.symm)
theorem E_tup {es : List PySem.Expr} {mes : List E} {k : Nat} {pos : Pos} (hst : es.all notStar = true) (hes : All2 (SoundE prog w h₀ an Φ n sc vars) es mes) (hz : es.length ≤ 1000) : SoundE prog w h₀ an Φ n sc vars (.Tuple es k pos) (.tup mes) := by
  intro env A Er s h tk g ρ σ m v σ' Q hsc R N S hd hQ
  refine denS_el hd fun vs σ1 h1 hd => wpAny_Tuple ?_
  rw [trees_plain hst]
  refine args_sound hes hsc R N S h1 fun vals g1 ρ1 hh1 tk1 S1 X1 hv1 => ?_
  have hl : vals.length ≤ sizeLine := Nat.le_trans (Nat.le_of_eq (args_len hes h1 hv1)) (Nat.le_trans hz (by decide))
  exact ⟨hl, (hQ.then X1).of hd (S1.pushG _ rfl) (Ext.pushG S1 _) (mkTup_is (updG_self _ _ _) hl (hv1.mono' (Ext.pushG (W := noW) S1 _).gle fun _ _ e => e))⟩

theorem E_lst {es : List PySem.Expr} {mes : List E} {b : Bool} {pos : Pos} (hst : es.all notStar = true) (hes : All2 (SoundE prog w h₀ an Φ n sc vars) es mes) (hz : es.length ≤ 1000) : SoundE prog w h₀ an Φ n sc vars (.List es pos) (.lst b mes) := by
  intro env A Er s h tk g ρ σ m v σ' Q hsc R N S hd hQ
  refine denS_el hd fun vs σ1 h1 hd => omap1 hd fun l hl hd => wpAny_List ?_
  rw [trees_plain hst]
  refine args_sound hes hsc R N S h1 fun vals g1 ρ1 hh1 tk1 S1 X1 hv1 => ?_
  have hlen : vals.length ≤ sizeLine := Nat.le_trans (Nat.le_of_eq (args_len hes h1 hv1)) (Nat.le_trans hz (by decide))
  have hds := allD_is hl hv1
  refine ⟨hlen, ?_⟩
  have hQ := hQ.then X1
  cases b with
  | true => exact hQ.of hd (S1.pushM (items := vals.toArray) hlen hds) (Ext.pushM S1 _) ⟨(hh1.objs.size, hh1.objs.size), by rw [← S1.len]; exact List.getElem?_concat_length, rfl⟩
  | false => exact (hQ.of hd).newL S1 (items := vals.toArray) hlen hds

noncomputable def isBT : Value → Bool
  | .builtin _ => true
  | .type _ => true
  | _ => false
theorem call_b {x : Str} {f : Value} {es : List PySem.Expr} {np pos : Pos} {env : Env} {A : Around} {Er : Value → Shared → Prop} {s : Shared} {h : Heap} {tk : Nat} {g : G} {ρ : Rho} {σ : Sto} {m : Mem} {Q : Value → Shared → Prop} (WD : Wd K h₀)
    (hsc : env.scope.names = sc) (N : EnvOk an w.params env vars m g ρ h) (S : St an w.params h₀ g ρ σ h) (hk : sc.lookup x = some .globalImplicit) (hx : nsIn K mainGlobals x = some none) (hb : bootBuiltins x = some f) (hf : isBT f = true) (hd' : (x == ("__debug__" : Str)) = false) (hn : (x == ("__name__" : Str)) = false)
    (hst : es.all notStar = true) (H : wpAny (model prog w) A (spliced (es.map fun e => (false, eval e env))) (fun vs s' => wpAny (model prog w) A (PySem.call f vs) Q Er s') Er (sh s h tk)) :
    wpAny (model prog w) A (eval (.Call (.Name x np) es [] pos) env) Q Er (sh s h tk) := by
  refine wpAny_Call_ofName (name_builtin (s := sh s h tk) WD N S (by show env.scope.names.lookup x = _; rw [hsc]; exact hk) hx hb hd' (beq_eq_false_iff_ne.mp hn) ?_)
  rw [trees_plain hst]
  have H := evalArgs_all (f := f) (keywords := []) (Q := fun as s' => wpAny (model prog w) A (PySem.call f ([] ++ as.pos) as.kw) Q Er s') rfl (wpAny_mono H (fun vs s' x => wpAny_evalAll_nil x) fun _ _ y => y)
  cases f with
  | builtin id => exact Calls.callWith_builtin (any_star es env) H
  | type id => exact PyProof.Rows.callWith_type (any_star es env) H
  | _ => exact Bool.noConfusion hf

theorem b1_sound (WD : Wd K h₀) {x : Str} {f : Value} {e : PySem.Expr} {me : E} {op : Sto → V → Option D} {np pos : Pos} (hk : sc.lookup x = some .globalImplicit) (hx : nsIn K mainGlobals x = some none) (hst : notStar e = true) (he : SoundE prog w h₀ an Φ n sc vars e me)
    (hb : bootBuiltins x = some f) (hf : isBT f = true) (hd' : (x == ("__debug__" : Str)) = false) (hn : (x == ("__name__" : Str)) = false)
    (hop : ∀ {A : Around} {Er : Value → Shared → Prop} {s : Shared} {h : Heap} {tk : Nat} {g : G} {ρ : Rho} {σ : Sto} {v : V} {val : Value} {d : D} {Q : Value → Shared → Prop}, Room A n → St an w.params h₀ g ρ σ h → IsV an w.params ρ g v val → op σ v = some d →
      Out an w.params h₀ g ρ h s (.d d) σ Q → wpAny (model prog w) A (PySem.call f [val]) Q Er (sh s h tk))
    {env : Env} {A : Around} {Er : Value → Shared → Prop} {s : Shared} {h : Heap} {tk : Nat} {g : G} {ρ : Rho} {σ : Sto} {m : Mem} {v : V} {σ' : Sto} {Q : Value → Shared → Prop} (hsc : env.scope.names = sc) (R : Room A n)
    (N : EnvOk an w.params env vars m g ρ h) (S : St an w.params h₀ g ρ σ h) (hd : den1 (E.den Φ m me) (fun v σ => retD (op σ v) σ) σ = some (v, σ')) (hQ : Out an w.params h₀ g ρ h s v σ' Q) :
    wpAny (model prog w) A (eval (.Call (.Name x np) [e] [] pos) env) Q Er (sh s h tk) :=
  den1_el hd fun v1 σ1 h1 hd => hQ.toD hd fun d hd hQ => call_b WD hsc N S hk hx hb hf hd' hn ((Bool.and_true _).trans hst) (Calls.spliced_cons (ev1 he hsc R N S h1 hQ fun val g' ρ' h' tk' S' hQ hv => Calls.spliced_nil (hop R S' hv hd hQ)))
theorem b2_sound (WD : Wd K h₀) {x : Str} {f : Value} {a b : PySem.Expr} {ma mb : E} {op : V → V → Option D} {np pos : Pos} (hk : sc.lookup x = some .globalImplicit) (hx : nsIn K mainGlobals x = some none) (hsta : notStar a = true) (hstb : notStar b = true) (ha : SoundE prog w h₀ an Φ n sc vars a ma) (hb' : SoundE prog w h₀ an Φ n sc vars b mb)
    (hb : bootBuiltins x = some f) (hf : isBT f = true) (hd' : (x == ("__debug__" : Str)) = false) (hn : (x == ("__name__" : Str)) = false)
    (hop : ∀ {A : Around} {Er : Value → Shared → Prop} {s : Shared} {h : Heap} {tk : Nat} {g : G} {ρ : Rho} {σ : Sto} {v u : V} {val val2 : Value} {d : D} {Q : Value → Shared → Prop}, Room A n → St an w.params h₀ g ρ σ h → IsV an w.params ρ g v val → IsV an w.params ρ g u val2 → op v u = some d →
      Out an w.params h₀ g ρ h s (.d d) σ Q → wpAny (model prog w) A (PySem.call f [val, val2]) Q Er (sh s h tk))
    {env : Env} {A : Around} {Er : Value → Shared → Prop} {s : Shared} {h : Heap} {tk : Nat} {g : G} {ρ : Rho} {σ : Sto} {m : Mem} {v : V} {σ' : Sto} {Q : Value → Shared → Prop} (hsc : env.scope.names = sc) (R : Room A n)
    (N : EnvOk an w.params env vars m g ρ h) (S : St an w.params h₀ g ρ σ h) (hd : den2 (E.den Φ m ma) (E.den Φ m mb) (fun v u => retD (op v u)) σ = some (v, σ')) (hQ : Out an w.params h₀ g ρ h s v σ' Q) :
    wpAny (model prog w) A (eval (.Call (.Name x np) [a, b] [] pos) env) Q Er (sh s h tk) :=
  den2_el hd fun v1 σ1 v2 σ2 h1 h2 hd => hQ.toD hd fun d hd hQ => call_b WD hsc N S hk hx hb hf hd' hn (by rw [List.all_cons, hsta, List.all_cons, hstb]; rfl) (Calls.spliced_cons (ha hsc R N S h1 fun val1 g1 ρ1 hh1 tk1 S1 X1 hv1 => Calls.spliced_cons (hb' hsc R (N.ext X1 noW_env) S1 h2 fun val2 g2 ρ2 hh2 tk2 S2 X2 hv2 =>
    Calls.spliced_nil (hop R S2 (hv1.mono X2.gle X2.pre) hv2 hd ((hQ.then X1).then X2)))))

theorem E_len (WD : Wd K h₀) {e : PySem.Expr} {me : E} {np pos : Pos} (hk : sc.lookup ("len" : Str) = some .globalImplicit) (hx : nsIn K mainGlobals "len" = some none) (hst : notStar e = true) (he : SoundE prog w h₀ an Φ n sc vars e me) :
    SoundE prog w h₀ an Φ n sc vars (.Call (.Name "len" np) [e] [] pos) (.len me) := by
  intro env A Er s h tk g ρ σ m v σ' Q hsc R N S hd hQ
  refine b1_sound WD (op := lenD) hk hx hst he boot_len rfl (by decide +kernel) (by decide +kernel) (fun {A Er s h tk g ρ σ v val d Q} R S hv hd hQ => omap1 hd fun k hl e => ?_) hsc R N S hd hQ
  cases e
  have fin : ∀ {a : Addr} {items : Array Value}, h.IsList a items → items.size ≤ sizeLine → items.size = k → wpAny (model prog w) A (PySem.call (.builtin "len") [.ref a]) Q Er (sh s h tk) := fun q1 q2 hz =>
    Calls.call_len_list (s := sh s h tk) q1 (by rw [sizeLine_eq] at q2; omega) (hQ.at S ⟨_, by rw [hz]⟩)
  cases v with
  | d x => cases x with
    | tup l =>
      obtain ⟨a, ep, items, hv, q1, q2, q3⟩ := hv
      cases hl
      have hz : l.length = items.size := q3.length.trans Array.length_toList
      exact hv ▸ PyProof.Rows.len_tuple (s := sh s h tk) ⟨_, S.le _ _ q1, rfl, _, rfl⟩ (by rw [sizeLine_eq] at q2; omega) (hQ.at S ⟨_, by rw [hz]⟩)
    | lst l => cases hl; exact lst_is S.le hv fun a items q1 q2 q3 => fin q1 q2 (Array.length_toList.symm.trans q3.length.symm)
    | _ => exact noS hl
  | ref i =>
    obtain ⟨p, hp, hv⟩ := hv
    refine atL_el hl fun l hs hl => mlst_is S hs hp fun items q1 q2 q3 => hv ▸ fin q1.isList q2 ?_
    cases hl
    exact Array.length_toList.symm.trans q3.length.symm
  | tup => exact noS hl

theorem E_abs (WD : Wd K h₀) {e : PySem.Expr} {me : E} {np pos : Pos} (hk : sc.lookup ("abs" : Str) = some .globalImplicit) (hx : nsIn K mainGlobals "abs" = some none) (hst : notStar e = true) (he : SoundE prog w h₀ an Φ n sc vars e me) :
    SoundE prog w h₀ an Φ n sc vars (.Call (.Name "abs" np) [e] [] pos) (.abs me) := by
  intro env A Er s h tk g ρ σ m v σ' Q hsc R N S hd hQ
  refine b1_sound WD (op := fun _ => absD) hk hx hst he boot_abs rfl (by decide +kernel) (by decide +kernel) (fun R S hv hd hQ => ?_) hsc R N S hd hQ
  refine onI_is hv hd fun i t hd => ?_
  cases hd
  exact PyProof.Rows.call_abs_int fun u tk => hQ.at S ⟨_, rfl⟩

theorem E_max2 (WD : Wd K h₀) {a b : PySem.Expr} {ma mb : E} {np pos : Pos} (hk : sc.lookup ("max" : Str) = some .globalImplicit) (hx : nsIn K mainGlobals "max" = some none) (hsta : notStar a = true) (hstb : notStar b = true) (ha : SoundE prog w h₀ an Φ n sc vars a ma) (hb : SoundE prog w h₀ an Φ n sc vars b mb) :
    SoundE prog w h₀ an Φ n sc vars (.Call (.Name "max" np) [a, b] [] pos) (.max2 ma mb) := by
  intro env A Er s h tk g ρ σ m v σ' Q hsc R N S hd hQ
  refine b2_sound WD (op := maxD) hk hx hsta hstb ha hb boot_max rfl (by decide +kernel) (by decide +kernel) (fun {A Er s h tk g ρ σ v u val val2 d Q} R S hv hv2 hd hQ => ?_) hsc R N S hd hQ
  refine onI_is (G := fun _ val => wpAny (model prog w) A (PySem.call _ [val, val2]) Q Er (sh s h tk)) hv hd fun i t hd => onI_is (G := fun _ val2 => wpAny (model prog w) A (PySem.call _ [.int i t, val2]) Q Er (sh s h tk)) hv2 hd fun j u hd => ?_
  refine max_two_ints R.handled fun h' tk k => (hQ.of (congrArg (Option.map fun x => (V.d x, σ)) hd)) (S.keeps k) (Ext.keeps k) ?_
  by_cases q : i < j
  · rw [if_pos q]; exact (if_pos q).symm ▸ ⟨_, rfl⟩
  · rw [if_neg q]; exact (if_neg q).symm ▸ ⟨_, rfl⟩
theorem E_min2 (WD : Wd K h₀) {a b : PySem.Expr} {ma mb : E} {np pos : Pos} (hk : sc.lookup ("min" : Str) = some .globalImplicit) (hx : nsIn K mainGlobals "min" = some none) (hsta : notStar a = true) (hstb : notStar b = true) (ha : SoundE prog w h₀ an Φ n sc vars a ma) (hb : SoundE prog w h₀ an Φ n sc vars b mb) :
    SoundE prog w h₀ an Φ n sc vars (.Call (.Name "min" np) [a, b] [] pos) (.min2 ma mb) := by
  intro env A Er s h tk g ρ σ m v σ' Q hsc R N S hd hQ
  refine b2_sound WD (op := minD) hk hx hsta hstb ha hb boot_min rfl (by decide +kernel) (by decide +kernel) (fun {A Er s h tk g ρ σ v u val val2 d Q} R S hv hv2 hd hQ => ?_) hsc R N S hd hQ
  refine onI_is (G := fun _ val => wpAny (model prog w) A (PySem.call _ [val, val2]) Q Er (sh s h tk)) hv hd fun i t hd => onI_is (G := fun _ val2 => wpAny (model prog w) A (PySem.call _ [.int i t, val2]) Q Er (sh s h tk)) hv2 hd fun j u hd => ?_
  refine min_two_ints R.handled fun h' tk k => (hQ.of (congrArg (Option.map fun x => (V.d x, σ)) hd)) (S.keeps k) (Ext.keeps k) ?_
  by_cases q : j < i
  · rw [if_pos q]; exact (if_pos q).symm ▸ ⟨_, rfl⟩
  · rw [if_neg q]; exact (if_neg q).symm ▸ ⟨_, rfl⟩

theorem ints_all {g : G} {Pm : Params} : ∀ {l : List D} {is : List Int} {vs : List Value}, ints? l = some is → IsDs an Pm g l vs → ∃ xs : List (Int × Tok), vs = xs.map (fun p => .int p.1 p.2) ∧ is = xs.map (·.1)
  | [], is, [], e, _ => ⟨[], rfl, (Option.some.inj e).symm⟩
  | [], _, _ :: _, _, x => False.elim x
  | _ :: _, _, [], _, x => False.elim x
  | d :: r, is, v :: vs, e, x => by
    cases d with
    | int i =>
      refine omap1 e fun is' h1 e => ?_
      obtain ⟨⟨t, ht⟩, x⟩ := x
      obtain ⟨xs, rfl, rfl⟩ := ints_all h1 x
      exact ⟨(i, t) :: xs, by rw [ht]; rfl, (Option.some.inj e).symm⟩
    | _ => exact noS e

theorem min_at {xs : List (Int × Tok)} {i : Int} (hmin : (xs.map (·.1)).min? = some i) (hne : 0 < xs.toArray.size) : numAt xs.toArray (argBest (fun i j => decide (numAt xs.toArray i < numAt xs.toArray j)) (xs.toArray.size - 1)) = i := by
  obtain ⟨z1, z2⟩ := argBest_lt (numAt xs.toArray) (xs.toArray.size - 1)
  obtain ⟨m1, m2⟩ := List.min?_eq_some_iff.mp hmin
  have at_ : ∀ j (hj : j < xs.length), numAt xs.toArray j = (xs.map (·.1))[j]'(by simpa using hj) := by
    intro j hj; simp [numAt, hj]
  have hk1 : argBest (fun i j => decide (numAt xs.toArray i < numAt xs.toArray j)) (xs.toArray.size - 1) < xs.length := by
    simp at hne z1 ⊢; omega
  apply Int.le_antisymm
  · obtain ⟨j, hj, e⟩ := List.mem_iff_getElem.mp m1
    have hj' : j < xs.length := by simpa using hj
    rw [← e, ← at_ j hj']
    exact z2 j (by simp; omega)
  · rw [at_ _ hk1]
    exact m2 _ (List.getElem_mem _)
theorem E_minl (WD : Wd K h₀) {e : PySem.Expr} {me : E} {np pos : Pos} (hk : sc.lookup ("min" : Str) = some .globalImplicit) (hx : nsIn K mainGlobals "min" = some none) (hst : notStar e = true) (he : SoundE prog w h₀ an Φ n sc vars e me) :
    SoundE prog w h₀ an Φ n sc vars (.Call (.Name "min" np) [e] [] pos) (.minl me) := by
  intro env A Er s h tk g ρ σ m v σ' Q hsc R N S hd hQ
  refine b1_sound WD (op := fun _ => minlD) hk hx hst he boot_min rfl (by decide +kernel) (by decide +kernel) (fun {A Er s h tk g ρ σ v val d Q} R S hv hd hQ => ?_) hsc R N S hd hQ
  refine onD_is (G := fun v => IsV an w.params ρ g v val → _) hd (fun x hd hv => dL_is (G := fun x => IsD an w.params g x val → _) hd (fun l hd hv => omap1 hd fun i hi hd => obind1 hi fun is his hmin => ?_) hv) hv
  obtain ⟨a, o, ep, items, hv, q1, q2, q3, q4, q5⟩ := hv
  obtain ⟨xs, hxs, rfl⟩ := ints_all his q5
  have hit : items = intItems xs.toArray := by
    apply Array.toList_inj.mp; rw [hxs]; simp [intItems]
  subst hit
  have hne : 0 < xs.toArray.size := by
    cases xs with
    | nil => cases hmin
    | cons => exact Nat.succ_pos _
  refine hv ▸ min_intList R.handled ⟨o, S.le _ _ q1, q2, ep, q3⟩ hne fun v h' tk hv hk' => ?_
  obtain ⟨t, rfl⟩ := intItems_at hv
  refine hQ (S.keeps hk') (Ext.keeps hk') ?_
  cases hd
  exact ⟨t, by rw [min_at hmin hne]⟩

theorem E_tuple (WD : Wd K h₀) {e : PySem.Expr} {me : E} {np pos : Pos} (hk : sc.lookup ("tuple" : Str) = some .globalImplicit) (hx : nsIn K mainGlobals "tuple" = some none) (hst : notStar e = true) (he : SoundE prog w h₀ an Φ n sc vars e me) :
    SoundE prog w h₀ an Φ n sc vars (.Call (.Name "tuple" np) [e] [] pos) (.tuple me) := by
  intro env A Er s h tk g ρ σ m v σ' Q hsc R N S hd hQ
  refine b1_sound WD (op := fun _ => tupleD) hk hx hst he PyProof.Rows.boot_tuple rfl (by decide +kernel) (by decide +kernel) (fun {A Er s h tk g ρ σ v val d Q} R S hv hd hQ => ?_) hsc R N S hd hQ
  refine onD_is (G := fun v => IsV an w.params ρ g v val → _) hd (fun x hd hv => dT_is (G := fun x => IsD an w.params g x val → _) hd (fun l hd hv => ?_) hv) hv
  cases hd
  have hv' := hv
  obtain ⟨a, ep, items, rfl, q1, q2, q3⟩ := hv'
  exact call_tuple_same ⟨_, S.le _ _ q1, rfl, _, rfl⟩ (hQ.at S hv)

theorem isi_sound (WD : Wd K h₀) {y : Str} {f : Value} {b : Bool} {e : PySem.Expr} {me : E} {np np2 pos : Pos} (hk : sc.lookup ("isinstance" : Str) = some .globalImplicit) (hx : nsIn K mainGlobals "isinstance" = some none) (hk2 : sc.lookup y = some .globalImplicit) (hx2 : nsIn K mainGlobals y = some none) (hst : notStar e = true) (he : SoundE prog w h₀ an Φ n sc vars e me)
    (hb : bootBuiltins y = some f) (hd' : (y == ("__debug__" : Str)) = false) (hn : (y == ("__name__" : Str)) = false) (hop : ∀ {A : Around} {Er : Value → Shared → Prop} {s : Shared} {h : Heap} {tk : Nat} {i : Int} {t : Tok} {Q : Value → Shared → Prop}, (∀ tk, Q (.bool b) (sh s h tk)) → wpAny (model prog w) A (PySem.call (.builtin "isinstance") [.int i t, f]) Q Er (sh s h tk))
    {env : Env} {A : Around} {Er : Value → Shared → Prop} {s : Shared} {h : Heap} {tk : Nat} {g : G} {ρ : Rho} {σ : Sto} {m : Mem} {v : V} {σ' : Sto} {Q : Value → Shared → Prop} (hsc : env.scope.names = sc) (R : Room A n)
    (N : EnvOk an w.params env vars m g ρ h) (S : St an w.params h₀ g ρ σ h) (hd : den1 (E.den Φ m me) (fun v => retD (isIntD b v)) σ = some (v, σ')) (hQ : Out an w.params h₀ g ρ h s v σ' Q) :
    wpAny (model prog w) A (eval (.Call (.Name "isinstance" np) [e, .Name y np2] [] pos) env) Q Er (sh s h tk) := by
  refine den1_el hd fun v1 σ1 h1 hd => hQ.toD hd fun d hd hQ => call_b WD hsc N S hk hx boot_isinstance rfl (by decide +kernel) (by decide +kernel) (by rw [List.all_cons, hst]; rfl) ?_
  refine Calls.spliced_cons (he hsc R N S h1 fun val g1 ρ1 hh1 tk1 S1 X1 hv => Calls.spliced_cons (name_builtin (s := sh s hh1 tk1) WD (N.ext X1 noW_env) S1 (by show env.scope.names.lookup _ = _; rw [hsc]; exact hk2) hx2 hb hd' (beq_eq_false_iff_ne.mp hn) (Calls.spliced_nil ?_)))
  refine onI_is hv hd fun i t hd => hop fun _ => ?_
  cases hd
  exact hQ S1 X1 rfl
theorem E_isint (WD : Wd K h₀) {e : PySem.Expr} {me : E} {np np2 pos : Pos} (hk : sc.lookup ("isinstance" : Str) = some .globalImplicit) (hx : nsIn K mainGlobals "isinstance" = some none) (hk2 : sc.lookup ("int" : Str) = some .globalImplicit) (hx2 : nsIn K mainGlobals "int" = some none) (hst : notStar e = true) (he : SoundE prog w h₀ an Φ n sc vars e me) :
    SoundE prog w h₀ an Φ n sc vars (.Call (.Name "isinstance" np) [e, .Name "int" np2] [] pos) (.isint me) := by
  intro env A Er s h tk g ρ σ m v σ' Q hsc R N S hd hQ
  exact isi_sound WD hk hx hk2 hx2 hst he PyProof.Rows.boot_int (by decide +kernel) (by decide +kernel) (fun h => IsiPair.int_int (h _)) hsc R N S hd hQ
theorem E_isbool (WD : Wd K h₀) {e : PySem.Expr} {me : E} {np np2 pos : Pos} (hk : sc.lookup ("isinstance" : Str) = some .globalImplicit) (hx : nsIn K mainGlobals "isinstance" = some none) (hk2 : sc.lookup ("bool" : Str) = some .globalImplicit) (hx2 : nsIn K mainGlobals "bool" = some none) (hst : notStar e = true) (he : SoundE prog w h₀ an Φ n sc vars e me) :
    SoundE prog w h₀ an Φ n sc vars (.Call (.Name "isinstance" np) [e, .Name "bool" np2] [] pos) (.isbool me) := by
  intro env A Er s h tk g ρ σ m v σ' Q hsc R N S hd hQ
  exact isi_sound WD hk hx hk2 hx2 hst he PyProof.Rows.boot_bool (by decide +kernel) (by decide +kernel) (fun h => IsiPair.int_bool (h _)) hsc R N S hd hQ
end

section
variable {an : Nat → Str} {P : Params} {h₀ : Heap} {g g' : G} {ρ ρ' : Rho} {σ σ' : Sto} {h h' : Heap} {W : Addr → Prop}

theorem IsDs.of_get {g : G} : ∀ {l : List D} {vs : List Value}, l.length = vs.length → (∀ (i : Nat) d v, l[i]? = some d → vs[i]? = some v → IsD an P g d v) → IsDs an P g l vs
  | [], [], _, _ => trivial
  | [], _ :: _, e, _ => nomatch e
  | _ :: _, [], e, _ => nomatch e
  | d :: ds, v :: vs, e, x => And.intro (x 0 d v rfl rfl) (IsDs.of_get (Nat.succ.inj e) fun i d' v' a b => x (i + 1) d' v' a b)

open Classical in
noncomputable def frozenG (g : G) (ρ : Rho) (n : Nat) (h : Heap) : G := fun b => if InMut (ρ.drop n) b then h.get? b else g b
theorem inMut_drop {n : Nat} {b : Addr} (m : InMut (ρ.drop n) b) : InMut ρ b := let ⟨p, hp, e⟩ := m; ⟨p, List.mem_of_mem_drop hp, e⟩
theorem inMut_take {n : Nat} {b : Addr} (m : InMut (ρ.take n) b) : InMut ρ b := let ⟨p, hp, e⟩ := m; ⟨p, List.mem_of_mem_take hp, e⟩
theorem St.apart (S : St an P h₀ g ρ σ h) {n : Nat} {b : Addr} (m : InMut (ρ.take n) b) (m' : InMut (ρ.drop n) b) : False := by
  obtain ⟨p, hp, e⟩ := m
  obtain ⟨q, hq, e'⟩ := m'
  obtain ⟨i, hi⟩ := List.mem_iff_getElem?.mp hp
  obtain ⟨j, hj⟩ := List.mem_iff_getElem?.mp hq
  have hi2 : i < n := by
    have := (List.getElem?_eq_some_iff.mp hi).1
    rw [List.length_take] at this; omega
  rw [List.getElem?_take_of_lt hi2] at hi
  rw [List.getElem?_drop] at hj
  obtain ⟨a1, a2, a3, a4⟩ := S.sep i (n + j) p q (by omega) hi hj
  rcases e with e | e <;> rcases e' with e' | e'
  · exact a1 (e ▸ e')
  · exact a2 (e ▸ e')
  · exact a3 (e ▸ e')
  · exact a4 (e ▸ e')
theorem frozenG_le (S : St an P h₀ g ρ σ h) (n : Nat) (b : Addr) (o : Obj) (e : g b = some o) : frozenG g ρ n h b = some o := by
  have : ¬ InMut (ρ.drop n) b := fun m => by rw [S.off b (inMut_drop m)] at e; cases e
  unfold frozenG
  rw [if_neg this]; exact e
theorem frozenG_in {n : Nat} {b : Addr} (m : InMut (ρ.drop n) b) : frozenG g ρ n h b = h.get? b := by
  unfold frozenG
  rw [if_pos m]
theorem St.freeze (S : St an P h₀ g ρ σ h) (n : Nat) (hl : lists (σ.take n) = true) : St an P h₀ (frozenG g ρ n h) (ρ.take n) (σ.take n) h where
  base b o e := frozenG_le S n b o (S.base b o e)
  le b o e := by
    by_cases m : InMut (ρ.drop n) b
    · rwa [frozenG_in m] at e
    · unfold frozenG at e
      rw [if_neg m] at e
      exact S.le b o e
  off b m := by
    have : ¬ InMut (ρ.drop n) b := fun m' => S.apart m m'
    unfold frozenG
    rw [if_neg this]
    exact S.off b (inMut_take m)
  sep i j p q hij e1 e2 := by
    have h1 : i < n := by have := (List.getElem?_eq_some_iff.mp e1).1; rw [List.length_take] at this; omega
    have h2 : j < n := by have := (List.getElem?_eq_some_iff.mp e2).1; rw [List.length_take] at this; omega
    rw [List.getElem?_take_of_lt h1] at e1
    rw [List.getElem?_take_of_lt h2] at e2
    exact S.sep i j p q hij e1 e2
  len := by simp [S.len]
  obj i p m e1 e2 := by
    have h1 : i < n := by have := (List.getElem?_eq_some_iff.mp e1).1; rw [List.length_take] at this; omega
    have hm := List.all_eq_true.mp hl m (List.mem_of_getElem? e2)
    rw [List.getElem?_take_of_lt h1] at e1 e2
    have := S.obj i p m e1 e2
    cases m with
    | lst l =>
      obtain ⟨a, items, b, c, d⟩ := this
      exact ⟨a, items, b, c, IsDs.mono (frozenG_le S n) l d⟩
    | obj c ks vs => simp [MObj.isLst] at hm
theorem Ext.freeze (S : St an P h₀ g' ρ' σ' h') {n : Nat} (X : Ext W g ρ h g' ρ' h') (hn : ρ.length = n) : Ext W g ρ h (frozenG g' ρ' n h') (ρ'.take n) h' where
  gle b o e := frozenG_le S n b o (X.gle b o e)
  pre i p e := by
    have : i < n := by rw [← hn]; exact (List.getElem?_eq_some_iff.mp e).1
    rw [List.getElem?_take_of_lt this]
    exact X.pre i p e
  keep := X.keep
  live := X.live
  gnew b o e := by
    by_cases m : InMut (ρ'.drop n) b
    · rcases X.mnew b (inMut_drop m) with m' | q
      · exfalso
        refine S.apart ?_ m
        obtain ⟨p, hp, e'⟩ := m'
        obtain ⟨i, hi⟩ := List.mem_iff_getElem?.mp hp
        have : i < n := by rw [← hn]; exact (List.getElem?_eq_some_iff.mp hi).1
        exact ⟨p, List.mem_of_getElem? (i := i) (by rw [List.getElem?_take_of_lt this]; exact X.pre i p hi), e'⟩
      · exact .inr q
    · unfold frozenG at e
      rw [if_neg m] at e
      exact X.gnew b o e
  mnew b m := X.mnew b (inMut_take m)

theorem fs_of_mfs {g' : G} (hg : ∀ b o, g b = some o → g' b = some o) {ks : List Nat} {vs : List V} {es : List DictEntry} (H : IsMFs an P ρ g ks vs es) : ∀ {ds : List D}, allD vs = some ds → IsFs an P g' ks ds es := by
  induction H with
  | nil => intro ds e; cases e; trivial
  | @cons k v d ks vs es h1 h2 h3 _ ih =>
    intro ds e
    cases v with
    | d y =>
      refine omap1 e fun l' hl e => ?_
      cases e
      exact ⟨h1, h2, IsD.mono hg y h3, ih hl⟩
    | _ => exact noS e

theorem freezeR_is (S : St an P h₀ g ρ σ h) {n i : Nat} {d : D} {p : Addr × Addr} (hp : ρ[i]? = some p) (e : freezeV n σ (.ref i) = some d) : IsD an P (frozenG g ρ n h) d (.ref p.1) := by
  by_cases hi : n ≤ i
  · have e := (if_pos hi).symm.trans e
    have hpd : p ∈ ρ.drop n := by
      refine List.mem_of_getElem? (i := i - n) ?_
      rw [List.getElem?_drop, Nat.add_sub_cancel' hi]; exact hp
    have m1 : InMut (ρ.drop n) p.1 := ⟨p, hpd, .inl rfl⟩
    have m2 : InMut (ρ.drop n) p.2 := ⟨p, hpd, .inr rfl⟩
    cases hl : σ[i]? with
    | none => rw [hl] at e; cases e
    | some mo =>
      rw [hl] at e
      cases mo with
      | lst l =>
        cases e
        obtain ⟨_, items, ⟨o, ep, q1, q2, q3, q4⟩, q5, q6⟩ := S.obj i p _ hp hl
        exact ⟨p.1, o, ep, items, rfl, (frozenG_in m1).trans q1, q2, q4, q5, IsDs.mono (frozenG_le S n) l q6⟩
      | obj c ks vs =>
        refine omap1 e fun ds hds e => ?_
        obtain ⟨_, q1, od, es, ep, q2, q3, q4, q5⟩ := S.obj i p _ hp hl
        cases e
        exact ⟨p.1, p.2, od, es, ep, rfl, (frozenG_in m1).trans q1, (frozenG_in m2).trans q2, q3, q4, fs_of_mfs (frozenG_le S n) q5 hds⟩
  · exact noS ((if_neg hi).symm.trans e)
mutual
theorem freezeV_is (S : St an P h₀ g ρ σ h) (n : Nat) : ∀ (v : V) {d : D} {val : Value}, freezeV n σ v = some d → IsV an P ρ g v val → IsD an P (frozenG g ρ n h) d val
  | .d x, d, val, e, hv => Option.some.inj e ▸ IsD.mono (frozenG_le S n) x hv
  | .ref i, d, val, e, hv => by
    obtain ⟨p, hp, rfl⟩ := hv
    exact freezeR_is S hp e
  | .tup l, d, val, e, hv => by
    obtain ⟨a, ep, items, hv, q1, q2, q3⟩ := hv
    exact omap1 e fun ds h1 e => Option.some.inj e ▸ ⟨a, ep, items, hv, frozenG_le S n _ _ q1, q2, freezeVs_is S n l h1 q3⟩
theorem freezeVs_is (S : St an P h₀ g ρ σ h) (n : Nat) : ∀ (l : List V) {ds : List D} {vals : List Value}, freezeVs n σ l = some ds → IsVs an P ρ g l vals → IsDs an P (frozenG g ρ n h) ds vals
  | [], ds, [], e, _ => Option.some.inj e ▸ trivial
  | [], _, _ :: _, _, x => False.elim x
  | _ :: _, _, [], _, x => False.elim x
  | v :: r, ds, val :: vals, e, x => obind1 e fun d h1 e => omap1 e fun ds' h2 e => Option.some.inj e ▸ And.intro (freezeV_is S n v h1 x.1) (freezeVs_is S n r h2 x.2)
end

theorem push2 {o o' : Obj} : ∀ b q, h.get? b = some q → ((h.push o).push o').get? b = some q := fun b q e => Heap.get?_push_of_some _ (Heap.get?_push_of_some _ e)
theorem get?_size1 : h.get? (h.objs.size + 1) = none := by
  cases e : h.get? (h.objs.size + 1) with
  | none => rfl
  | some o => exact absurd (Heap.lt_size e) (Nat.not_lt.mpr (Nat.le_succ _))
theorem St.pushO (c : Nat) (S : St an P h₀ g ρ σ h) : St an P h₀ g (ρ ++ [(h.objs.size + 1, h.objs.size)]) (σ ++ [.obj c [] []]) ((h.push emptyDict).push (instObj c h.objs.size)) := by
  have hx : ((h.push emptyDict).push (instObj c h.objs.size)).get? (h.objs.size + 1) = some (instObj c h.objs.size) := by
    have := Heap.get?_push_size (h.push emptyDict) (o := instObj c h.objs.size) rfl
    rwa [Heap.size_push] at this
  exact S.addM push2 get?_size1 (get?_size h) ⟨Nat.succ_ne_self _, hx, emptyDict, _, _, Heap.get?_push_of_some _ (Heap.get?_push_size _ rfl), rfl, rfl, .nil⟩
theorem Ext.pushO (c : Nat) (S : St an P h₀ g ρ σ h) : Ext W g ρ h g (ρ ++ [(h.objs.size + 1, h.objs.size)]) ((h.push emptyDict).push (instObj c h.objs.size)) :=
  Ext.addM push2 get?_size1 (get?_size h)
end

section
variable {prog : Program} {w : World} {K : Frag} {h₀ : Heap} {an : Nat → Str} {Φ : Tab} {n : Nat} {sc : List (Str × NameKind)} {vars : List Str}

theorem E_lrange (WD : Wd K h₀) {a b : PySem.Expr} {ma mb : E} {np np2 pos pos2 : Pos} (hk : sc.lookup ("list" : Str) = some .globalImplicit) (hx : nsIn K mainGlobals "list" = some none) (hk2 : sc.lookup ("range" : Str) = some .globalImplicit) (hx2 : nsIn K mainGlobals "range" = some none)
    (hsta : notStar a = true) (hstb : notStar b = true) (ha : SoundE prog w h₀ an Φ n sc vars a ma) (hb : SoundE prog w h₀ an Φ n sc vars b mb) :
    SoundE prog w h₀ an Φ n sc vars (.Call (.Name "list" np) [.Call (.Name "range" np2) [a, b] [] pos2] [] pos) (.lrange ma mb) := by
  intro env A Er s h tk g ρ σ m v σ' Q hsc R N S hd hQ
  refine den2_el hd fun v1 σ1 v2 σ2 h1 h2 hd => hQ.toD hd fun d hd hQ => call_b WD hsc N S hk hx PyProof.Rows.boot_list rfl (by decide +kernel) (by decide +kernel) rfl ?_
  refine Calls.spliced_cons (call_b WD hsc N S hk2 hx2 PyProof.Rows.boot_range rfl (by decide +kernel) (by decide +kernel) (by rw [List.all_cons, hsta, List.all_cons, hstb]; rfl) (Calls.spliced_cons (ha hsc R N S h1 fun val1 g1 ρ1 hh1 tk1 S1 X1 hv1 => Calls.spliced_cons (hb hsc R (N.ext X1 noW_env) S1 h2 fun val2 g2 ρ2 hh2 tk2 S2 X2 hv2 => Calls.spliced_nil ?_))))
  have hQ := (hQ.then X1).then X2
  refine onI_is (hv1.mono X2.gle X2.pre) hd fun i t hd => onI_is (G := fun _ val2 => wpAny (model prog w) A (PySem.call (.type "range") [.int i t, val2]) _ Er (sh s hh2 tk2)) hv2 hd fun j u hd => ?_
  refine omap1 hd fun l hl e => whenB_el hl fun hc e2 => ?_
  cases e2
  cases e
  have c1 := and_el hc fun h1 hc => and_el hc fun h2 hc => And.intro (And.intro (of_decide_eq_true h1) (of_decide_eq_true h2)) (and_dec hc)
  refine call_range_2 (Calls.spliced_nil ?_)
  have kk : ∀ b o, hh2.get? b = some o → (hh2.push { cls := .type "range", data := .fields #[.int i t, .int j u, .int 1 tk2] }).get? b = some o := fun b o e => Heap.get?_push_of_some _ e
  refine call_list_range (n := (j - i).toNat) R.handled (IsRange.new hh2 i j 1 t u tk2) (small_one (by omega) (by omega) (by omega) (by omega)) (by rw [rangeSize_one]; split <;> omega) (by omega) fun h' tk acc' c' k ho hit => ?_
  have hq : hh2.get? (hh2.push { cls := .type "range", data := .fields #[.int i t, .int j u, .int 1 tk2] }).objs.size = none := by
    cases e : hh2.get? (hh2.push { cls := .type "range", data := .fields #[.int i t, .int j u, .int 1 tk2] }).objs.size with
    | none => rfl
    | some o => exact absurd (Heap.lt_size (kk _ _ e)) (Nat.lt_irrefl _)
  have k' : ∀ b o, hh2.get? b = some o → h'.get? b = some o := fun b o e => k b o (kk b o e)
  refine hQ (S2.addG k' hq ho) (Ext.addG S2 k' hq) ⟨_, _, _, acc', rfl, updG_self _ _ _, rfl, rfl, by rw [hit.1, sizeLine_eq]; omega, IsDs.of_get (by rw [List.length_map, List.length_range, Array.length_toList, hit.1]) fun q d v e1 e2 => ?_⟩
  obtain ⟨tq, rfl⟩ := hit.2 q v (by rw [← Array.getElem?_toList]; exact e2)
  have hq' := (List.getElem?_eq_some_iff.mp e1).1
  rw [List.length_map, List.length_range] at hq'
  rw [List.getElem?_map, List.getElem?_range hq'] at e1
  cases e1
  exact ⟨_, by rw [Int.mul_one]⟩

theorem call_meth {o : PySem.Expr} {name : Str} {apos pos : Pos} {args : List PySem.Expr} {env : Env} {A : Around} {Er : Value → Shared → Prop} {s : Shared} {Q : Value → Shared → Prop} (hb : notBare o = true) (hst : args.all notStar = true) (hlen : args.length < 30) (hline : (apos.endLine == pos.line) = true)
    (h : ∀ pl, wpAny (model prog w) A (eval o env) (fun ov s₁ => wpAny (model prog w) A (getMethod ov name pl) (fun fx s₂ => wpAny (model prog w) A (callWith pos fx.1 fx.2 (args.map fun e => (false, eval e env)) []) Q Er s₂) Er s₁) Er s) :
    wpAny (model prog w) A (eval (.Call (.Attribute o name apos) args [] pos) env) Q Er s := by
  rw [arm_eval_Call, base_plain hb]
  have h' := h (do return (← importBound o env).getD true)
  refine wpAny_bind (wpAny_mono h' (fun ov s₁ h₁ => ?_) fun _ _ e => e)
  refine wpAny_bind (wpAny_standAt ?_)
  have ht : (args.map fun e => ((false, eval e env) : Bool × Sem Value)).all (fun x => !x.1) = true := by
    rw [List.all_map]; simp
  have hform : methodCallForm (args.length + ([] : List Keyword).length) (backTo pos (starEach args env)) (backToKw pos (keywordEach [] env)) = true := by
    rw [trees_plain hst]
    unfold methodCallForm
    rw [show backToKw pos (keywordEach [] env) = [] from rfl]
    simp [hlen]
  have hpos : methodCallPos true o env apos pos = pure pos := by unfold methodCallPos; simp [hline]
  unfold methodCall
  rw [hform]
  refine wpAny_bind (wpAny_holding (wpAny_mono (E := Er) (Q := fun fx s₂ => wpAny (model prog w) A (callWith pos fx.1 fx.2 (args.map fun e => (false, eval e env)) []) Q Er s₂) ?_ (fun fx s₂ h₂ => ?_) fun _ _ x => x))
  · exact h₁
  · refine wpAny_bind (wpAny_of_eq hpos ?_)
    rw [trees_plain hst]
    exact h₂

theorem onR_el {α : Type} {v : V} {f : Nat → Option α} {r : α} (h : v.onR f = some r) {P' : Prop} (k : ∀ n, v = .ref n → f n = some r → P') : P' := by
  cases v with
  | ref n => exact k n rfl h
  | _ => exact noS h
theorem E_append (WD : Wd K h₀) {o e : PySem.Expr} {mo me : E} {apos pos : Pos} (hb : notBare o = true) (hst : notStar e = true) (hline : (apos.endLine == pos.line) = true) (ho : SoundE prog w h₀ an Φ n sc vars o mo) (he : SoundE prog w h₀ an Φ n sc vars e me) :
    SoundE prog w h₀ an Φ n sc vars (.Call (.Attribute o "append" apos) [e] [] pos) (.append mo me) := by
  intro env A Er s h tk g ρ σ m v σ' Q hsc R N S hd hQ
  refine den1_el hd fun v1 σ1 h1 hd => obind1 hd fun i hi hd => den1_el hd fun v2 σ2 h2 hd => onD_is (G := fun v2 => E.den Φ m me σ1 = some (v2, σ2) → _) hd (fun x hd h2 => atL_el hd fun l hl hd => whenB_el hd fun hz hd => ?_) h2
  refine call_meth hb ((Bool.and_true _).trans hst) (Nat.lt_of_sub_pos (Nat.succ_pos 28)) hline fun pl => ho hsc R N S h1 fun val g1 ρ1 hh1 tk1 S1 X1 hv => onR_is hv hi fun i' p hp hi => atL_el hi fun l1 hl1 hi => ?_
  cases hi
  obtain ⟨_, items, ⟨ob, nn, w1, w2, w3, w4⟩, _⟩ := S1.obj _ _ _ hp hl1
  refine Calls.getMethod_list_append w1 w2 w3 (Calls.callWith_builtin rfl (evalArgs_all (keywords := []) rfl (Calls.spliced_cons (he hsc R (N.ext X1 noW_env) S1 h2 fun y g2 ρ2 hh2 tk2 S2 X2 hy => Calls.spliced_nil (wpAny_evalAll_nil ?_)))))
  have hp2 := X2.pre _ _ hp
  obtain ⟨q1, items, q2, q3, q4⟩ := S2.obj _ _ _ hp2 hl
  have hlen : l.length = items.size := q4.length.trans Array.length_toList
  have hz := of_decide_eq_true hz
  refine list_append_plainL q2 (fun h' pl' sb => ?_) q3
  have k : ∀ b o, b ≠ p.1 → b ≠ p.2 → hh2.get? b = some o → h'.get? b = some o := fun b o n1 _ e => by rw [sb.2 b n1]; exact e
  have hm : MIs an w.params ρ2 g2 h' p (.lst (l ++ [x])) := ⟨q1, items.push y, pl', by rw [Array.size_push, ← hlen]; exact Nat.le_trans hz (by decide), by rw [Array.toList_push]; exact q4.append ⟨hy, trivial⟩⟩
  have la := hm.alive
  exact ((hQ.then X1).then X2).of hd (S2.setM hp2 hm k) (Ext.setM hp2 k la.1 la.2) rfl

theorem contains_none {α : Type} : ∀ {ks : List Nat} {vs : List α} {k : Nat}, ks.contains k = false → lookK ks vs k = none
  | [], _, _, _ => rfl
  | _ :: _, [], _, _ => rfl
  | j :: ks, v :: vs, k, h => by
    rw [List.contains_cons, Bool.or_eq_false_iff, beq_eq_false_iff_ne] at h
    exact (if_neg h.1).trans (contains_none h.2)

theorem E_meth {addr : Nat → Addr} (WD : Wd K h₀) (TO : TabOk K an addr Φ) (hF : ∀ f, FnSpec prog w K h₀ an n (addr f) (Φ.fn f)) {o : PySem.Expr} {mo : E} {k : Nat} {x : Str} {es : List PySem.Expr} {mes : List E} {apos pos : Pos} (hb : notBare o = true) (hst : es.all notStar = true)
    (hlen : es.length < 30) (hline : (apos.endLine == pos.line) = true) (hxk : an k = x) (ho : SoundE prog w h₀ an Φ n sc vars o mo) (hes : All2 (SoundE prog w h₀ an Φ n sc vars) es mes)
    (hsh : ∀ c f, Φ.meth c k = some f → Shape K (addr f) (es.length + 1) [] []) :
    SoundE prog w h₀ an Φ n sc vars (.Call (.Attribute o x apos) es [] pos) (.meth mo k mes) := by
  subst hxk
  intro env A Er s h tk g ρ σ m v σ' Q hsc R N S hd hQ
  refine den1_el hd fun v1 σ1 h1 hd => obind1 hd fun f hf hd => denS_el hd fun vs σ2 h2 hd => call_meth hb hst hlen hline fun pl => ho hsc R N S h1 fun val g1 ρ1 hh1 tk1 S1 X1 hv => ?_
  refine onR_is (G := fun v1 val => Φ.fn f (v1 :: vs) σ2 = some (v, σ') → wpAny (model prog w) A (getMethod val (an k) pl) _ Er (sh s hh1 tk1)) hv hf (fun i p hp hf hd => atO_el hf fun c ks fs hs hf => ?_) hd
  cases hck : ks.contains k with
  | true => rw [hck] at hf; cases hf
  | false =>
    rw [hck] at hf
    have hf : Φ.meth c k = some f := hf
    obtain ⟨hcok, hfind, hty⟩ := TO.meth _ _ _ hf
    have C := clsOk_iff hcok
    obtain ⟨_, q1, od, ees, ep, q2, q3, q4, q5⟩ := S1.obj _ _ _ hp hs
    obtain ⟨r1, r2⟩ := fz_none TO.inj q5 (contains_none hck)
    have X : K.In hh1 := WD.k.keeps fun b o e => S1.heapOf b o e
    refine method_fn (s := sh s hh1 tk1) (od := some od) X ⟨q1, rfl, rfl, q2⟩ C.ga C.gt hfind hty ?_ ?_
    · unfold shadowIn lookIn
      dsimp only
      rw [q4]
      dsimp only
      rw [r1, r2]
      rfl
    · obtain ⟨hkeep, dvals, hdv, hbind⟩ := hsh _ _ hf
      refine callWith_of (P := K.In) (by rw [any_star]; rfl) (keeps_K hkeep) (evalArgs_all (keywords := []) rfl ?_)
      refine args_sound hes hsc R (N.ext X1 noW_env) S1 h2 fun vals g2 ρ2 hh2 tk2 S2 X2 hv2 => wpAny_evalAll_nil ⟨WD.k.keeps fun b o e => S2.heapOf b o e, ?_⟩
      have hdn : dvals = [] := by
        have hd0 := hdv an w.params g2
        cases dvals with
        | nil => rfl
        | cons => exact False.elim hd0
      have hbb := hbind (.ref p.1 :: vals) [] (congrArg (· + 1) (args_len hes h2 hv2)) rfl
      rw [hdn, List.append_nil, List.append_nil] at hbb
      exact wpAny_call (hF f R.f S2 (vs := .ref p.1 :: vals) (mvs := .ref i :: vs) ⟨⟨p, X2.pre _ _ hp, rfl⟩, hv2⟩ hd hbb ((hQ.then X1).then X2))

theorem E_new {addr : Nat → Addr} (WD : Wd K h₀) (TO : TabOk K an addr Φ) (hF : ∀ f, FnSpec prog w K h₀ an n (addr f) (Φ.fn f)) {c : Nat} {x : Str} {es : List PySem.Expr} {mes : List E} {dfl : List D} {np pos : Pos} 
    (hk : sc.lookup x = some .globalImplicit) (hx : nsIn K mainGlobals x = some (some (.ref c))) (hd' : (x == ("__debug__" : Str)) = false) (hst : es.all notStar = true) (hes : All2 (SoundE prog w h₀ an Φ n sc vars) es mes) (hkeep : keepIn K (.ref c) = true)
    (hsh : ∀ f, Φ.init c = some f → Shape K (addr f) (es.length + 1) dfl []) :
    SoundE prog w h₀ an Φ n sc vars (.Call (.Name x np) es [] pos) (.new c mes dfl) := by
  intro env A Er s h tk g ρ σ m v σ' Q hsc R N S hd hQ
  refine denS_el hd fun vs σ1 h1 hd => obind1 hd fun f hf hd => den1_el hd fun r σ2 h2 hd => onD_is (G := fun r => Φ.fn f (.ref σ1.length :: (vs ++ dfl.map .d)) (σ1 ++ [.obj c [] []]) = some (r, σ2) → _) hd (fun y hd h2 => whenO_el hd fun hn hz => ?_) h2
  cases none_el hn
  obtain ⟨hmk, hfind, hty⟩ := TO.init _ _ hf
  obtain ⟨_, dvals, hdv, hbind⟩ := hsh _ hf
  refine wpAny_Call_ofName (name_global (s := sh s h tk) WD N S (by show env.scope.names.lookup x = _; rw [hsc]; exact hk) hx hd' ?_)
  rw [trees_plain hst]
  refine callWith_of (P := K.In) (by rw [any_star]; rfl) (keeps_K hkeep) (evalArgs_all (keywords := []) rfl (args_sound hes hsc R N S h1 fun vals g1 ρ1 hh1 tk1 S1 X1 hv1 => ?_))
  have X : K.In hh1 := WD.k.keeps fun b o e => S1.heapOf b o e
  refine wpAny_evalAll_nil ⟨X, wpAny_call ?_⟩
  have hself : IsV an w.params (ρ1 ++ [(hh1.objs.size + 1, hh1.objs.size)]) g1 (.ref σ1.length) (.ref (hh1.objs.size + 1)) :=
    ⟨(hh1.objs.size + 1, hh1.objs.size), by rw [← S1.len]; exact List.getElem?_concat_length, rfl⟩
  have hbb := hbind (.ref (hh1.objs.size + 1) :: vals) [] (congrArg (· + 1) (args_len hes h1 hv1)) rfl
  rw [List.append_nil] at hbb
  show codeAny _ _ _ _ ⟨hh1, s.gens, s.drawn, tk1, s.os⟩
  refine make_core (makes_of X hmk) (looks_findIn X hfind) (fun self => bind_fn X self hty) (.inl rfl) ?_
  refine hF f (s := s) (v := .d .none) R.typeCall (S1.pushO c) (mvs := .ref σ1.length :: (vs ++ dfl.map .d)) (vs := .ref (hh1.objs.size + 1) :: (vals ++ dvals)) ⟨hself, (hv1.mono' (fun _ _ e => e) append_pre).append' (isVs_of_ds (hdv an w.params g1))⟩ h2 hbb fun val g3 ρ3 hh3 tk3 S3 X3 hv3 => ⟨hv3, ?_⟩
  have hQ := hQ.then X1
  have hself3 := hself.mono X3.gle X3.pre
  have X3 := (Ext.pushO (W := noW) c S1).trans X3
  unfold newRes at hz
  split at hz
  · exact whenO_el hz fun hli hd => omap1 hd fun d hfz hd => hQ.of hd (S3.freeze _ hli) (Ext.freeze S3 X3 S1.len) (freezeV_is S3 _ _ hfz hself3)
  · exact hQ.of hz S3 X3 hself3
end

noncomputable def OutS (an : Nat → Str) (P : Params) (h₀ : Heap) (env : Env) (vars : List Str) (g : G) (ρ : Rho) (h : Heap) (s : Shared) (m' : Mem) (σ' : Sto) (Q : Shared → Prop) : Prop :=
  ∀ ⦃g' ρ' h' tk⦄, St an P h₀ g' ρ' σ' h' → Ext (EnvW env) g ρ h g' ρ' h' → EnvOk an P env vars m' g' ρ' h' → Q (sh s h' tk)

section
variable {prog : Program} {w : World} {K : Frag} {h₀ : Heap} {an : Nat → Str} {Φ : Tab} {n : Nat} {sc : List (Str × NameKind)} {vars : List Str}

theorem OutS.of {env : Env} {m m' : Mem} {σ σ' : Sto} {g : G} {ρ : Rho} {h : Heap} {s : Shared} {Q : Shared → Prop} {Pm : Params} (hQ : OutS an Pm h₀ env vars g ρ h s m' σ' Q) (e : some (m, σ) = some (m', σ')) : OutS an Pm h₀ env vars g ρ h s m σ Q := by
  cases e; exact hQ
theorem Ext.env {g g' : G} {ρ ρ' : Rho} {h h' : Heap} {env : Env} (X : Ext noW g ρ h g' ρ' h') : Ext (EnvW env) g ρ h g' ρ' h' := X.weaken fun _ f => f.elim
theorem OutS.then {env : Env} {m' : Mem} {σ' : Sto} {g g1 : G} {ρ ρ1 : Rho} {h h1 : Heap} {s : Shared} {Q : Shared → Prop} {Pm : Params} (hQ : OutS an Pm h₀ env vars g ρ h s m' σ' Q) (X : Ext (EnvW env) g ρ h g1 ρ1 h1) : OutS an Pm h₀ env vars g1 ρ1 h1 s m' σ' Q :=
  fun _ _ _ _ S' X' N' => hQ S' (X.trans X') N'
theorem OutS.thenE {env : Env} {m' : Mem} {σ' : Sto} {g g1 : G} {ρ ρ1 : Rho} {h h1 : Heap} {s : Shared} {Q : Shared → Prop} {Pm : Params} (hQ : OutS an Pm h₀ env vars g ρ h s m' σ' Q) (X : Ext noW g ρ h g1 ρ1 h1) : OutS an Pm h₀ env vars g1 ρ1 h1 s m' σ' Q := hQ.then X.env

theorem St.but {g : G} {ρ : Rho} {σ : Sto} {h h' : Heap} {C : Addr} {Pm : Params} (S : St an Pm h₀ g ρ σ h) (hg : g C = none) (hm : ¬ InMut ρ C) (sb : Heap.SameBut C h h') : St an Pm h₀ g ρ σ h' :=
  S.step (fun _ _ e => e) (fun b o e => (sb.2 b fun q => by rw [q, hg] at e; cases e).trans (S.le b o e)) S.off fun b o mb e => (sb.2 b fun q => hm (q ▸ mb)).trans e
theorem Ext.but {W : Addr → Prop} {g : G} {ρ : Rho} {h h' : Heap} {C : Addr} (sb : Heap.SameBut C h h') (live : ∃ o, h'.get? C = some o) (hw : W C) : Ext W g ρ h g ρ h' where
  gle _ _ e := e
  pre _ _ e := e
  keep b o e nw _ := (sb.2 b fun q => nw (q ▸ hw)).trans e
  live b o e := by
    by_cases q : b = C
    · rw [q]; exact live
    · exact ⟨o, (sb.2 b q).trans e⟩
  gnew _ o e := .inl ⟨o, e⟩
  mnew _ m := .inl m
theorem nodup_get {l : List Str} (h : l.Nodup) {i j : Nat} {x : Str} (a : l[i]? = some x) (b : l[j]? = some x) : i = j := by
  obtain ⟨hi, e1⟩ := List.getElem?_eq_some_iff.mp a
  obtain ⟨hj, e2⟩ := List.getElem?_eq_some_iff.mp b
  exact (List.getElem?_inj hi h).mp (a.trans b.symm)
theorem set_get {m : Mem} {i j : Nat} {v u : V} (e : (m.set i (some v))[j]? = some (some u)) : (i = j ∧ u = v) ∨ (i ≠ j ∧ m[j]? = some (some u)) := by
  by_cases q : i = j
  · subst q
    by_cases hl : i < m.length
    · rw [List.getElem?_set_self hl] at e
      cases e; exact .inl ⟨rfl, rfl⟩
    · rw [List.getElem?_eq_none (Nat.le_of_not_lt (fun z => hl (List.length_set ▸ z)))] at e; cases e
  · rw [List.getElem?_set_ne q] at e
    exact .inr ⟨q, e⟩

theorem EnvOk.setL {env : Env} {h h' : Heap} {g : G} {ρ : Rho} {m : Mem} {i : Nat} {x : Str} {v : V} {val : Value} {mr : Str → Option Value} {Pm : Params} (N : EnvOk an Pm env vars m g ρ h) (hx : vars[i]? = some x) (hk : env.kindOf x = some .local)
    (hm : ∀ (i : Nat) x v, vars[i]? = some x → m[i]? = some (some v) → env.kindOf x = some .local → ∃ val, mr x = some val ∧ IsV an Pm ρ g v val) (hn' : h'.Ns env.locals fun y => if y = x then some val else mr y) (hs : Heap.SameBut env.locals h h') (hv : IsV an Pm ρ g v val) :
    EnvOk an Pm env vars (m.set i (some v)) g ρ h' where
  kind := N.kind
  globals := N.globals
  builtins := N.builtins
  nodup := N.nodup
  ns := ⟨_, hn', fun j y u e1 e2 e3 => by
    rcases set_get e2 with ⟨rfl, rfl⟩ | ⟨q, e2⟩
    · cases hx.symm.trans e1
      exact ⟨val, if_pos rfl, hv⟩
    · obtain ⟨val', r1, r2⟩ := hm j y u e1 e2 e3
      exact ⟨val', (if_neg fun e : y = x => q (nodup_get N.nodup hx (e ▸ e1))).trans r1, r2⟩⟩
  cell j y e1 e2 := by
    obtain ⟨c, ov, r1, ⟨oc, r2, r2'⟩, r3⟩ := N.cell j y e1 e2
    refine ⟨c, ov, r1, ⟨oc, (hs.2 c (N.coff y c r1).2.2).trans r2, r2'⟩, fun u eu => ?_⟩
    rcases set_get eu with ⟨rfl, rfl⟩ | ⟨q, eu⟩
    · cases hx.symm.trans e1
      rw [hk] at e2
      rcases e2 with e2 | e2 <;> cases e2
    · exact r3 u eu
  known := N.known
  loff := N.loff
  coff := N.coff
  apart := N.apart
  calive y c e := by
    obtain ⟨oc, ho⟩ := N.calive y c e
    exact ⟨oc, (hs.2 c (N.coff y c e).2.2).trans ho⟩
theorem EnvOk.setC {env : Env} {h h' : Heap} {g : G} {ρ : Rho} {m : Mem} {i : Nat} {x : Str} {v : V} {val : Value} {c : Addr} {Pm : Params} (N : EnvOk an Pm env vars m g ρ h) (hx : vars[i]? = some x) (hk : env.kindOf x = some .cell) (q1 : env.cells.lookup x = some c)
    (hc' : h'.IsCell c (some val)) (hs : Heap.SameBut c h h') (hv : IsV an Pm ρ g v val) : EnvOk an Pm env vars (m.set i (some v)) g ρ h' where
  kind := N.kind
  globals := N.globals
  builtins := N.builtins
  nodup := N.nodup
  ns := by
    obtain ⟨mr, hn, hm⟩ := N.ns
    obtain ⟨oL, es, ep, hL, r⟩ := hn
    refine ⟨mr, ⟨oL, es, ep, (hs.2 _ (Ne.symm (N.coff x c q1).2.2)).trans hL, r⟩, fun j y u e1 e2 e3 => ?_⟩
    rcases set_get e2 with ⟨rfl, rfl⟩ | ⟨q, e2⟩
    · cases hx.symm.trans e1
      cases hk.symm.trans e3
    · exact hm j y u e1 e2 e3
  cell j y e1 e2 := by
    by_cases q : i = j
    · subst q
      cases hx.symm.trans e1
      refine ⟨c, some val, q1, hc', fun u eu => ?_⟩
      rcases set_get eu with ⟨_, rfl⟩ | ⟨q, _⟩
      · exact ⟨val, rfl, hv⟩
      · exact absurd rfl q
    · obtain ⟨c', ov', r1, ⟨oc, r2, r2'⟩, r3⟩ := N.cell j y e1 e2
      have hcc : c' ≠ c := fun e => q (nodup_get N.nodup hx ((N.apart _ _ _ r1 (e ▸ q1)) ▸ e1))
      refine ⟨c', ov', r1, ⟨oc, (hs.2 c' hcc).trans r2, r2'⟩, fun u eu => ?_⟩
      rcases set_get eu with ⟨z, _⟩ | ⟨_, eu⟩
      · exact absurd z q
      · exact r3 u eu
  known := N.known
  loff := N.loff
  coff := N.coff
  apart := N.apart
  calive y c' e := by
    obtain ⟨oc, ho⟩ := N.calive y c' e
    by_cases q : c' = c
    · obtain ⟨o, e, _⟩ := hc'
      exact ⟨o, q ▸ e⟩
    · exact ⟨oc, (hs.2 c' q).trans ho⟩

theorem store_sound {env : Env} {A : Around} {Er : Value → Shared → Prop} {s : Shared} {h : Heap} {tk : Nat} {g : G} {ρ : Rho} {σ : Sto} {m : Mem} {i : Nat} {x : Str} {v : V} {val : Value} {Q : Unit → Shared → Prop} (N : EnvOk an w.params env vars m g ρ h) (S : St an w.params h₀ g ρ σ h)
    (hx : vars[i]? = some x) (hf : env.kindOf x ≠ some .free) (hw : env.func ≠ none ∨ env.kindOf x = some .local) (hv : IsV an w.params ρ g v val)
    (hQ : ∀ h' tk, St an w.params h₀ g ρ σ h' → Ext (EnvW env) g ρ h g ρ h' → EnvOk an w.params env vars (m.set i (some v)) g ρ h' → Q () (sh s h' tk)) :
    wpAny (model prog w) A (storeName env x val) Q Er (sh s h tk) := by
  rcases N.known i x hx with hk | hk | hk
  · obtain ⟨mr, hn, hm⟩ := N.ns
    refine wpAny_storeName_local (s := sh s h tk) hk hn (fun h' hn' hs => hQ h' _ (S.but N.loff.1 N.loff.2 hs) (Ext.but hs ?_ (.inl rfl)) (N.setL hx hk hm hn' hs hv)) (by rw [N.kind]; rfl)
    obtain ⟨o, es, ep, e, _⟩ := hn'; exact ⟨o, e⟩
  · have hfn : env.func ≠ none := hw.resolve_right fun q => by rw [hk] at q; cases q
    obtain ⟨c, ov, q1, q2, q3⟩ := N.cell i x hx (.inl hk)
    obtain ⟨c1, c2, c3⟩ := N.coff x c q1
    refine wpAny_storeName_cell (s := sh s h tk) N.kind hk q1 q2 fun h' hc' hs => hQ h' _ (S.but c1 c2 hs) (Ext.but hs ?_ (.inr ⟨hfn, x, q1⟩)) (N.setC hx hk q1 hc' hs hv)
    obtain ⟨o, e, _⟩ := hc'; exact ⟨o, e⟩
  · exact absurd hk hf

theorem setItem_plainL {A : Around} {Er : Value → Shared → Prop} {s : Shared} {l : Addr} {items : Array Value} {k : Int} {t : Tok} {v : Value} {Q : Unit → Shared → Prop} (hl : PlainL s.heap l items)
    (h0 : 0 ≤ k) (hfit : k < 2 ^ 63) (hn : k < items.size) (hQ : ∀ h', PlainL h' l (items.setIfInBounds k.toNat v) → Heap.SameBut l s.heap h' → Q () { s with heap := h' }) :
    wpAny (model prog w) A (setItem (.ref l) (.int k t) v) Q Er s := by
  obtain ⟨o, ne, ho, hc, hdn, hd⟩ := id hl
  unfold setItem
  try with_reducible refine wpAny_holding ?_
  first | refine wpAny_bind (wpAny_pure ?_) | skip
  refine wpAny_bind (wpAny_sequenceKey hl.isList.typeIs (by decide) ?_)
  refine wpAny_bind (wpAny_callSpecial?_slot (name := Str.ofString "__setitem__") hl.isList.typeIs slot_list_setitem
    (wpAny_call_entry slot_list_setitem hl.isList.typeIs entry_list_setitem ?_ (args_list_setitem _ _ _)))
  show wpAny _ _ (Builtin.List.listSubscript? (.int k t) >>= _) _ _ s
  refine wpAny_bind (wpAny_listSubscript_int (fitsIndex_of h0 hfit) ?_)
  clear hfit
  obtain ⟨j, rfl⟩ := Int.eq_ofNat_of_zero_le h0
  have hj : j < items.size := by omega
  have hx' : items[j]? = some items[j] := Array.getElem?_eq_getElem hj
  show wpAny _ _ ((seqItemAt l j >>= fun r => pure (r.map (j, ·))) >>= _) _ _ s
  refine wpAny_bind (wpAny_bind (wpAny_seqItemAt ho hd (wpAny_pure ?_)))
  rw [hx']
  show wpAny _ _ (setSeqItemAt l j v >>= _) _ _ s
  obtain ⟨n', hd'⟩ := Obj.data_mapSeq hd (·.setIfInBounds j v)
  have hfin : PlainL (s.heap.update l (Obj.mapSeq (·.setIfInBounds j v))) l (items.setIfInBounds j v) := by
    refine ⟨_, n', Heap.get?_update_self _ ho (Obj.isFreed_of_seq hd'), (Obj.cls_mapSeq ..).trans hc, ?_, hd'⟩
    obtain ⟨c, d, dt, sl⟩ := o
    subst hd
    exact hdn
  refine wpAny_bind (wpAny_setSeqItemAt ho hd ?_)
  first
    | exact wpAny_bind (wpAny_pure (wpAny_pure ⟨.none, rfl, wpAny_pure (hQ _ hfin (Heap.SameBut.update ..))⟩))
    | exact wpAny_pure ⟨.none, rfl, wpAny_pure (hQ _ hfin (Heap.SameBut.update ..))⟩

theorem mfs_put {α : Type} {R : α → Value → Prop} {Pm : Params} (hinj : ∀ i j, an i = an j → i = j) {k : Nat} {x : α} {val : Value} {t : Tok} (hv : R x val) {ks : List Nat} {vs : List α} {es : List DictEntry} (H : Fz an Pm R ks vs es) :
    Fz an Pm R (putK ks vs k x).1 (putK ks vs k x).2 (PySem.putIn (·.key.isStr (an k)) (fun e => { e with val := val }) ⟨PyData.keyHash Pm (an k), .str (an k) t, val⟩ es) := by
  induction H with
  | nil => exact .cons ⟨t, rfl⟩ rfl hv .nil
  | @cons j v d ks vs es hu hh hvv hr ih =>
    obtain ⟨u, hu⟩ := hu
    by_cases q : k = j
    · subst q
      rw [putIn_hit _ _ _ _ _ (by rw [hu]; exact beq_self_eq_true _), show putK (k :: ks) (v :: vs) k x = (k :: ks, x :: vs) from if_pos rfl]
      exact .cons ⟨u, hu⟩ hh hv hr
    · rw [putIn_miss _ _ _ _ _ (by rw [hu]; exact beq_eq_false_iff_ne.mpr fun z => q (hinj _ _ z).symm), show putK (j :: ks) (v :: vs) k x = (j :: (putK ks vs k x).1, v :: (putK ks vs k x).2) from if_neg q]
      exact .cons ⟨u, hu⟩ hh hvv ih
theorem mfs_any {α : Type} {R : α → Value → Prop} {Pm : Params} {ks : List Nat} {vs : List α} {es : List DictEntry} (H : Fz an Pm R ks vs es) : es.any (·.refKey) = false ∧ es.length = ks.length := by
  induction H with
  | nil => exact ⟨rfl, rfl⟩
  | cons hu _ _ _ ih =>
    obtain ⟨u, hu⟩ := hu
    exact ⟨by rw [List.any_cons, ih.1, Bool.or_false, DictEntry.refKey, hu], congrArg (· + 1) ih.2⟩

theorem putIn_len {α : Type} (p : α → Bool) (f : α → α) (x : α) (l : List α) : (PySem.putIn p f x l).length ≤ l.length + 1 := by
  unfold PySem.putIn
  split <;> simp

theorem osa_dict' {A : Around} {R : Result → Shared → Prop} {s : Shared} {x c d : Addr} {es : Array DictEntry} {ep : Nat} {odd : Option Addr} {osl : Array (Option Value)} {name : Str} {tk : Tok} {val : Value} (X : K.In s.heap) (hc : clsOk K c = true) (hf : findIn K (.ref c) name = some none)
    (hx : s.heap.get? x = some (instObj c d)) (hd : s.heap.get? d = some ⟨.type "dict", odd, .dict es ep, osl⟩) (hr : es.toList.any (·.refKey) = false) (hz : es.toList.length ≤ 100)
    (h : ∀ h', Heap.SameBut d s.heap h' → h'.get? d = some ⟨.type "dict", odd, .dict (PySem.putIn (·.key.isStr name) (fun e => { e with val := val }) ⟨PyData.keyHash w.params name, .str name s.toks, val⟩ es.toList).toArray (if es.toList.any (·.key.isStr name) then ep else ep + 1), osl⟩ →
      R (.ok (.ret .none)) { s with heap := h', toks := s.toks + 1 }) :
    codeAny (model prog w) A (.call (.builtin "object.__setattr__") ⟨[.ref x, .str name tk, val], []⟩) R s := by
  obtain ⟨⟨cd, hcd, hhd⟩, hga, hsa, hgt, hpo⟩ := clsOk_iff hc
  refine osa_open (r := none) (od := some ⟨.type "dict", odd, .dict es ep, osl⟩) X ⟨hx, rfl, rfl, hd⟩ hpo (by unfold takerIn; rw [hf]; rfl) fun b => ?_
  refine wpAny_bind (wpAny_pure (wpAny_bind (wpAny_bind (wpAny_loadPart hx (wpAny_bind ((looks_clsIn X hcd).here ?_))))))
  rw [hhd]
  refine wpAny_pure (a := some d) (wpAny_bind (wpAny_pure (wpAny_bind ?_)))
  unfold nsSet
  refine wpAny_bind (wpAny_bind (wpAny_askSetting (wpAny_pure (wpAny_bind (wpAny_mkText (wpAny_bind (wpAny_loadPart hd ?_)))))))
  dsimp only
  have cc : (!es.any (·.key.isStr name) && es.any (·.refKey)) = false := by
    rw [← Array.any_toList (as := es) (p := (·.refKey)), hr, Bool.and_false]
  rw [aRefKeyMayBeTheName_at, cc]
  have hput := putName_eq name (PyData.keyHash w.params name) (.str name s.toks) val (.type "dict") odd es.toList ep osl
  simp only [Array.toArray_toList] at hput
  refine wpAny_updatePart hd ?_
  have hself : (s.heap.update d (Obj.putName name (PyData.keyHash w.params name) (.str name s.toks) val)).get? d = _ := Heap.get?_update_self _ hd (by rw [hput]; rfl)
  rw [hput] at hself
  have hplen := putIn_len (fun e : DictEntry => e.key.isStr name) (fun e => { e with val := val }) ⟨PyData.keyHash w.params name, .str name s.toks, val⟩ es.toList
  refine wpAny_bind (wpAny_lookBehind hself (pastItsLine_dict (by rw [List.size_toArray, sizeLine_eq]; omega)) ?_)
  exact wpAny_pure (h _ (Heap.SameBut.update ..) hself)

theorem setAttr_sound {addr : Nat → Addr} (WD : Wd K h₀) (TO : TabOk K an addr Φ) {A : Around} {Er : Value → Shared → Prop} {s : Shared} {h : Heap} {tk : Nat} {g : G} {ρ : Rho} {σ : Sto} {i c k : Nat} {ks : List Nat} {vs : List V} {p : Addr × Addr} {v : V} {val : Value} {Q : Unit → Shared → Prop}
    (S : St an w.params h₀ g ρ σ h) (hp : ρ[i]? = some p) (hs : σ[i]? = some (.obj c ks vs)) (hok : Φ.ok c k = true) (hz : ks.length ≤ 100) (hv : IsV an w.params ρ g v val)
    (hQ : ∀ h' tk, St an w.params h₀ g ρ (σ.set i (.obj c (putK ks vs k v).1 (putK ks vs k v).2)) h' → Ext noW g ρ h g ρ h' → Q () (sh s h' tk)) :
    wpAny (model prog w) A (setAttr (.ref p.1) (an k) val) Q Er (sh s h tk) := by
  refine and_el (TO.ok _ _ hok) fun hk1 hk2 => ?_
  obtain ⟨hne, q1, od, es, ep, q2, q3, q4, q5⟩ := S.obj _ _ _ hp hs
  obtain ⟨r1, r2⟩ := mfs_any q5
  have X : K.In h := WD.k.keeps fun b o e => S.heapOf b o e
  refine set_plain (s := sh s h tk) (od := some od) X ⟨q1, rfl, rfl, q2⟩ (clsOk_iff hk1).sa ?_
  obtain ⟨oc, odd, oda, osl⟩ := od
  dsimp only at q3 q4
  subst q3 q4
  refine osa_dict' (s := sh s h (tk + 1)) X hk1 (beq_iff_eq.mp hk2) q1 q2 r1 (by rw [r2]; exact hz) fun h' sb hd' => ?_
  have kp : ∀ b o, b ≠ p.1 → b ≠ p.2 → h.get? b = some o → h'.get? b = some o := fun b o _ n2 e => (sb.2 b n2).trans e
  have hm : MIs an w.params ρ g h' p (.obj c (putK ks vs k v).1 (putK ks vs k v).2) := ⟨hne, (sb.2 _ hne).trans q1, _, _, _, hd', rfl, rfl, mfs_put TO.inj hv q5⟩
  have la := hm.alive
  exact hQ h' _ (S.setM hp hm kp) (Ext.setM hp kp la.1 la.2)
end

section
variable {prog : Program} {w : World} {K : Frag} {h₀ : Heap} {an : Nat → Str} {Φ : Tab} {n : Nat} {sc : List (Str × NameKind)} {vars : List Str}

noncomputable def locTgt (sc : List (Str × NameKind)) (t : PySem.Expr) : Bool := !(t.ctorIdx == 23) || onName t fun x _ => sc.lookup x == some .local
noncomputable def SoundTgt (prog : Program) (w : World) (h₀ : Heap) (an : Nat → Str) (Φ : Tab) (n : Nat) (sc : List (Str × NameKind)) (vars : List Str) (t : PySem.Expr) (mt : Tgt) : Prop :=
  ∀ ⦃env : Env⦄ ⦃A : Around⦄ ⦃Er : Value → Shared → Prop⦄ ⦃s : Shared⦄ ⦃h : Heap⦄ ⦃tk : Nat⦄ ⦃g : G⦄ ⦃ρ : Rho⦄ ⦃σ : Sto⦄ ⦃m : Mem⦄ ⦃v : V⦄ ⦃val : Value⦄ ⦃m' : Mem⦄ ⦃σ' : Sto⦄ ⦃Q : Unit → Shared → Prop⦄, env.scope.names = sc → (env.func ≠ none ∨ locTgt sc t = true) → Room A n →
    EnvOk an w.params env vars m g ρ h → St an w.params h₀ g ρ σ h → IsV an w.params ρ g v val → mt.put Φ v (m, σ) = some (m', σ') → OutS an w.params h₀ env vars g ρ h s m' σ' (Q ()) →
    wpAny (model prog w) A (assign t env val) Q Er (sh s h tk)

theorem Tgt_var {i : Nat} {x : Str} {pos : Pos} (hx : vars[i]? = some x) (hf : sc.lookup x ≠ some .free) : SoundTgt prog w h₀ an Φ n sc vars (.Name x pos) (.var i) := by
  intro env A Er s h tk g ρ σ m v val m' σ' Q hsc hfn R N S hv hd hQ
  have hQ := hQ.of hd
  exact wpAny_assign_Name (store_sound N S hx (by show env.scope.names.lookup x ≠ _; rw [hsc]; exact hf) (hfn.imp id fun q => by show env.scope.names.lookup x = _; rw [hsc]; exact beq_iff_eq.mp q) hv fun h' tk' S' X' N' => hQ S' X' N')

@[elab_as_elim] theorem putAttr_el {α : Type} {m : α} {k : Nat} {v o : V} {σ : Sto} {r : α × Sto} {ρ : Rho} {g : G} {Pm : Params} {ov : Value} (hv : IsV an Pm ρ g o ov) (e : putAttr Φ m k v o σ = some r) {G : Value → Prop}
    (kk : ∀ i p c ks vs, ρ[i]? = some p → σ[i]? = some (.obj c ks vs) → Φ.ok c k = true → ks.length ≤ 100 → some (m, σ.set i (.obj c (putK ks vs k v).1 (putK ks vs k v).2)) = some r → G (.ref p.1)) : G ov :=
  onR_is (G := fun _ ov => G ov) hv e fun i p hp e => atO_el e fun c ks vs hs e => whenB_el e fun hc e => and_el hc fun h1 h2 => kk i p c ks vs hp hs h1 (of_decide_eq_true h2) e
theorem Tgt_attr {addr : Nat → Addr} (WD : Wd K h₀) (TO : TabOk K an addr Φ) {o : PySem.Expr} {mo : E} {k : Nat} {x : Str} {pos : Pos} (hxk : an k = x) (ho : SoundE prog w h₀ an Φ n sc vars o mo) : SoundTgt prog w h₀ an Φ n sc vars (.Attribute o x pos) (.attr mo k) := by
  subst hxk
  intro env A Er s h tk g ρ σ m v val m' σ' Q hsc hfn R N S hv hd hQ
  rw [arm_assign_Attribute]
  refine den1_el hd fun v1 σ1 h1 hd => wpAny_bind (wpAny_holding (ho hsc R N S h1 fun ov g1 ρ1 hh1 tk1 S1 X1 hv1 => ?_))
  refine putAttr_el hv1 hd fun i p c ks vs hp hs hok hz hd => ?_
  refine wpAny_bind (wpAny_standAt (wpAny_bind (wpAny_holding (setAttr_sound WD TO S1 hp hs hok hz (hv.mono X1.gle X1.pre) fun h' tk' S2 X2 => wpAny_release ?_))))
  exact (hQ.of hd) S2 (X1.trans X2).env (N.ext (X1.trans X2) noW_env)

theorem putIdx_is {l l' : List D} {i : Int} {x : D} {g : G} {Pm : Params} {items : Array Value} {val : Value} (h : putIdx l i x = some l') (hd : IsDs an Pm g l items.toList) (hx : IsD an Pm g x val) :
    0 ≤ i ∧ i < items.size ∧ IsDs an Pm g l' (items.setIfInBounds i.toNat val).toList := by
  unfold putIdx at h
  split at h
  · rename_i hc
    cases h
    have hl : l.length = items.size := hd.length.trans Array.length_toList
    exact ⟨hc.1, hl ▸ hc.2, by rw [Array.toList_setIfInBounds]; exact hd.set i.toNat hx⟩
  · cases h

theorem setItem_sound {A : Around} {Er : Value → Shared → Prop} {s : Shared} {h : Heap} {tk : Nat} {g : G} {ρ : Rho} {σ : Sto} {i : Nat} {l l' : List D} {p : Addr × Addr} {j : Int} {t : Tok} {x : D} {val : Value} {Q : Unit → Shared → Prop}
    (S : St an w.params h₀ g ρ σ h) (hp : ρ[i]? = some p) (hs : σ[i]? = some (.lst l)) (hput : putIdx l j x = some l') (hv : IsD an w.params g x val)
    (hQ : ∀ h' tk, St an w.params h₀ g ρ (σ.set i (.lst l')) h' → Ext noW g ρ h g ρ h' → Q () (sh s h' tk)) : wpAny (model prog w) A (setItem (.ref p.1) (.int j t) val) Q Er (sh s h tk) := by
  obtain ⟨q1, items, q2, q3, q4⟩ := S.obj _ _ _ hp hs
  obtain ⟨a, b, d⟩ := putIdx_is hput q4 hv
  refine setItem_plainL (s := sh s h tk) q2 a (Int.lt_trans b (Int.lt_of_le_of_lt (Int.ofNat_le.mpr q3) (by decide))) b fun h' pl' sb => ?_
  have kp : ∀ b o, b ≠ p.1 → b ≠ p.2 → h.get? b = some o → h'.get? b = some o := fun b o n1 _ e => (sb.2 b n1).trans e
  have hm : MIs an w.params ρ g h' p (.lst l') := ⟨q1, _, pl', by rw [Array.size_setIfInBounds]; exact q3, d⟩
  have la := hm.alive
  exact hQ h' _ (S.setM hp hm kp) (Ext.setM hp kp la.1 la.2)

theorem putAt_el {α : Type} {m : α} {n : Nat} {i : Int} {x : D} {σ : Sto} {r : α × Sto} (e : putAt m n i x σ = some r) {P' : Prop} (k : ∀ l l', σ[n]? = some (.lst l) → putIdx l i x = some l' → some (m, σ.set n (.lst l')) = some r → P') : P' :=
  atL_el e fun l hl e => omap1 e fun l' h e => k l l' hl h e
theorem Tgt_idx {o e : PySem.Expr} {mo me : E} {pos : Pos} (ho : SoundE prog w h₀ an Φ n sc vars o mo) (he : SoundE prog w h₀ an Φ n sc vars e me) : SoundTgt prog w h₀ an Φ n sc vars (.Subscript o e pos) (.idx mo me) := by
  intro env A Er s h tk g ρ σ m v val m' σ' Q hsc hfn R N S hv hd hQ
  rw [arm_assign_Subscript]
  have hd : den2 (E.den Φ m mo) (E.den Φ m me) (fun o u σ => o.onR fun n => u.onI fun j => v.onD fun x => putAt m n j x σ) σ = some (m', σ') := hd
  refine den2_el hd fun v1 σ1 v2 σ2 h1 h2 hd => wpAny_bind (wpAny_holding (ho hsc R N S h1 fun ov g1 ρ1 hh1 tk1 S1 X1 hv1 => wpAny_bind (wpAny_holding (he hsc R (N.ext X1 noW_env) S1 h2 fun iv g2 ρ2 hh2 tk2 S2 X2 hv2 => wpAny_bind (wpAny_standAt (wpAny_bind (wpAny_holding ?_)))))))
  refine onR_is (G := fun _ ov => wpAny (model prog w) A (setItem ov iv val) _ Er (sh s hh2 tk2)) (hv1.mono X2.gle X2.pre) hd fun i p hp hd => onI_is (G := fun _ iv => wpAny (model prog w) A (setItem (.ref p.1) iv val) _ Er (sh s hh2 tk2)) hv2 hd fun j t hd => ?_
  refine onD_is (G := fun v => IsV an w.params ρ g v val → _) hd (fun x hd hv => putAt_el hd fun l l' hs hput hd => ?_) hv
  refine setItem_sound S2 hp hs hput (IsD.mono (X1.trans X2).gle x hv) fun h' tk' S3 X3 => wpAny_release ?_
  have X := (X1.trans X2).trans X3
  exact (hQ.of hd) S3 X.env (N.ext X noW_env)

theorem assigns_sound {ts : List PySem.Expr} {mts : List Tgt} (H : All2 (SoundTgt prog w h₀ an Φ n sc vars) ts mts) : ∀ ⦃env : Env⦄ ⦃A : Around⦄ ⦃Er : Value → Shared → Prop⦄ ⦃s : Shared⦄ ⦃h : Heap⦄ ⦃tk : Nat⦄ ⦃g : G⦄ ⦃ρ : Rho⦄ ⦃σ : Sto⦄ ⦃m : Mem⦄ ⦃vs : List V⦄ ⦃vals : List Value⦄ ⦃m' : Mem⦄ ⦃σ' : Sto⦄ ⦃Q : Unit → Shared → Prop⦄, env.scope.names = sc → (env.func ≠ none ∨ ts.all (locTgt sc) = true) → Room A n →
    EnvOk an w.params env vars m g ρ h → St an w.params h₀ g ρ σ h → IsVs an w.params ρ g vs vals → putAll Φ mts vs (m, σ) = some (m', σ') → OutS an w.params h₀ env vars g ρ h s m' σ' (Q ()) →
    wpAny (model prog w) A (assignInOrder (ts.map fun t => assign t env) vals) Q Er (sh s h tk) := by
  induction H with
  | nil =>
    intro env A Er s h tk g ρ σ m vs vals m' σ' Q hsc hfn R N S hv hd hQ
    cases vs with
    | cons => exact noS hd
    | nil =>
      cases vals with
      | cons => exact False.elim hv
      | nil => exact wpAny_pure (hQ.of hd S Ext.rfl' N)
  | @cons t mt ts mts ht _ ih =>
    intro env A Er s h tk g ρ σ m vs vals m' σ' Q hsc hfn R N S hv hd hQ
    cases vs with
    | nil => exact noS hd
    | cons v vs =>
      cases vals with
      | nil => exact False.elim hv
      | cons val vals =>
        refine obind hd fun m1 σ1 h1 h2 => wpAny_bind (wpAny_holding (ht hsc (hfn.imp id fun q => (Bool.and_eq_true_iff.mp q).1) R N S hv.1 h1 fun g1 ρ1 hh1 tk1 S1 X1 N1 => ?_))
        exact ih hsc (hfn.imp id fun q => (Bool.and_eq_true_iff.mp q).2) R N1 S1 (hv.2.mono' X1.gle X1.pre) h2 (hQ.then X1)

theorem each_cons {env : Env} {t : PySem.Expr} {r : List PySem.Expr} (h : notStar t = true) : assignEach (t :: r) env = (false, assign t env) :: assignEach r env := by
  cases t with
  | Starred => exact Bool.noConfusion h
  | _ => rfl
theorem each_plain {env : Env} : ∀ {ts : List PySem.Expr}, ts.all notStar = true → assignEach ts env = ts.map fun t => (false, assign t env)
  | [], _ => rfl
  | t :: r, h => and_el (b := r.all notStar) h fun h1 h2 => (each_cons h1).trans (congrArg _ (each_plain h2))

theorem find_no_star {α : Type} (l : List PySem.Expr) (f : PySem.Expr → α) : (l.map fun t => (false, f t)).findIdx? (·.1) = none := by
  induction l with
  | nil => rfl
  | cons t r ih => simp only [List.map_cons, List.findIdx?_cons, ih]; rfl

theorem tupOf_is {v : V} {vs : List V} {val : Value} {ρ : Rho} {g : G} {Pm : Params} (e : tupOf v = some vs) (hv : IsV an Pm ρ g v val) :
    ∃ a ep items, val = .ref a ∧ g a = some { cls := .type "tuple", data := .seq items ep } ∧ items.size ≤ sizeLine ∧ IsVs an Pm ρ g vs items.toList := by
  cases v with
  | d x =>
    refine dT_is (G := fun x => IsD an Pm g x val → _) e (fun l e hv => ?_) hv
    obtain ⟨a, ep, items, hv, h1, h2, h3⟩ := hv
    exact ⟨a, ep, items, hv, h1, h2, Option.some.inj e ▸ isVs_of_ds h3⟩
  | tup l => exact Option.some.inj e ▸ hv
  | ref => exact noS e

theorem putAll_len : ∀ {ts : List Tgt} {vs : List V} {s s' : Mem × Sto}, putAll Φ ts vs s = some s' → ts.length = vs.length
  | [], [], _, _, _ => rfl
  | [], _ :: _, _, _, h => noS h
  | _ :: _, [], _, _, h => noS h
  | t :: ts, v :: vs, s, s', h => obind1 h fun a _ h2 => congrArg (· + 1) (putAll_len h2)

theorem assignTuple_sound {ts : List PySem.Expr} {mts : List Tgt} {k : Nat} {tp : Pos} (hst : ts.all notStar = true) (hts : All2 (SoundTgt prog w h₀ an Φ n sc vars) ts mts) {env : Env} {A : Around} {Er : Value → Shared → Prop} {s : Shared} {h : Heap} {tk : Nat} {g : G} {ρ : Rho} {σ : Sto} {m : Mem}
    {v : V} {vs : List V} {val : Value} {m' : Mem} {σ' : Sto} {Q : Unit → Shared → Prop} (hsc : env.scope.names = sc) (hfn : env.func ≠ none ∨ ts.all (locTgt sc) = true) (R : Room A n) (N : EnvOk an w.params env vars m g ρ h) (S : St an w.params h₀ g ρ σ h) (hv : IsV an w.params ρ g v val) (ht : tupOf v = some vs) (hd : putAll Φ mts vs (m, σ) = some (m', σ'))
    (hQ : OutS an w.params h₀ env vars g ρ h s m' σ' (Q ())) : wpAny (model prog w) A (assign (.Tuple ts k tp) env val) Q Er (sh s h tk) := by
  obtain ⟨a, ep, items, rfl, h1, h2, h3⟩ := tupOf_is ht hv
  have hl : vs.length = items.size := h3.length.trans Array.length_toList
  refine wpAny_assign_Tuple (s := sh s h tk) R.handled ⟨_, S.le _ _ h1, rfl, _, rfl⟩ (by rw [each_plain hst, List.length_map, hts.length, putAll_len hd, hl]) (by rw [each_plain hst]; exact find_no_star ts _) fun h' hx => ?_
  have kk : ∀ b o, h.get? b = some o → h'.get? b = some o := fun b o e => hx b o (Nat.ne_of_lt (Heap.lt_size e)) e
  rw [each_plain hst, List.map_map]
  have X0 : Ext noW g ρ h g ρ h' := Ext.keeps kk
  exact assigns_sound hts (s := s) (h := h') (tk := tk) hsc hfn R (N.ext X0 noW_env) (S.keeps kk) h3 hd (hQ.thenE X0)

noncomputable def env0 (sc : List (Str × NameKind)) : Env := { scope := { kind := .function, names := sc, isGenerator := false, isCoroutine := false }, locals := 0, globals := 0, cells := [] }
theorem swap_env {env : Env} {targets : List PySem.Expr} {value : PySem.Expr} (hsc : env.scope.names = sc) (hk : env.scope.kind = .function) : swappedStores targets value env = swappedStores targets value (env0 sc) := by
  have h1 : env.blockKind = (env0 sc).blockKind := by unfold Env.blockKind; rw [hk]; rfl
  have h2 : env.kindOf = (env0 sc).kindOf := by unfold Env.kindOf; rw [hsc]; rfl
  unfold swappedStores
  rw [h1, h2]
noncomputable def onPure {α : Type} (x : Sem α) (f : α → Bool) : Bool := if h : x.ctorIdx = 0 then @Sem.pure.elim α (fun _ => Bool) x h f else false
theorem onPure_el {α : Type} {x : Sem α} {f : α → Bool} (h : onPure x f = true) : ∃ a, x = pure a ∧ f a = true := by
  by_cases hc : x.ctorIdx = 0
  · exact @Sem.pure.elim α (fun x => ∀ hc, @Sem.pure.elim α (fun _ => Bool) x hc f = true → ∃ a, x = pure a ∧ f a = true) x hc (fun a _ h => ⟨a, rfl, h⟩) hc ((dif_pos hc).symm.trans h)
  · exact Bool.noConfusion ((dif_neg hc).symm.trans h)
end

noncomputable def FlwIs (an : Nat → Str) (P : Params) (ρ : Rho) (g : G) : Flw → Flow → Prop
  | .next, f => f = .next
  | .ret v, f => ∃ val, f = .ret val ∧ IsV an P ρ g v val
theorem FlwIs.mono {an : Nat → Str} {P : Params} {ρ ρ' : Rho} {g g' : G} (hg : ∀ b o, g b = some o → g' b = some o) (hr : ∀ (i : Nat) p, ρ[i]? = some p → ρ'[i]? = some p) {f : Flw} {f' : Flow} (x : FlwIs an P ρ g f f') : FlwIs an P ρ' g' f f' := by
  cases f with
  | next => exact x
  | ret v => obtain ⟨val, a, b⟩ := x; exact ⟨val, a, b.mono hg hr⟩

noncomputable def OutF (an : Nat → Str) (P : Params) (h₀ : Heap) (env : Env) (vars : List Str) (g : G) (ρ : Rho) (h : Heap) (s : Shared) (flw : Flw) (m' : Mem) (σ' : Sto) (Q : Flow → Shared → Prop) : Prop :=
  ∀ ⦃f g' ρ' h' tk⦄, St an P h₀ g' ρ' σ' h' → Ext (EnvW env) g ρ h g' ρ' h' → EnvOk an P env vars m' g' ρ' h' → FlwIs an P ρ' g' flw f → Q f (sh s h' tk)
section
variable (prog : Program) (w : World) (h₀ : Heap) (an : Nat → Str) (Φ : Tab) (n : Nat) (sc : List (Str × NameKind)) (vars : List Str)
noncomputable def SoundS (c : Stmt) (mc : S) : Prop :=
  ∀ ⦃env : Env⦄ ⦃A : Around⦄ ⦃Er : Value → Shared → Prop⦄ ⦃s : Shared⦄ ⦃h : Heap⦄ ⦃tk : Nat⦄ ⦃g : G⦄ ⦃ρ : Rho⦄ ⦃σ : Sto⦄ ⦃m : Mem⦄ ⦃flw : Flw⦄ ⦃m' : Mem⦄ ⦃σ' : Sto⦄ ⦃Q : Flow → Shared → Prop⦄, env.scope.names = sc → env.func ≠ none → Room A n →
    EnvOk an w.params env vars m g ρ h → St an w.params h₀ g ρ σ h → S.den Φ mc (m, σ) = some (flw, m', σ') → OutF an w.params h₀ env vars g ρ h s flw m' σ' Q →
    wpAny (model prog w) A (exec c env) Q Er (sh s h tk)
noncomputable def SoundB (c : List Stmt) (mc : List S) : Prop :=
  ∀ ⦃env : Env⦄ ⦃A : Around⦄ ⦃Er : Value → Shared → Prop⦄ ⦃s : Shared⦄ ⦃h : Heap⦄ ⦃tk : Nat⦄ ⦃g : G⦄ ⦃ρ : Rho⦄ ⦃σ : Sto⦄ ⦃m : Mem⦄ ⦃flw : Flw⦄ ⦃m' : Mem⦄ ⦃σ' : Sto⦄ ⦃Q : Flow → Shared → Prop⦄, env.scope.names = sc → env.func ≠ none → Room A n →
    EnvOk an w.params env vars m g ρ h → St an w.params h₀ g ρ σ h → S.dens Φ mc (m, σ) = some (flw, m', σ') → OutF an w.params h₀ env vars g ρ h s flw m' σ' Q →
    wpAny (model prog w) A (execs c env) Q Er (sh s h tk)
end

section
variable {prog : Program} {w : World} {K : Frag} {h₀ : Heap} {an : Nat → Str} {Φ : Tab} {n : Nat} {sc : List (Str × NameKind)} {vars : List Str}

section
variable {env : Env} {m m' : Mem} {σ σ' : Sto} {g g1 : G} {ρ ρ1 : Rho} {h h1 : Heap} {s : Shared} {flw f1 : Flw} {Q : Flow → Shared → Prop} {Pm : Params}
theorem OutF.of (hQ : OutF an Pm h₀ env vars g ρ h s flw m' σ' Q) (e : some (f1, m, σ) = some (flw, m', σ')) : OutF an Pm h₀ env vars g ρ h s f1 m σ Q := by
  cases e; exact hQ
theorem OutF.then (hQ : OutF an Pm h₀ env vars g ρ h s flw m' σ' Q) (X : Ext (EnvW env) g ρ h g1 ρ1 h1) : OutF an Pm h₀ env vars g1 ρ1 h1 s flw m' σ' Q :=
  fun _ _ _ _ _ S' X' N' hf => hQ S' (X.trans X') N' hf
theorem OutF.next (hQ : OutF an Pm h₀ env vars g ρ h s .next m' σ' Q) : OutS an Pm h₀ env vars g ρ h s m' σ' (Q .next) :=
  fun _ _ _ _ S' X' N' => hQ S' X' N' rfl
theorem OutF.nexts {r : Option (Mem × Sto)} (hQ : OutF an Pm h₀ env vars g ρ h s flw m' σ' Q) (e : nexts r = some (flw, m', σ')) {P' : Prop} (k : ∀ m σ, r = some (m, σ) → OutS an Pm h₀ env vars g ρ h s m σ (Q .next) → P') : P' :=
  omap e fun m σ h e => k m σ h (hQ.of e).next
end

theorem B_nil : SoundB prog w h₀ an Φ n sc vars [] [] := by
  intro env A Er s h tk g ρ σ m flw m' σ' Q hsc hfn R N S hd hQ
  exact wpAny_execs_nil (hQ.of hd S Ext.rfl' N rfl)
theorem B_cons {c : Stmt} {mc : S} {r : List Stmt} {mr : List S} (hc : SoundS prog w h₀ an Φ n sc vars c mc) (hr : SoundB prog w h₀ an Φ n sc vars r mr) : SoundB prog w h₀ an Φ n sc vars (c :: r) (mc :: mr) := by
  intro env A Er s h tk g ρ σ m flw m' σ' Q hsc hfn R N S hd hQ
  refine obind hd fun f1 p h1 hd => wpAny_execs_cons (hc hsc hfn R N S h1 fun f g1 ρ1 hh1 tk1 S1 X1 N1 hf => ?_)
  cases f1 with
  | next => exact (show f = .next from hf) ▸ hr hsc hfn R N1 S1 hd (hQ.then X1)
  | ret v =>
    obtain ⟨val, hf, hv⟩ := hf
    exact hf ▸ hQ.of hd S1 X1 N1 ⟨val, rfl, hv⟩

theorem S_ret {e : PySem.Expr} {me : E} {pos : Pos} (he : SoundE prog w h₀ an Φ n sc vars e me) : SoundS prog w h₀ an Φ n sc vars (.Return (some e) pos) (.ret me) := by
  intro env A Er s h tk g ρ σ m flw m' σ' Q hsc hfn R N S hd hQ
  have hd : den1 (E.den Φ m me) (fun v σ => some (.ret v, m, σ)) σ = some (flw, m', σ') := hd
  refine den1_el hd fun v1 σ1 h1 hd => wpAny_Return_some (he hsc R N S h1 fun val g1 ρ1 hh1 tk1 S1 X1 hv => ?_)
  exact hQ.of hd S1 X1.env (N.ext X1 noW_env) ⟨val, rfl, hv⟩

noncomputable def notComp (e : PySem.Expr) : Bool := !(e.ctorIdx == 8 || (e.ctorIdx == 9 || e.ctorIdx == 10))
theorem swaps_no {value : PySem.Expr} {t : Option PySem.Expr} {line : Nat} {env : Env} (h : notComp value = true) : swapsWith value t line env = pure false := by
  cases value with
  | ListComp => exact Bool.noConfusion h
  | SetComp => exact Bool.noConfusion h
  | DictComp => exact Bool.noConfusion h
  | _ => rfl
theorem S_expr {e : PySem.Expr} {me : E} {pos : Pos} (hc : notComp e = true) (he : SoundE prog w h₀ an Φ n sc vars e me) : SoundS prog w h₀ an Φ n sc vars (.Expr e pos) (.expr me) := by
  intro env A Er s h tk g ρ σ m flw m' σ' Q hsc hfn R N S hd hQ
  have hd : den1 (E.den Φ m me) (fun _ σ => some (.next, m, σ)) σ = some (flw, m', σ') := hd
  refine den1_el hd fun v1 σ1 h1 hd => wpAny_Expr_any (he hsc R N S h1 fun val g1 ρ1 hh1 tk1 S1 X1 hv => ?_) ?_ (swaps_no hc)
  · exact hQ.of hd S1 X1.env (N.ext X1 noW_env) rfl
  · unfold interactive; rw [N.kind]; rfl

theorem S_ite {e : PySem.Expr} {me : E} {a b : List Stmt} {ma mb : List S} {pos : Pos} (he : SoundT prog w h₀ an Φ n sc vars e me) (ha : SoundB prog w h₀ an Φ n sc vars a ma) (hb : SoundB prog w h₀ an Φ n sc vars b mb) :
    SoundS prog w h₀ an Φ n sc vars (.If e a b pos) (.ite me ma mb) := by
  intro env A Er s h tk g ρ σ m flw m' σ' Q hsc hfn R N S hd hQ
  have hd : den1 (E.den Φ m me) (fun v σ => v.onB fun t => if t then Mine.S.dens Φ ma (m, σ) else Mine.S.dens Φ mb (m, σ)) σ = some (flw, m', σ') := hd
  refine den1_el hd fun v1 σ1 h1 hd => onB_el (G := fun v => E.den Φ m me σ = some (v, σ1) → _) hd (fun t hd h1 => wpAny_If (he hsc R N S h1 fun g1 ρ1 hh1 tk1 S1 X1 => ?_)) h1
  cases t with
  | true => exact ha hsc hfn R (N.ext X1 noW_env) S1 hd (hQ.then X1.env)
  | false => exact hb hsc hfn R (N.ext X1 noW_env) S1 hd (hQ.then X1.env)

theorem sole_no {t value : PySem.Expr} {line : Nat} {env : Env} (h : notComp value = true) : swapsWithSole [t] value line env = pure false := swaps_no h

theorem S_assign1' {t e : PySem.Expr} {mt : Tgt} {me : E} {pos : Pos} {env : Env} (hsw : swapsWithSole [t] e pos.line env = pure false) (hnt : swappedStores [t] e (env0 sc) = pure none) (hst : notStar t = true)
    (ht : SoundTgt prog w h₀ an Φ n sc vars t mt) (he : SoundE prog w h₀ an Φ n sc vars e me) {A : Around} {Er : Value → Shared → Prop} {s : Shared} {h : Heap} {tk : Nat} {g : G} {ρ : Rho} {σ : Sto} {m : Mem} {flw : Flw} {m' : Mem} {σ' : Sto} {Q : Flow → Shared → Prop} (hsc : env.scope.names = sc) (hfn : env.func ≠ none) (R : Room A n)
    (N : EnvOk an w.params env vars m g ρ h) (S : St an w.params h₀ g ρ σ h) (hd : Mine.S.den Φ (.assign false [mt] me) (m, σ) = some (flw, m', σ')) (hQ : OutF an w.params h₀ env vars g ρ h s flw m' σ' Q) :
    wpAny (model prog w) A (exec (.Assign [t] e pos) env) Q Er (sh s h tk) := by
  have hd : den1 (E.den Φ m me) (fun v σ => (some [v]).bind fun vs => Mine.nexts (putAll Φ [mt] vs (m, σ))) σ = some (flw, m', σ') := hd
  refine den1_el hd fun v1 σ1 h1 hd => obind1 hd fun vs hvs hd => hQ.nexts hd fun m2 σ2 hput hQ => wpAny_Assign_stores (he hsc R N S h1 fun val g1 ρ1 hh1 tk1 S1 X1 hv => ?_) hsw ((swap_env hsc N.kind).trans hnt)
  cases hvs
  rw [each_plain (ts := [t]) ((Bool.and_true _).trans hst)]
  exact obind hput fun m3 σ3 hput hr => ht hsc (.inl hfn) R (N.ext X1 noW_env) S1 hv hput ((hQ.of hr).thenE X1)

theorem S_assignT {ts : List PySem.Expr} {e : PySem.Expr} {mts : List Tgt} {me : E} {k : Nat} {tp pos : Pos} (hc : notComp e = true) (hnt : swappedStores [.Tuple ts k tp] e (env0 sc) = pure none) (hst : ts.all notStar = true)
    (ht : All2 (SoundTgt prog w h₀ an Φ n sc vars) ts mts) (he : SoundE prog w h₀ an Φ n sc vars e me) : SoundS prog w h₀ an Φ n sc vars (.Assign [.Tuple ts k tp] e pos) (.assign true mts me) := by
  intro env A Er s h tk g ρ σ m flw m' σ' Q hsc hfn R N S hd hQ
  have hd : den1 (E.den Φ m me) (fun v σ => (tupOf v).bind fun vs => Mine.nexts (putAll Φ mts vs (m, σ))) σ = some (flw, m', σ') := hd
  refine den1_el hd fun v1 σ1 h1 hd => obind1 hd fun vs hvs hd => hQ.nexts hd fun m2 σ2 hput hQ => wpAny_Assign_stores (he hsc R N S h1 fun val g1 ρ1 hh1 tk1 S1 X1 hv => ?_) (sole_no hc) ((swap_env hsc N.kind).trans hnt)
  exact assignTuple_sound (k := k) (tp := tp) hst ht hsc (.inl hfn) R (N.ext X1 noW_env) S1 hv hvs hput (hQ.thenE X1)

theorem binds_sound {env : Env} {A : Around} {Er : Value → Shared → Prop} (hsc : env.scope.names = sc) (hfn : env.func ≠ none) : ∀ (xs : List (Nat × Str)) {s : Shared} {h : Heap} {tk : Nat} {g : G} {ρ : Rho} {σ : Sto} {m : Mem} {vs : List V} {vals : List Value} {Q : Unit → Shared → Prop}, (∀ p ∈ xs, vars[p.1]? = some p.2 ∧ sc.lookup p.2 ≠ some .free) → xs.length = vs.length →
    EnvOk an w.params env vars m g ρ h → St an w.params h₀ g ρ σ h → IsVs an w.params ρ g vs vals → (∀ h' tk, St an w.params h₀ g ρ σ h' → Ext (EnvW env) g ρ h g ρ h' → EnvOk an w.params env vars ((xs.zip vs).foldl (fun m p => m.set p.1.1 (some p.2)) m) g ρ h' → Q () (sh s h' tk)) →
    wpAny (model prog w) A (assignInOrder (xs.map fun p => bindName env p.2) vals) Q Er (sh s h tk)
  | [], s, h, tk, g, ρ, σ, m, vs, vals, Q, _, hl, N, S, hv, hQ => by
    cases vs with
    | cons => cases hl
    | nil =>
      cases vals with
      | cons => exact False.elim hv
      | nil => exact wpAny_pure (hQ _ _ S Ext.rfl' N)
  | x :: xs, s, h, tk, g, ρ, σ, m, vs, vals, Q, hx, hl, N, S, hv, hQ => by
    cases vs with
    | nil => cases hl
    | cons v vs =>
      cases vals with
      | nil => exact False.elim hv
      | cons val vals =>
        obtain ⟨hx1, hx2⟩ := hx x List.mem_cons_self
        refine wpAny_bind (wpAny_holding (wpAny_bindName (store_sound N S hx1 (by show env.scope.names.lookup _ ≠ _; rw [hsc]; exact hx2) (.inl hfn) hv.1 fun h1 tk1 S1 X1 N1 => ?_)))
        exact binds_sound hsc hfn xs (fun p hp => hx p (List.mem_cons_of_mem _ hp)) (Nat.succ.inj hl) N1 S1 hv.2 fun h2 tk2 S2 X2 N2 => hQ _ _ S2 (X1.trans X2) N2

theorem putAll_vars : ∀ {is : List Nat} {vs : List V} {m m' : Mem} {σ σ' : Sto}, putAll Φ (is.map .var) vs (m, σ) = some (m', σ') → is.length = vs.length ∧ σ' = σ ∧ m' = (is.zip vs).foldl (fun m p => m.set p.1 (some p.2)) m
  | [], [], _, _, _, _, h => by cases h; exact ⟨rfl, rfl, rfl⟩
  | [], _ :: _, _, _, _, _, h => noS h
  | _ :: _, [], _, _, _, _, h => noS h
  | i :: is, v :: vs, m, m', σ, σ', h => by
    obtain ⟨a, b, c⟩ := putAll_vars (is := is) (vs := vs) (m := m.set i (some v)) (σ := σ) h
    exact ⟨congrArg (· + 1) a, b, c⟩

theorem IsVs.rev {g : G} {ρ : Rho} {Pm : Params} : ∀ {l : List V} {l' : List Value}, IsVs an Pm ρ g l l' → IsVs an Pm ρ g l.reverse l'.reverse
  | [], [], _ => trivial
  | [], _ :: _, h => False.elim h
  | _ :: _, [], h => False.elim h
  | v :: r, u :: r', h => by
    rw [List.reverse_cons, List.reverse_cons]
    exact (IsVs.rev h.2).append' ⟨h.1, trivial⟩
theorem swap_mem {is : List Nat} {xs : List Str} {us : List V} {m : Mem} (hlen : (∃ i j, is = [i, j] ∧ i ≠ j ∧ xs.length = 2) ∨ (∃ i j l, is = [i, j, l] ∧ i ≠ j ∧ i ≠ l ∧ j ≠ l ∧ xs.length = 3)) (hl : is.length = us.length) :
    ((is.zip xs).reverse.zip us.reverse).foldl (fun m p => m.set p.1.1 (some p.2)) m = (is.zip us).foldl (fun m p => m.set p.1 (some p.2)) m := by
  rcases hlen with ⟨i, j, rfl, hij, h⟩ | ⟨i, j, l, rfl, hij, hil, hjl, h⟩
  · match xs, us, h, hl with
    | [x, y], [u, v], _, _ => exact List.set_comm _ _ (Ne.symm hij)
  · match xs, us, h, hl with
    | [x, y, z], [u, v, t], _, _ =>
      show ((m.set l (some t)).set j (some v)).set i (some u) = ((m.set i (some u)).set j (some v)).set l (some t)
      rw [List.set_comm (some t) (some v) (Ne.symm hjl), List.set_comm (some t) (some u) (Ne.symm hil), List.set_comm (some v) (some u) (Ne.symm hij)]
theorem S_assignSw {ts vs : List PySem.Expr} {is : List Nat} {xs : List Str} {me : E} {k k' : Nat} {tp vp pos : Pos} (hnt : swappedStores [.Tuple ts k tp] (.Tuple vs k' vp) (env0 sc) = pure (some xs)) (hx : ∀ p ∈ is.zip xs, vars[p.1]? = some p.2 ∧ sc.lookup p.2 ≠ some .free)
    (hlen : (∃ i j, is = [i, j] ∧ i ≠ j ∧ xs.length = 2) ∨ (∃ i j l, is = [i, j, l] ∧ i ≠ j ∧ i ≠ l ∧ j ≠ l ∧ xs.length = 3)) (he : SoundE prog w h₀ an Φ n sc vars (.Tuple vs k' vp) me) :
    SoundS prog w h₀ an Φ n sc vars (.Assign [.Tuple ts k tp] (.Tuple vs k' vp) pos) (.assign true (is.map .var) me) := by
  intro env A Er s h tk g ρ σ m flw m' σ' Q hsc hfn R N S hd hQ
  have hd : den1 (E.den Φ m me) (fun v σ => (tupOf v).bind fun vs => Mine.nexts (putAll Φ (is.map .var) vs (m, σ))) σ = some (flw, m', σ') := hd
  refine den1_el hd fun v1 σ1 h1 hd => obind1 hd fun us hvs hd => hQ.nexts hd fun m2 σ2 hput hQ => ?_
  obtain ⟨hl, rfl, rfl⟩ := putAll_vars hput
  rw [exec_Assign_arm]
  refine wpAny_bind (wpAny_standAt ?_)
  rw [sole_no rfl]
  refine wpAny_bind (wpAny_pure ?_)
  rw [if_neg (by decide)]
  refine wpAny_bind (he hsc R N S h1 fun val g1 ρ1 hh1 tk1 S1 X1 hv => ?_)
  rw [swap_env hsc N.kind, hnt]
  refine wpAny_bind (wpAny_pure ?_)
  obtain ⟨a, ep, items, rfl, q1, q2, q3⟩ := tupOf_is hvs hv
  have hl' : us.length = items.size := q3.length.trans Array.length_toList
  have hisx : is.length = xs.length := by
    rcases hlen with ⟨i, j, rfl, _, h⟩ | ⟨i, j, l, rfl, _, _, _, h⟩ <;> exact h.symm
  have hxl : xs.length = items.size := hisx.symm.trans (hl.trans hl')
  unfold assignStores
  refine wpAny_bind (wpAny_rule (wpAny_bind ?_))
  rw [hxl]
  refine wpAny_unpackItems_tuple (s := sh s hh1 tk1) R.handled ⟨_, S1.le _ _ q1, rfl, _, rfl⟩ fun h' hx' => ?_
  have kk : ∀ b o, hh1.get? b = some o → h'.get? b = some o := fun b o e => hx' b o (Nat.ne_of_lt (Heap.lt_size e)) e
  have X0 : Ext noW g1 ρ1 hh1 g1 ρ1 h' := Ext.keeps kk
  have hz : (xs.reverse.map fun x => bindName env x) = ((is.zip xs).reverse.map fun p => bindName env p.2) := by
    have : xs = (is.zip xs).map (·.2) := (List.map_snd_zip (Nat.le_of_eq hisx.symm)).symm
    rw [List.map_reverse, List.map_reverse]
    conv => lhs; rw [this]
    rw [List.map_map]; rfl
  show wpAny _ A (assignInOrder (xs.reverse.map fun x => bindName env x) items.toList.reverse >>= fun _ => pure Flow.next) _ _ _
  rw [hz]
  refine wpAny_bind (binds_sound (s := s) (h := h') (tk := tk1) hsc hfn (is.zip xs).reverse (fun p hp => hx p (List.mem_reverse.mp hp)) (by rw [List.length_reverse, List.length_reverse, List.length_zip, ← hisx, Nat.min_self, hl]) ((N.ext X1 noW_env).ext X0 noW_env) (S1.keeps kk) q3.rev fun h2 tk2 S2 X2 N2 => wpAny_pure ?_)
  rw [swap_mem hlen hl] at N2
  exact hQ S2 ((X1.trans X0).env.trans X2) N2
end

noncomputable def Kept (wr : List Addr) (h h' : Heap) : Prop := ∀ b o, b ∉ wr → h.get? b = some o → h'.get? b = some o
structure Turns (prog : Program) (w : World) (A : Around) (it : Value) (fp wr : List Addr) (n : Nat) (tgt : PySem.Expr) (I : Nat → Heap → Prop) (Has : Nat → Value → Heap → Prop) : Prop where
  sub : ∀ b ∈ wr, b ∈ fp
  live : ∀ i h, I i h → ∀ b ∈ fp, ∃ o, h.get? b = some o
  frame : ∀ i h h', I i h → (∀ b ∈ fp, ∀ o, h.get? b = some o → h'.get? b = some o) → I i h'
  step : ∀ i (s : Shared) (h : Heap) (tk : Nat) (Q : Option Value → Shared → Prop) (Er : Value → Shared → Prop), i < n → I i h →
    (∀ v h' tk, Kept wr h h' →
      (∀ (Q' : Unit → Shared → Prop) (Er' : Value → Shared → Prop), (∀ h'', I (i + 1) h'' → Has i v h'' → Kept wr h' h'' → Q' () (sh s h'' tk)) → wpAny (model prog w) A (letOwnedTupleGo tgt it v) Q' Er' (sh s h' tk)) →
      Q (some v) (sh s h' tk)) → wpAny (model prog w) A (pyNext it) Q Er (sh s h tk)
  done : ∀ (s : Shared) (h : Heap) (tk : Nat) (Q : Option Value → Shared → Prop) (Er : Value → Shared → Prop), I n h →
    (∀ h' tk, Kept wr h h' → Q none (sh s h' tk)) → wpAny (model prog w) A (pyNext it) Q Er (sh s h tk)
  self : ∀ i (s : Shared) (h : Heap) (tk : Nat) (Q : Value → Shared → Prop) (Er : Value → Shared → Prop), I i h → Q it (sh s h tk) → wpAny (model prog w) A (pyIter it) Q Er (sh s h tk)

section
variable {prog : Program} {w : World} {A : Around}

theorem Turns.ofWalks {I : Addr} {fp wr : List Addr} {n : Nat} {P : Nat → Value → Prop} {St : Nat → Heap → Prop} {tgt : PySem.Expr} {Has : Nat → Value → Heap → Prop} (W : Walks prog w A I fp wr n P St) (live : ∀ i h, St i h → ∀ b ∈ fp, ∃ o, h.get? b = some o)
    (hgo : ∀ i s (v : Value) (Q : Unit → Shared → Prop) (Er : Value → Shared → Prop), St (i + 1) s.heap → P i v → Q () s → wpAny (model prog w) A (letOwnedTupleGo tgt (.ref I) v) Q Er s) (hh : ∀ i v h, P i v → Has i v h) : Turns prog w A (.ref I) fp wr n tgt St Has where
  sub := W.sub
  live := live
  frame := W.frame
  step i s h tk Q Er hi st hQ := W.item i (sh s h tk) Q Er hi st fun v h' tk hP hs hk => hQ v h' tk hk fun Q' Er' h'' => hgo i _ v Q' Er' hs hP (h'' _ hs (hh _ _ _ hP) fun _ _ _ e => e)
  done s h tk Q Er := W.done (sh s h tk) Q Er
  self i s h tk Q Er := W.self i (sh s h tk) Q Er

theorem Turns.ofWalksT {I : Addr} {fp wr : List Addr} {n : Nat} {P : Nat → Array Value → Prop} {St : Nat → Heap → Prop} {Mid : Nat → Addr → Heap → Prop} {elts : List PySem.Expr} {k : Nat} {tp : Pos} {Has : Nat → Value → Heap → Prop} (W : WalksT prog w A I fp wr n P St Mid) (live : ∀ i h, St i h → ∀ b ∈ fp, ∃ o, h.get? b = some o)
    (hh : ∀ i T vals h, P i vals → h.IsTuple T vals → Has i (.ref T) h) : Turns prog w A (.ref I) fp wr n (.Tuple elts k tp) St Has where
  sub := W.sub
  live := live
  frame := W.frame
  step i s h tk Q Er hi st hQ := W.item i (sh s h tk) Q Er hi st fun T vals h' tk hP _ hT hm hk => hQ (.ref T) h' tk hk fun Q' Er' h'' =>
    W.go elts k tp i T _ Q' Er' hm fun h2 hs hk2 => h'' h2 hs (hh _ _ _ _ hP (hT.at fun o e => hk2 _ o (W.apart _ _ _ hm) e)) hk2
  done s h tk Q Er := W.done (sh s h tk) Q Er
  self i s h tk Q Er := W.self i (sh s h tk) Q Er

theorem letOwned_tupiter {elts : List PySem.Expr} {x1} {pos : Pos} {I l T : Addr} {i : Nat} {Er : Value → Shared → Prop} {s : Shared} {Q : Unit → Shared → Prop} (hit : s.heap.IsTupleIter I l i) (hQ : Q () s) :
    wpAny (model prog w) A (letOwnedTupleGo (.Tuple elts x1 pos) (.ref I) (.ref T)) Q Er s := by
  obtain ⟨o, ho, hc, hd⟩ := hit
  unfold letOwnedTupleGo
  refine wpAny_bind (wpAny_load ho ?_)
  rw [hc, hd]
  show wpAny _ A (if (["enumerate", "zip", "dict_itemiterator", "dict_reverseitemiterator", "odict_iterator", "itertools.zip_longest", "itertools.pairwise"].contains "tuple_iterator" &&
      (#[.ref l, .int i 0] : Array Value)[0]? == some (rawInt T)) = true then _ else _) Q Er s
  rw [if_neg (by
    intro h
    rw [show (["enumerate", "zip", "dict_itemiterator", "dict_reverseitemiterator", "odict_iterator", "itertools.zip_longest", "itertools.pairwise"].contains "tuple_iterator") = false from by decide, Bool.false_and] at h
    cases h)]
  exact wpAny_pure hQ
end

structure LS (an : Nat → Str) (P : Params) (h₀ : Heap) (env : Env) (vars : List Str) (g₀ : G) (ρ₀ : Rho) (hB : Heap) (fp wr : List Addr) (m : Mem) (σ : Sto) (g : G) (ρ : Rho) (h : Heap) : Prop where
  st : St an P h₀ g ρ σ h
  ev : EnvOk an P env vars m g ρ h
  ext : Ext (EnvW env) g₀ ρ₀ hB g ρ h
  safe : ∀ b ∈ fp, ¬ InMut ρ b ∧ ¬ EnvR env b
  off : ∀ b ∈ wr, g b = none
  fresh : ∀ b ∈ wr, hB.get? b = none
  sub : ∀ b ∈ wr, b ∈ fp

section
variable {an : Nat → Str} {P : Params} {h₀ : Heap} {env : Env} {vars : List Str} {g₀ g g' : G} {ρ₀ ρ ρ' : Rho} {hB h h' : Heap} {fp wr : List Addr} {m m' : Mem} {σ σ' : Sto}

theorem EnvOk.keeps (N : EnvOk an P env vars m g ρ h) (k : ∀ b o, EnvR env b → h.get? b = some o → h'.get? b = some o) : EnvOk an P env vars m g ρ h' := by
  obtain ⟨mr, hn, hm⟩ := N.ns
  obtain ⟨oL, es, ep, hL, r⟩ := id hn
  refine ⟨N.kind, N.globals, N.builtins, N.nodup, ⟨mr, ⟨oL, es, ep, k _ _ (.inl rfl) hL, r⟩, hm⟩, fun i x e1 e2 => ?_, N.known, N.loff, N.coff, N.apart, fun x c e => ?_⟩
  · obtain ⟨c, ov, q1, ⟨oc, q2, q2'⟩, q3⟩ := N.cell i x e1 e2
    exact ⟨c, ov, q1, ⟨oc, k _ _ (.inr ⟨x, q1⟩) q2, q2'⟩, q3⟩
  · obtain ⟨oc, ho⟩ := N.calive x c e
    exact ⟨oc, k _ _ (.inr ⟨x, e⟩) ho⟩

theorem LS.wrote (L : LS an P h₀ env vars g₀ ρ₀ hB fp wr m σ g ρ h) (k : ∀ b o, b ∉ wr → h.get? b = some o → h'.get? b = some o) : LS an P h₀ env vars g₀ ρ₀ hB fp wr m σ g ρ h' where
  st := L.st.step (fun _ _ e => e) (fun b o e => k b o (fun q => by rw [L.off b q] at e; cases e) (L.st.le b o e)) L.st.off fun b o mb e => k b o (fun q => (L.safe b (L.sub b q)).1 mb) e
  ev := L.ev.keeps fun b o we e => k b o (fun q => (L.safe b (L.sub b q)).2 we) e
  ext := { L.ext with
    keep := fun b o e w mm => k b o (fun q => by rw [L.fresh b q] at e; cases e) (L.ext.keep b o e w mm)
    live := fun b o e => by
      obtain ⟨o', e'⟩ := L.ext.live b o e
      exact ⟨o', k b o' (fun q => by rw [L.fresh b q] at e; cases e) e'⟩ }
  safe := L.safe
  off := L.off
  fresh := L.fresh
  sub := L.sub
theorem LS.body (L : LS an P h₀ env vars g₀ ρ₀ hB fp wr m σ g ρ h) (al : ∀ b ∈ fp, ∃ o, h.get? b = some o) (X : Ext (EnvW env) g ρ h g' ρ' h') (S' : St an P h₀ g' ρ' σ' h') (N' : EnvOk an P env vars m' g' ρ' h') : LS an P h₀ env vars g₀ ρ₀ hB fp wr m' σ' g' ρ' h' where
  st := S'
  ev := N'
  ext := L.ext.trans X
  safe b hb := by
    refine ⟨fun q => ?_, (L.safe b hb).2⟩
    obtain ⟨o, e⟩ := al b hb
    rcases X.mnew b q with q | q
    · exact (L.safe b hb).1 q
    · rw [e] at q; cases q
  off b hb := by
    cases e : g' b with
    | none => rfl
    | some o =>
      obtain ⟨o', e'⟩ := al b (L.sub b hb)
      rcases X.gnew b o e with ⟨o'', q⟩ | q
      · rw [L.off b hb] at q; cases q
      · rw [e'] at q; cases q
  fresh := L.fresh
  sub := L.sub
theorem LS.kept (L : LS an P h₀ env vars g₀ ρ₀ hB fp wr m σ g ρ h) (X : Ext (EnvW env) g ρ h g' ρ' h') : ∀ b ∈ fp, ∀ o, h.get? b = some o → h'.get? b = some o := fun b hb o e => X.keep b o e (fun q => (L.safe b hb).2 q.r) (L.safe b hb).1
end

noncomputable def noTab : Tab := ⟨fun _ _ _ => none, fun _ _ => none, fun _ _ => none, fun _ => none, fun _ => false, fun _ _ => false⟩
noncomputable def HasOf (an : Nat → Str) (P : Params) (kind : Nat) (g : G) (items : List D) (i : Nat) (v : Value) (h : Heap) : Prop :=
  if kind = 1 then ∃ T t x, v = .ref T ∧ h.IsTuple T #[.int (i : Int) t, x] ∧ ∀ d, items[i]? = some d → IsD an P g d x
  else ∀ d, items[i]? = some d → IsD an P g d v

noncomputable def TgtOk (sc : List (Str × NameKind)) (vars : List Str) (many : Bool) (ts : List Nat) (tgt : PySem.Expr) : Prop := match many with
  | false => ∃ i x p, ts = [i] ∧ tgt = .Name x p ∧ vars[i]? = some x ∧ sc.lookup x ≠ some .free
  | true => ∃ (xs : List (Str × Pos)) (k : Nat) (p : Pos), tgt = .Tuple (xs.map fun p => .Name p.1 p.2) k p ∧ All2 (fun (p : Str × Pos) i => vars[i]? = some p.1 ∧ sc.lookup p.1 ≠ some .free) xs ts

noncomputable def locs (sc : List (Str × NameKind)) (t : PySem.Expr) : Bool := cond (t.ctorIdx == 25) (onTuple t fun es _ _ => es.all (locTgt sc)) (locTgt sc t)
section
variable {prog : Program} {w : World} {K : Frag} {h₀ : Heap} {an : Nat → Str} {Φ : Tab} {n : Nat} {sc : List (Str × NameKind)} {vars : List Str}

theorem names_notStar : ∀ {xs : List (Str × Pos)}, (xs.map (fun p => PySem.Expr.Name p.1 p.2)).all notStar = true
  | [] => rfl
  | x :: xs => names_notStar (xs := xs)
theorem names_tgts {xs : List (Str × Pos)} {ts : List Nat} (h : All2 (fun (p : Str × Pos) i => vars[i]? = some p.1 ∧ sc.lookup p.1 ≠ some .free) xs ts) :
    All2 (SoundTgt prog w h₀ an Φ n sc vars) (xs.map (fun p => .Name p.1 p.2)) (ts.map .var) := by
  induction h with
  | nil => exact .nil
  | cons h _ ih => exact .cons (Tgt_var h.1 h.2) ih
theorem putAll_set : ∀ {ts : List Nat} {l : List D} {m : Mem} {σ : Sto}, l.length = ts.length → putAll Φ (ts.map .var) (l.map .d) (m, σ) = some ((ts.zip l).foldl (fun m p => m.set p.1 (some (.d p.2))) m, σ)
  | [], [], _, _, _ => rfl
  | [], _ :: _, _, _, h => nomatch h
  | _ :: _, [], _, _, h => nomatch h
  | i :: ts, x :: l, m, σ, h => putAll_set (ts := ts) (l := l) (m := m.set i (some (.d x))) (σ := σ) (Nat.succ.inj h)

theorem bindItem_ne {many : Bool} {ts : List Nat} {kind k : Nat} {x : D} {m : Mem} (hk : kind ≠ 1) : bindItem many ts kind k x m = bindItem many ts 0 k x m := by
  match kind, hk with
  | 0, _ => rfl
  | 1, hk => exact absurd rfl hk
  | k + 2, _ => rfl
theorem one_el {ts : List Nat} {i : Nat} (h : one? ts = some i) : ts = [i] := by
  cases ts with
  | nil => cases h
  | cons a r => cases r with
    | nil => cases h; rfl
    | cons => cases h
theorem two_el {ts : List Nat} {p : Nat × Nat} (h : two? ts = some p) : ts = [p.1, p.2] := by
  cases ts with
  | nil => cases h
  | cons a r => exact omap1 h fun b hb h => by cases h; rw [one_el hb]
theorem bind_sound {many : Bool} {ts : List Nat} {tgt : PySem.Expr} {kind i : Nat} {items : List D} {d : D} {g₁ : G} (ht : TgtOk sc vars many ts tgt) {env : Env} (hfn : env.func ≠ none ∨ locs sc tgt = true) {A : Around} {Er : Value → Shared → Prop} {s : Shared} {h : Heap} {tk : Nat} {g : G} {ρ : Rho} {σ : Sto} {m m' : Mem} {v : Value} {Q : Unit → Shared → Prop} (hsc : env.scope.names = sc) (R : Room A n)
    (N : EnvOk an w.params env vars m g ρ h) (S : St an w.params h₀ g ρ σ h) (hg : ∀ b o, g₁ b = some o → g b = some o) (hv : HasOf an w.params kind g₁ items i v h) (hi : items[i]? = some d) (hd : bindItem many ts kind i d m = some m') (hQ : OutS an w.params h₀ env vars g ρ h s m' σ (Q ())) :
    wpAny (model prog w) A (assign tgt env v) Q Er (sh s h tk) := by
  unfold HasOf at hv
  by_cases hk : kind = 1
  · subst hk
    obtain ⟨T, t, x, rfl, hT, hx⟩ := (if_pos rfl).mp hv
    refine whenO_el hd fun hm hd => omap1 hd fun p hp hd => ?_
    subst hm
    cases two_el hp
    obtain ⟨xs, k, tp, rfl, hxs⟩ := ht
    refine wpAny_assign_Tuple (s := sh s h tk) R.handled hT (by rw [each_plain names_notStar, List.length_map, List.length_map]; exact hxs.length) (by rw [each_plain names_notStar]; exact find_no_star _ _) fun h' hx' => ?_
    have kk : ∀ b o, h.get? b = some o → h'.get? b = some o := fun b o e => hx' b o (Nat.ne_of_lt (Heap.lt_size e)) e
    have X0 : Ext noW g ρ h g ρ h' := Ext.keeps kk
    rw [each_plain names_notStar, List.map_map]
    cases hd
    exact assigns_sound (Φ := noTab) (s := s) (h := h') (tk := tk) (names_tgts hxs) (vs := [.d (.int (i : Int)), .d d]) hsc hfn R (N.ext X0 noW_env) (S.keeps kk) ⟨⟨_, rfl⟩, (hx d hi).mono hg, trivial⟩ rfl (hQ.thenE X0)
  · have hv := ((if_neg hk).mp hv d hi).mono hg
    rw [bindItem_ne hk] at hd
    cases many with
    | false =>
      obtain ⟨j, x, p, rfl, rfl, h1, h2⟩ := ht
      cases hd
      exact Tgt_var (Φ := noTab) h1 h2 hsc hfn R N S (v := .d d) hv rfl hQ
    | true =>
      obtain ⟨xs, k, p, rfl, hxs⟩ := ht
      refine dT_is (G := fun d => IsD an w.params g d v → _) hd (fun l hd hv => whenB_el hd fun hl hd => ?_) hv
      cases hd
      exact assignTuple_sound (Φ := noTab) names_notStar (names_tgts hxs) hsc hfn R N S (v := .d (.tup l)) (vs := l.map .d) hv rfl (putAll_set (of_decide_eq_true hl)) hQ
end

noncomputable def notSet (e : PySem.Expr) : Bool := !(e.ctorIdx == 7)
noncomputable def plainTgt (e : PySem.Expr) : Bool := e.ctorIdx == 23 || e.ctorIdx == 25
@[elab_as_elim] theorem plain_el {t : PySem.Expr} {G : PySem.Expr → Prop} (h : plainTgt t = true) (kn : ∀ x p, G (.Name x p)) (kt : ∀ es k p, G (.Tuple es k p)) : G t := by
  rcases Bool.or_eq_true_iff.mp h with h | h
  · exact @PySem.Expr.Name.elim G t (beq_iff_eq.mp h) kn
  · exact @PySem.Expr.Tuple.elim G t (beq_iff_eq.mp h) kt
noncomputable def OutI (prog : Program) (w : World) (h₀ : Heap) (an : Nat → Str) (env : Env) (vars : List Str) (g : G) (ρ : Rho) (h : Heap) (s : Shared) (m : Mem) (σ' : Sto) (tgt : PySem.Expr) (kind : Nat) (items : List D) (Q : Value → Shared → Prop) : Prop :=
  ∀ ⦃it g' ρ' h' tk fp wr I⦄, LS an w.params h₀ env vars g ρ h fp wr m σ' g' ρ' h' → Ext noW g ρ h g' ρ' h' → I 0 h' → items.length ≤ sizeLine → (∀ A', A'.handled = none → Turns prog w A' it fp wr items.length tgt I (HasOf an w.params kind g' items)) → Q it (sh s h' tk)
noncomputable def SoundI (prog : Program) (w : World) (h₀ : Heap) (an : Nat → Str) (Φ : Tab) (n : Nat) (sc : List (Str × NameKind)) (vars : List Str) (tgt iter : PySem.Expr) (kind : Nat) (src : E) : Prop :=
  ∀ ⦃env : Env⦄ ⦃A : Around⦄ ⦃Er : Value → Shared → Prop⦄ ⦃s : Shared⦄ ⦃h : Heap⦄ ⦃tk : Nat⦄ ⦃g : G⦄ ⦃ρ : Rho⦄ ⦃σ : Sto⦄ ⦃m : Mem⦄ ⦃v : V⦄ ⦃items : List D⦄ ⦃σ' : Sto⦄ ⦃Q : Value → Shared → Prop⦄, env.scope.names = sc → Room A n →
    EnvOk an w.params env vars m g ρ h → St an w.params h₀ g ρ σ h → E.den Φ m src σ = some (v, σ') → itemsOf σ' kind v = some items → OutI prog w h₀ an env vars g ρ h s m σ' tgt kind items Q →
    wpAny (model prog w) A (eval iter env) (fun x s₁ => wpAny (model prog w) A (pyIter x) Q Er s₁) Er (sh s h tk)

section
variable {prog : Program} {w : World} {K : Frag} {h₀ : Heap} {an : Nat → Str} {Φ : Tab} {n : Nat} {sc : List (Str × NameKind)} {vars : List Str}

theorem folded_no {iter : PySem.Expr} {env : Env} (h : notSet iter = true) (x : Value) : foldedSetIterable iter env x = pure x := by
  cases iter with
  | Set => exact Bool.noConfusion h
  | _ => rfl

theorem LS.start {env : Env} {g g₁ : G} {ρ ρ₁ : Rho} {σ₁ : Sto} {m : Mem} {hB h h' : Heap} {fp wr : List Addr} {Pm : Params} (N : EnvOk an Pm env vars m g ρ hB) (S1 : St an Pm h₀ g₁ ρ₁ σ₁ h) (X1 : Ext noW g ρ hB g₁ ρ₁ h) (k : ∀ b o, h.get? b = some o → h'.get? b = some o)
    (hfp : ∀ b ∈ fp, h.get? b = none ∨ ∃ o, g₁ b = some o) (hwr : ∀ b ∈ wr, h.get? b = none ∧ b ∈ fp) : LS an Pm h₀ env vars g ρ hB fp wr m σ₁ g₁ ρ₁ h' where
  st := S1.keeps k
  ev := (N.ext X1 noW_env).keeps fun b o _ e => k b o e
  ext := (X1.trans (Ext.keeps k)).weaken fun _ f => f.elim
  safe b hb := by
    have N1 := N.ext X1 noW_env
    rcases hfp b hb with q | ⟨o, q⟩
    · refine ⟨fun mb => ?_, fun we => ?_⟩
      · obtain ⟨o, e⟩ := S1.alive mb; rw [q] at e; cases e
      · rcases we with rfl | ⟨x, e⟩
        · obtain ⟨mr, ⟨oL, es, ep, hL, _⟩, _⟩ := N1.ns; rw [q] at hL; cases hL
        · obtain ⟨o, e'⟩ := N1.calive x b e; rw [q] at e'; cases e'
    · refine ⟨fun mb => ?_, fun we => ?_⟩
      · rw [S1.off b mb] at q; cases q
      · rcases we with rfl | ⟨x, e⟩
        · rw [N1.loff.1] at q; cases q
        · rw [(N1.coff x b e).1] at q; cases q
  off b hb := by
    cases e : g₁ b with
    | none => rfl
    | some o => have := S1.le b o e; rw [(hwr b hb).1] at this; cases this
  fresh b hb := by
    cases e : hB.get? b with
    | none => rfl
    | some o => obtain ⟨o', e'⟩ := X1.live b o e; rw [(hwr b hb).1] at e'; cases e'
  sub b hb := (hwr b hb).2

theorem OutI.go {env : Env} {g g₁ : G} {ρ ρ₁ : Rho} {σ₁ : Sto} {m : Mem} {hB h h' : Heap} {s : Shared} {tk : Nat} {tgt : PySem.Expr} {kind : Nat} {items : List D} {it : Value} {fp wr : List Addr} {I : Nat → Heap → Prop} {Q : Value → Shared → Prop} (hQ : OutI prog w h₀ an env vars g ρ hB s m σ₁ tgt kind items Q)
    (N : EnvOk an w.params env vars m g ρ hB) (S1 : St an w.params h₀ g₁ ρ₁ σ₁ h) (X1 : Ext noW g ρ hB g₁ ρ₁ h) (k : ∀ b o, h.get? b = some o → h'.get? b = some o)
    (hfp : ∀ b ∈ fp, h.get? b = none ∨ ∃ o, g₁ b = some o) (hwr : ∀ b ∈ wr, h.get? b = none ∧ b ∈ fp) (hI : I 0 h') (hz : items.length ≤ sizeLine) (T : ∀ A', A'.handled = none → Turns prog w A' it fp wr items.length tgt I (HasOf an w.params kind g₁ items)) : Q it (sh s h' tk) :=
  hQ (LS.start N S1 X1 k hfp hwr) (X1.trans (Ext.keeps k)) hI hz T

theorem letOwned_noref {tgt : PySem.Expr} (ht : plainTgt tgt = true) {A : Around} {I : Addr} {v : Value} {Er : Value → Shared → Prop} {s : Shared} {Q : Unit → Shared → Prop} (hv : ∀ a, v ≠ .ref a) (hQ : Q () s) : wpAny (model prog w) A (letOwnedTupleGo tgt (.ref I) v) Q Er s := by
  refine plain_el ht (fun _ _ => wpAny_pure hQ) fun _ _ _ => ?_
  cases v <;> first | exact wpAny_pure hQ | exact absurd rfl (hv _)
theorem letOwned_list {tgt : PySem.Expr} (ht : plainTgt tgt = true) {A : Around} {I l : Addr} {i : Nat} {v : Value} {Er : Value → Shared → Prop} {s : Shared} {Q : Unit → Shared → Prop} (hit : s.heap.IsListIter I l i) (hQ : Q () s) : wpAny (model prog w) A (letOwnedTupleGo tgt (.ref I) v) Q Er s := by
  refine plain_el ht (fun _ _ => wpAny_pure hQ) fun _ _ _ => ?_
  by_cases hv : ∃ a, v = .ref a
  · obtain ⟨a, rfl⟩ := hv
    exact wpAny_letOwnedTupleGo_listiter hit hQ
  · exact letOwned_noref rfl (fun a e => hv ⟨a, e⟩) hQ
theorem letOwned_tup {tgt : PySem.Expr} (ht : plainTgt tgt = true) {A : Around} {I l : Addr} {i : Nat} {v : Value} {Er : Value → Shared → Prop} {s : Shared} {Q : Unit → Shared → Prop} (hit : s.heap.IsTupleIter I l i) (hQ : Q () s) : wpAny (model prog w) A (letOwnedTupleGo tgt (.ref I) v) Q Er s := by
  refine plain_el ht (fun _ _ => wpAny_pure hQ) fun _ _ _ => ?_
  by_cases hv : ∃ a, v = .ref a
  · obtain ⟨a, rfl⟩ := hv
    exact letOwned_tupiter hit hQ
  · exact letOwned_noref rfl (fun a e => hv ⟨a, e⟩) hQ

theorem mem2 {α : Type} {b x y : α} {P' : α → Prop} (hb : b ∈ [x, y]) (hx : P' x) (hy : P' y) : P' b := by
  rcases List.mem_cons.mp hb with q | hb
  · exact q ▸ hx
  · exact List.mem_singleton.mp hb ▸ hy
theorem mem1 {α : Type} {b x : α} {P' : α → Prop} (hb : b ∈ [x]) (hx : P' x) : P' b := List.mem_singleton.mp hb ▸ hx
theorem live_list {I ax : Addr} {items : Array Value} : ∀ (i : Nat) (h : Heap), (h.IsListIter I ax i ∧ h.IsList ax items) → ∀ b ∈ [I, ax], ∃ o, h.get? b = some o := by
  rintro i h ⟨⟨o, ho, _⟩, ⟨o2, ho2, _⟩⟩ b hb
  exact mem2 (P' := fun b => ∃ o, h.get? b = some o) hb ⟨o, ho⟩ ⟨o2, ho2⟩
theorem live_tup {I ax : Addr} {items : Array Value} : ∀ (i : Nat) (h : Heap), (h.IsTupleIter I ax i ∧ h.IsTuple ax items) → ∀ b ∈ [I, ax], ∃ o, h.get? b = some o := by
  rintro i h ⟨⟨o, ho, _⟩, ⟨o2, ho2, _⟩⟩ b hb
  exact mem2 (P' := fun b => ∃ o, h.get? b = some o) hb ⟨o, ho⟩ ⟨o2, ho2⟩
theorem has_at {g : G} {l : List D} {its : Array Value} {Pm : Params} {kind i : Nat} {v : Value} {h : Heap} (hk : kind ≠ 1) (H : IsDs an Pm g l its.toList) (hp : its[i]? = some v) : HasOf an Pm kind g l i v h := by
  unfold HasOf
  rw [if_neg hk]
  intro d hd
  obtain ⟨v', e1, e2⟩ := H.get hd
  rw [Array.getElem?_toList, hp] at e1
  cases e1; exact e2

section
variable {env : Env} {A : Around} {Er : Value → Shared → Prop} {s : Shared} {h hh1 : Heap} {tk1 : Nat} {g g1 : G} {ρ ρ1 : Rho} {σ1 : Sto} {m : Mem} {tgt : PySem.Expr} {l : List D} {val : Value} {Q : Value → Shared → Prop}
theorem iter_tup (ht : plainTgt tgt = true) (N : EnvOk an w.params env vars m g ρ h) (S1 : St an w.params h₀ g1 ρ1 σ1 hh1) (X1 : Ext noW g ρ h g1 ρ1 hh1) (hv : IsD an w.params g1 (.tup l) val) (hQ : OutI prog w h₀ an env vars g ρ h s m σ1 tgt 0 l Q) : wpAny (model prog w) A (pyIter val) Q Er (sh s hh1 tk1) := by
  obtain ⟨a, ep, its, rfl, q1, q2, q3⟩ := hv
  have ha := S1.le _ _ q1
  have hz : l.length = its.size := q3.length.trans Array.length_toList
  have ht' : hh1.IsTuple a its := ⟨_, ha, rfl, _, rfl⟩
  have hnew := get?_size hh1
  have hne : a ≠ hh1.objs.size := Nat.ne_of_lt (Heap.lt_size ha)
  refine wpAny_pyIter_tuple (s := sh s hh1 tk1) ht' (hQ.go (fp := [hh1.objs.size, a]) (wr := [hh1.objs.size]) (I := fun i h => h.IsTupleIter hh1.objs.size a i ∧ h.IsTuple a its) N S1 X1 (fun b o e => Heap.get?_push_of_some _ e)
    (fun b hb => mem2 (P' := fun b => hh1.get? b = none ∨ ∃ o, g1 b = some o) hb (.inl hnew) (.inr ⟨_, q1⟩)) (fun b hb => mem1 (P' := fun b => hh1.get? b = none ∧ b ∈ [hh1.objs.size, a]) hb ⟨hnew, List.mem_cons_self⟩) ⟨⟨_, Heap.get?_push_size _ rfl, rfl, rfl⟩, ht'.push _⟩ (hz ▸ q2) fun A' hA => ?_)
  rw [hz]
  exact Turns.ofWalks (Walks.tuple hA _ a hne its) live_tup (fun i s v Q Er hs _ hq => letOwned_tup ht hs.1 hq) fun i v h hp => has_at (by decide) q3 hp
theorem iter_lst (ht : plainTgt tgt = true) (N : EnvOk an w.params env vars m g ρ h) (S1 : St an w.params h₀ g1 ρ1 σ1 hh1) (X1 : Ext noW g ρ h g1 ρ1 hh1) (hv : IsD an w.params g1 (.lst l) val) (hQ : OutI prog w h₀ an env vars g ρ h s m σ1 tgt 0 l Q) : wpAny (model prog w) A (pyIter val) Q Er (sh s hh1 tk1) := by
  obtain ⟨a, o, ep, its, rfl, q1, q2, q3, q4, q5⟩ := hv
  have ha := S1.le _ _ q1
  have hz : l.length = its.size := q5.length.trans Array.length_toList
  have ht' : hh1.IsList a its := ⟨o, ha, q2, _, q3⟩
  have hnew := get?_size hh1
  have hne : a ≠ hh1.objs.size := Nat.ne_of_lt (Heap.lt_size ha)
  refine wpAny_pyIter_list (s := sh s hh1 tk1) ht' (hQ.go (fp := [hh1.objs.size, a]) (wr := [hh1.objs.size]) (I := fun i h => h.IsListIter hh1.objs.size a i ∧ h.IsList a its) N S1 X1 (fun b o e => Heap.get?_push_of_some _ e)
    (fun b hb => mem2 (P' := fun b => hh1.get? b = none ∨ ∃ o, g1 b = some o) hb (.inl hnew) (.inr ⟨_, q1⟩)) (fun b hb => mem1 (P' := fun b => hh1.get? b = none ∧ b ∈ [hh1.objs.size, a]) hb ⟨hnew, List.mem_cons_self⟩) ⟨⟨_, Heap.get?_push_size _ rfl, rfl, rfl⟩, ht'.push _⟩ (hz ▸ q4) fun A' hA => ?_)
  rw [hz]
  exact Turns.ofWalks (Walks.list hA _ a hne its) live_list (fun i s v Q Er hs _ hq => letOwned_list ht hs.1 hq) fun i v h hp => has_at (by decide) q5 hp
theorem iter_str {x : Str} {t : Tok} (ht : plainTgt tgt = true) (N : EnvOk an w.params env vars m g ρ h) (S1 : St an w.params h₀ g1 ρ1 σ1 hh1) (X1 : Ext noW g ρ h g1 ρ1 hh1) (hxz : x.cps.size ≤ 2 ^ 20) (hQ : OutI prog w h₀ an env vars g ρ h s m σ1 tgt 0 (x.cps.toList.map fun c => .str ⟨#[c]⟩) Q) : wpAny (model prog w) A (pyIter (.str x t)) Q Er (sh s hh1 tk1) := by
  have hnew := get?_size hh1
  have fp : ∀ b ∈ [hh1.objs.size], hh1.get? b = none ∨ ∃ o, g1 b = some o := fun b hb => mem1 (P' := fun b => hh1.get? b = none ∨ ∃ o, g1 b = some o) hb (.inl hnew)
  have wr : ∀ b ∈ [hh1.objs.size], hh1.get? b = none ∧ b ∈ [hh1.objs.size] := fun b hb => ⟨mem1 (P' := fun b => hh1.get? b = none) hb hnew, hb⟩
  have has : ∀ i v (h : Heap), SignAt x i v → HasOf an w.params 0 g1 (x.cps.toList.map fun c => .str ⟨#[c]⟩) i v h := by
    rintro i v h ⟨c, u, h1, rfl⟩
    unfold HasOf
    rw [if_neg (by decide)]
    intro d hd'
    rw [List.getElem?_map, Array.getElem?_toList, h1] at hd'
    cases hd'
    exact ⟨_, rfl⟩
  have go : ∀ i (s : Shared) (v : Value) (Q : Unit → Shared → Prop) (Er : Value → Shared → Prop) A', SignAt x i v → Q () s → wpAny (model prog w) A' (letOwnedTupleGo tgt (.ref hh1.objs.size) v) Q Er s := by
    rintro i s v Q Er A' ⟨c, u, _, rfl⟩ hq
    exact letOwned_noref ht (fun a e => by cases e) hq
  have hlen : (x.cps.toList.map fun c => D.str ⟨#[c]⟩).length = x.cps.size := by rw [List.length_map, Array.length_toList]
  have hz : (x.cps.toList.map fun c => D.str ⟨#[c]⟩).length ≤ sizeLine := hlen ▸ Nat.le_trans hxz (by decide)
  cases hasc : x.cps.all (· < 128)
  · refine wpAny_pyIter_wide (s := sh s hh1 tk1) hasc (hQ.go (I := fun i h => h.IsStrIter hh1.objs.size "str_iterator" x t i) N S1 X1 (fun b o e => Heap.get?_push_of_some _ e) fp wr ⟨_, Heap.get?_push_size _ rfl, rfl, rfl⟩ hz fun A' hA => ?_)
    rw [hlen]
    exact Turns.ofWalks (Walks.strWide hA _ x t) (fun i h hs b hb => by obtain ⟨o, ho, _⟩ := hs; exact mem1 (P' := fun b => ∃ o, h.get? b = some o) hb ⟨o, ho⟩) (fun i s v Q Er _ hp hq => go i s v Q Er A' hp hq) has
  · refine wpAny_pyIter_ascii (s := sh s hh1 tk1) hasc (hQ.go (I := fun i h => h.IsStrIter hh1.objs.size "str_ascii_iterator" x t i) N S1 X1 (fun b o e => Heap.get?_push_of_some _ e) fp wr ⟨_, Heap.get?_push_size _ rfl, rfl, rfl⟩ hz fun A' hA => ?_)
    rw [hlen]
    exact Turns.ofWalks (Walks.strAscii hA _ x t) (fun i h hs b hb => by obtain ⟨o, ho, _⟩ := hs; exact mem1 (P' := fun b => ∃ o, h.get? b = some o) hb ⟨o, ho⟩) (fun i s v Q Er _ hp hq => go i s v Q Er A' hp hq) has
end

theorem I_data {tgt iter : PySem.Expr} {src : E} (ht : plainTgt tgt = true) (he : SoundE prog w h₀ an Φ n sc vars iter src) : SoundI prog w h₀ an Φ n sc vars tgt iter 0 src := by
  intro env A Er s h tk g ρ σ m v items σ' Q hsc R N S hd hi hQ
  refine he hsc R N S hd fun val g1 ρ1 hh1 tk1 S1 X1 hv => onD_is (G := fun v => IsV an w.params ρ1 g1 v val → _) hi (fun x hi hv => ?_) hv
  cases x with
  | tup l => cases hi; exact iter_tup ht N S1 X1 hv hQ
  | lst l => cases hi; exact iter_lst ht N S1 X1 hv hQ
  | str x =>
    obtain ⟨t, rfl⟩ := hv
    refine whenB_el hi fun hxz hi => ?_
    cases hi
    exact iter_str ht N S1 X1 (of_decide_eq_true hxz) hQ
  | _ => exact noS hi

theorem range_turns {g1 : G} {a : Int} {I : Addr} {tgt : PySem.Expr} {kind k : Nat} {f : Nat → D} {Pm : Params} (ht : plainTgt tgt = true) (hk : kind ≠ 1) (hf : ∀ i : Nat, f i = .int (a + (i : Int))) {A' : Around} (hA : A'.handled = none) :
    Turns prog w A' (.ref I) [I] [I] ((List.range k).map f).length tgt (fun i h => IsRangeIter h I (a + (i : Nat) * 1) ((k : Int) - (i : Nat)) 1) (HasOf an Pm kind g1 ((List.range k).map f)) := by
  rw [List.length_map, List.length_range]
  refine Turns.ofWalks (Walks.range hA I a 1 k) (fun i h hs b hb => by exact mem1 (P' := fun b => ∃ o, h.get? b = some o) hb ⟨_, hs⟩) (fun i s v Q Er _ hp hq => by obtain ⟨t, rfl⟩ := hp; exact letOwned_noref ht (fun a e => by cases e) hq) fun i v h hp => ?_
  obtain ⟨t, rfl⟩ := hp
  unfold HasOf
  rw [if_neg hk]
  intro d hd'
  have hi := (List.getElem?_eq_some_iff.mp hd').1
  rw [List.length_map, List.length_range] at hi
  rw [List.getElem?_map, List.getElem?_range hi] at hd'
  cases hd'
  exact hf i ▸ ⟨t, by rw [Int.mul_one]⟩

theorem range_go {env : Env} {A : Around} {Er : Value → Shared → Prop} {s : Shared} {h hh1 : Heap} {tk1 : Nat} {g g1 : G} {ρ ρ1 : Rho} {σ1 : Sto} {m : Mem} {tgt : PySem.Expr} {kind k : Nat} {i j : Int} {t u v : Tok} {f : Nat → D} {Q : Value → Shared → Prop} (ht : plainTgt tgt = true) (hk : kind ≠ 1) (hf : ∀ q : Nat, f q = .int (i + (q : Int)))
    (N : EnvOk an w.params env vars m g ρ h) (S1 : St an w.params h₀ g1 ρ1 σ1 hh1) (X1 : Ext noW g ρ h g1 ρ1 hh1) (hs : Builtin.Range.small i j 1 = true) (hn : Builtin.Range.rangeSize i j 1 = (k : Int)) (hz : k ≤ sizeLine)
    (hQ : OutI prog w h₀ an env vars g ρ h s m σ1 tgt kind ((List.range k).map f) Q) : wpAny (model prog w) A (pyIter (.ref hh1.objs.size)) Q Er (sh s (hh1.push { cls := .type "range", data := .fields #[.int i t, .int j u, .int 1 v] }) tk1) := by
  refine wpAny_pyIter_range (s := sh s _ tk1) (IsRange.new hh1 i j 1 t u v) hs ?_
  have hn1 : hh1.get? (hh1.push { cls := .type "range", data := .fields #[.int i t, .int j u, .int 1 v] }).objs.size = none := by
    rw [Heap.size_push]; exact get?_size1
  show Q (.ref (hh1.push { cls := .type "range", data := .fields #[.int i t, .int j u, .int 1 v] }).objs.size) _
  rw [hn]
  refine hQ.go (fp := [_]) (wr := [_]) (I := fun q h => IsRangeIter h _ (i + (q : Nat) * 1) ((k : Int) - (q : Nat)) 1) N S1 X1 push2 (fun b hb => mem1 (P' := fun b => hh1.get? b = none ∨ ∃ o, g1 b = some o) hb (.inl hn1)) (fun b hb => ⟨mem1 (P' := fun b => hh1.get? b = none) hb hn1, hb⟩) ?_ (by rw [List.length_map, List.length_range]; exact hz) fun A' hA => range_turns ht hk hf hA
  have := Heap.get?_push_size (hh1.push { cls := .type "range", data := .fields #[.int i t, .int j u, .int 1 v] }) (o := { cls := .type "range_iterator", data := .fields #[rawInt i, rawInt (k : Int), rawInt 1] }) rfl
  show IsRangeIter _ _ (i + ((0 : Nat) : Int) * 1) ((k : Int) - ((0 : Nat) : Int)) 1
  rw [show i + ((0 : Nat) : Int) * 1 = i by omega, show (k : Int) - ((0 : Nat) : Int) = k by omega]
  exact this

theorem I_range1 (WD : Wd K h₀) {tgt : PySem.Expr} (ht : plainTgt tgt = true) {e : PySem.Expr} {src : E} {np pos : Pos} (hk : sc.lookup ("range" : Str) = some .globalImplicit) (hx : nsIn K mainGlobals "range" = some none) (hst : notStar e = true) (he : SoundE prog w h₀ an Φ n sc vars e src) :
    SoundI prog w h₀ an Φ n sc vars tgt (.Call (.Name "range" np) [e] [] pos) 2 src := by
  intro env A Er s h tk g ρ σ m v items σ' Q hsc R N S hd hi hQ
  refine call_b WD hsc N S hk hx PyProof.Rows.boot_range rfl (by decide +kernel) (by decide +kernel) ((Bool.and_true _).trans hst) (Calls.spliced_cons (he hsc R N S hd fun val g1 ρ1 hh1 tk1 S1 X1 hv => Calls.spliced_nil ?_))
  refine onI_is (G := fun _ val => wpAny (model prog w) A (PySem.call (.type "range") [val]) _ Er (sh s hh1 tk1)) hv hi fun b t hi => whenB_el hi fun hc hi => ?_
  cases hi
  have hc := and_dec hc
  exact call_range_1 (s := sh s hh1 tk1) (range_go (tk1 := tk1 + 1 + 1) ht (by decide) (fun i => by rw [Int.zero_add]) N S1 X1 (small_one (by omega) (by omega) (by omega) (by omega)) (by rw [rangeSize_one]; split <;> omega) (by rw [sizeLine_eq]; omega) hQ)

theorem I_range2 (WD : Wd K h₀) {tgt : PySem.Expr} (ht : plainTgt tgt = true) {a b : PySem.Expr} {ma mb : E} {np pos : Pos} (hk : sc.lookup ("range" : Str) = some .globalImplicit) (hx : nsIn K mainGlobals "range" = some none) (hsta : notStar a = true) (hstb : notStar b = true)
    (ha : SoundE prog w h₀ an Φ n sc vars a ma) (hb : SoundE prog w h₀ an Φ n sc vars b mb) : SoundI prog w h₀ an Φ n sc vars tgt (.Call (.Name "range" np) [a, b] [] pos) 3 (.tup [ma, mb]) := by
  intro env A Er s h tk g ρ σ m v items σ' Q hsc R N S hd hi hQ
  refine denS_el hd fun vs σ3 hd e => den1_el hd fun v1 σ1 h1 hd => omap hd fun us σ2 hd e2 => den1_el hd fun v2 σ4 h2 hd => ?_
  cases hd
  cases e2
  cases e
  refine call_b WD hsc N S hk hx PyProof.Rows.boot_range rfl (by decide +kernel) (by decide +kernel) (by rw [List.all_cons, hsta, List.all_cons, hstb]; rfl) (Calls.spliced_cons (ha hsc R N S h1 fun val1 g1 ρ1 hh1 tk1 S1 X1 hv1 => Calls.spliced_cons (hb hsc R (N.ext X1 noW_env) S1 h2 fun val2 g2 ρ2 hh2 tk2 S2 X2 hv2 => Calls.spliced_nil ?_)))
  have hv1 := hv1.mono X2.gle X2.pre
  have hcase : ∃ x y, v1 = .d x ∧ v2 = .d y ∧ (x.onI fun a => y.onI fun b => range2D a b) = some items := by
    cases v1 with
    | d x => cases v2 with
      | d y => exact ⟨x, y, rfl, rfl, hi⟩
      | _ => exact noS hi
    | _ => exact noS hi
  obtain ⟨x, y, rfl, rfl, hi⟩ := hcase
  refine dI_is (G := fun _ val1 => wpAny (model prog w) A (PySem.call (.type "range") [val1, val2]) _ Er (sh s hh2 tk2)) hv1 hi fun i t hi => dI_is (G := fun _ val2 => wpAny (model prog w) A (PySem.call (.type "range") [.int i t, val2]) _ Er (sh s hh2 tk2)) hv2 hi fun j u hi => whenB_el hi fun hc hi => ?_
  cases hi
  have c1 := and_el hc fun h1 hc => and_el hc fun h2 hc => And.intro (And.intro (of_decide_eq_true h1) (of_decide_eq_true h2)) (and_dec hc)
  exact call_range_2 (s := sh s hh2 tk2) (range_go (tk1 := tk2 + 1) ht (by decide) (fun i => rfl) N S2 (X1.trans X2) (small_one (by omega) (by omega) (by omega) (by omega)) (by rw [rangeSize_one]; split <;> omega) (by rw [sizeLine_eq]; omega) hQ)

theorem I_enum (WD : Wd K h₀) {elts : List PySem.Expr} {k : Nat} {tp : Pos} {e : PySem.Expr} {src : E} {np pos : Pos} (hk : sc.lookup ("enumerate" : Str) = some .globalImplicit) (hx : nsIn K mainGlobals "enumerate" = some none) (hst : notStar e = true) (he : SoundE prog w h₀ an Φ n sc vars e src) :
    SoundI prog w h₀ an Φ n sc vars (.Tuple elts k tp) (.Call (.Name "enumerate" np) [e] [] pos) 1 src := by
  intro env A Er s h tk g ρ σ m v items σ' Q hsc R N S hd hi hQ
  refine call_b WD hsc N S hk hx boot_enumerate rfl (by decide +kernel) (by decide +kernel) ((Bool.and_true _).trans hst) (Calls.spliced_cons (he hsc R N S hd fun val g1 ρ1 hh1 tk1 S1 X1 hv => Calls.spliced_nil ?_))
  refine onD_is (G := fun v => IsV an w.params ρ1 g1 v val → _) hi (fun x hi hv => dL_is (G := fun x => IsD an w.params g1 x val → _) hi (fun l hi hv => ?_) hv) hv
  cases hi
  obtain ⟨a, o, ep, its, rfl, q1, q2, q3, q4, q5⟩ := hv
  have ha := S1.le _ _ q1
  have hz : items.length = its.size := q5.length.trans Array.length_toList
  have ht' : hh1.IsList a its := ⟨o, ha, q2, _, q3⟩
  have hnew := get?_size hh1
  have hlt := Heap.lt_size ha
  have hne : a ≠ hh1.objs.size := Nat.ne_of_lt hlt
  have hne2 : a ≠ hh1.objs.size + 1 := Nat.ne_of_lt (Nat.lt_succ_of_lt hlt)
  have hne3 : hh1.objs.size + 1 ≠ hh1.objs.size := Nat.succ_ne_self _
  refine call_enumerate_list (s := sh s hh1 tk1) ht' fun h' hE hL hsz kk => wpAny_pyIter_enum hE (hQ.go (fp := [hh1.objs.size + 1, hh1.objs.size, a]) (wr := [hh1.objs.size + 1, hh1.objs.size])
    (I := fun i h => (∃ old, IsEnum h (hh1.objs.size + 1) hh1.objs.size (i : Int) old) ∧ (h.IsListIter hh1.objs.size a i ∧ h.IsList a its)) N S1 X1 kk (fun b hb => ?_) (fun b hb => ?_) ⟨⟨_, hE⟩, hL, ht'.at fun o e => kk _ o e⟩ (hz ▸ q4) fun A' hA => ?_)
  · rcases List.mem_cons.mp hb with q | hb
    · exact .inl (q ▸ get?_size1)
    · exact mem2 (P' := fun b => hh1.get? b = none ∨ ∃ o, g1 b = some o) hb (.inl hnew) (.inr ⟨_, q1⟩)
  · exact mem2 (P' := fun b => hh1.get? b = none ∧ b ∈ [hh1.objs.size + 1, hh1.objs.size, a]) hb ⟨get?_size1, List.mem_cons_self⟩ ⟨hnew, List.mem_cons_of_mem _ List.mem_cons_self⟩
  · rw [hz]
    refine Turns.ofWalksT (WalksT.enumerateD (Draws.list (A := A'.in1) hA hh1.objs.size a hne its) (hh1.objs.size + 1) hne3 (fun hb => mem2 (P' := fun b => hh1.objs.size + 1 = b → False) hb hne3 (fun q => hne2 q.symm) rfl) (by simp)) ?_ fun i T vals h hp hT => ?_
    · rintro i h ⟨⟨old, h1⟩, ⟨⟨o1, h2, _⟩, ⟨o2, h3, _⟩⟩⟩ b hb
      rcases List.mem_cons.mp hb with q | hb
      · exact ⟨_, q ▸ h1⟩
      · exact mem2 (P' := fun b => ∃ o, h.get? b = some o) hb ⟨_, h2⟩ ⟨_, h3⟩
    · obtain ⟨t, x, hp, rfl⟩ := hp
      unfold HasOf
      rw [if_pos rfl]
      refine ⟨T, t, x, rfl, hT, fun d hd' => ?_⟩
      obtain ⟨v', e1, e2⟩ := q5.get hd'
      rw [Array.getElem?_toList, hp] at e1
      cases e1; exact e2
end

inductive ForI (an : Nat → Str) (P : Params) (h₀ : Heap) (env : Env) (vars : List Str) (g : G) (ρ : Rho) (h : Heap) (fp wr : List Addr) (g1 : G) (I : Nat → Heap → Prop) (items : List D) (step : Nat → D → Mem × Sto → Option (Flw × Mem × Sto)) (r : Flw × Mem × Sto) (s : Shared) (k : Nat) (s' : Shared) : Prop
  | mk (i : Nat) (g2 : G) (ρ2 : Rho) (σ2 : Sto) (m2 : Mem) (h2 : Heap) (tk2 : Nat) (hs : s' = sh s h2 tk2) (L : LS an P h₀ env vars g ρ h fp wr m2 σ2 g2 ρ2 h2) (hg : ∀ b o, g1 b = some o → g2 b = some o) (hI : I i h2) (hi : i ≤ items.length) (hk : k = items.length - i)
    (hgo : forGo step i (items.drop i) (m2, σ2) = some r) : ForI an P h₀ env vars g ρ h fp wr g1 I items step r s k s'

section
variable {prog : Program} {w : World} {K : Frag} {h₀ : Heap} {an : Nat → Str} {Φ : Tab} {n : Nat} {sc : List (Str × NameKind)} {vars : List Str}

theorem LS.out {env : Env} {g g2 : G} {ρ ρ2 : Rho} {h h2 : Heap} {fp wr : List Addr} {m : Mem} {σ : Sto} {flw : Flw} {f : Flow} {s : Shared} {tk : Nat} {Q : Flow → Shared → Prop} {Pm : Params} (L : LS an Pm h₀ env vars g ρ h fp wr m σ g2 ρ2 h2) (hQ : OutF an Pm h₀ env vars g ρ h s flw m σ Q) (hf : FlwIs an Pm ρ2 g2 flw f) : Q f (sh s h2 tk) :=
  hQ L.st L.ext L.ev hf
theorem S_for {many : Bool} {ts : List Nat} {tgt iter : PySem.Expr} {kind : Nat} {src : E} {body : List Stmt} {mbody : List S} {pos : Pos} (hns : notSet iter = true) (htgt : TgtOk sc vars many ts tgt) (hi : SoundI prog w h₀ an Φ n sc vars tgt iter kind src) (hb : SoundB prog w h₀ an Φ n sc vars body mbody) :
    SoundS prog w h₀ an Φ n sc vars (.For tgt iter body [] pos) (.for_ many ts kind src mbody) := by
  intro env A Er s h tk g ρ σ m flw m' σ' Q hsc hfn R N Z hd hQ
  have hd : den1 (E.den Φ m src) (fun v σ => (itemsOf σ kind v).bind fun items => forGo (fun k x s => (bindItem many ts kind k x s.1).bind fun m => Mine.S.dens Φ mbody (m, s.2)) 0 items (m, σ)) σ = some (flw, m', σ') := hd
  generalize hst : (fun k x (s : Mem × Sto) => (bindItem many ts kind k x s.1).bind fun m => Mine.S.dens Φ mbody (m, s.2)) = step at hd
  refine den1_el hd fun v1 σ1 h1 hd => obind1 hd fun items hit hd => wpAny_For (hi hsc R N Z h1 hit fun it g1 ρ1 hh1 tk1 fp wr I L1 _ hI hz hT => ?_) (folded_no hns)
  have T := hT A R.handled
  refine codeAny_forLoop_any (ForI an w.params h₀ env vars g ρ h fp wr g1 I items step (flw, m', σ') s) ?_ items.length (.mk 0 g1 ρ1 σ1 m hh1 tk1 rfl L1 (fun _ _ e => e) hI (Nat.zero_le _) rfl hd)
  rintro k s' ⟨i, g2, ρ2, σ2, m2, h2, tk2, rfl, L2, hg2, hI2, hil, rfl, hgo⟩
  rcases Nat.lt_or_ge i items.length with hlt | hge
  · refine T.step i _ _ _ _ _ hlt hI2 fun v h3 tk3 hk3 hgo3 => hgo3 _ _ fun h4 hI4 hHas hk4 => ?_
    rw [List.drop_eq_getElem_cons hlt, ← hst] at hgo
    refine obind1 hgo fun p hp hgo => obind1 hp fun mb hbi hbody => ?_
    have L4 := (L2.wrote hk3).wrote hk4
    refine bind_sound htgt (.inl hfn) hsc R L4.ev L4.st hg2 hHas (List.getElem?_eq_getElem hlt) hbi fun g5 ρ5 h5 tk5 S5 X5 N5 => ?_
    have L5 := L4.body (T.live _ _ hI4) X5 S5 N5
    have hI5 := T.frame _ _ _ hI4 (L4.kept X5)
    obtain ⟨f5, m5, σ5⟩ := p
    refine hb hsc hfn R N5 S5 hbody fun f g6 ρ6 h6 tk6 S6 X6 N6 hf => ?_
    have L6 := L5.body (T.live _ _ hI5) X6 S6 N6
    cases f5 with
    | next =>
      cases hf
      exact ⟨items.length - (i + 1), by omega, .mk (i + 1) g6 ρ6 σ5 m5 h6 tk6 rfl L6 (fun b o e => X6.gle b o (X5.gle b o (hg2 b o e))) (T.frame _ _ _ hI5 (L5.kept X6)) hlt rfl (hst ▸ hgo)⟩
    | ret u =>
      obtain ⟨val, rfl, hv⟩ := hf
      exact L6.out (hQ.of hgo) ⟨val, rfl, hv⟩
  · have he : i = items.length := Nat.le_antisymm hil hge
    rw [he, List.drop_length] at hgo
    exact T.done _ _ _ _ _ (he ▸ hI2) fun h3 tk3 hk3 => wpAny_execs_nil ((L2.wrote hk3).out (hQ.of hgo) rfl)

inductive WhileI (an : Nat → Str) (P : Params) (h₀ : Heap) (env : Env) (vars : List Str) (g : G) (ρ : Rho) (h : Heap) (go : Nat → Mem × Sto → Option (Flw × Mem × Sto)) (r : Flw × Mem × Sto) (s : Shared) (k : Nat) (s' : Shared) : Prop
  | mk (g2 : G) (ρ2 : Rho) (σ2 : Sto) (m2 : Mem) (h2 : Heap) (tk2 : Nat) (hs : s' = sh s h2 tk2) (S : St an P h₀ g2 ρ2 σ2 h2) (X : Ext (EnvW env) g ρ h g2 ρ2 h2) (N : EnvOk an P env vars m2 g2 ρ2 h2) (hgo : go k (m2, σ2) = some r) : WhileI an P h₀ env vars g ρ h go r s k s'
theorem S_while {c : PySem.Expr} {mc : E} {body : List Stmt} {mbody : List S} {pos : Pos} (hc : SoundT prog w h₀ an Φ n sc vars c mc) (hb : SoundB prog w h₀ an Φ n sc vars body mbody) :
    SoundS prog w h₀ an Φ n sc vars (.While c body [] pos) (.while_ mc mbody) := by
  intro env A Er s h tk g ρ σ m flw m' σ' Q hsc hfn R N Z hd hQ
  refine wpAny_While (codeAny_whileLoop (WhileI an w.params h₀ env vars g ρ h (whileGo (fun s => den1 (E.den Φ s.1 mc) (fun v σ => v.onB fun t => some (t, s.1, σ)) s.2) (Mine.S.dens Φ mbody)) (flw, m', σ') s) ?_ fuel (.mk g ρ σ m h tk rfl Z Ext.rfl' N hd))
  rintro k s' ⟨g2, ρ2, σ2, m2, h2, tk2, rfl, S2, X2, N2, hgo⟩
  cases k with
  | zero => exact noS hgo
  | succ k =>
    refine obind1 hgo fun p hp hgo => den1_el hp fun v σ4 hv ht => onB_el (G := fun v => E.den Φ m2 mc σ2 = some (v, σ4) → _) ht (fun t ht' hcd => ?_) hv
    cases ht'
    refine hc hsc R N2 S2 hcd fun g5 ρ5 h5 tk5 S5 X5 => ?_
    have X5' := X2.trans X5.env
    have N5 := N2.ext X5 noW_env
    cases t with
    | true =>
      refine obind1 (if_t hgo) fun p hbody hgo => ?_
      obtain ⟨f6, m6, σ6⟩ := p
      refine hb hsc hfn R N5 S5 hbody fun f g6 ρ6 h6 tk6 S6 X6 N6 hf => ?_
      cases f6 with
      | next =>
        cases hf
        exact ⟨k, Nat.lt_succ_self _, .mk g6 ρ6 σ6 m6 h6 tk6 rfl S6 (X5'.trans X6) N6 hgo⟩
      | ret u =>
        obtain ⟨val, rfl, hv⟩ := hf
        exact hQ.of hgo S6 (X5'.trans X6) N6 ⟨val, rfl, hv⟩
    | false => exact wpAny_execs_nil (hQ.of (if_f hgo) S5 X5' N5 rfl)
end

section
variable {prog : Program} {w : World} {A : Around} {R : Result → Shared → Prop} {s : Shared}
theorem compLoop_any {elt target iter : PySem.Expr} {ifs : List PySem.Expr} {scope : Scope} {pos : Pos} {it acc : Value} {env : Env} (I : Nat → Shared → Prop)
    (turn : ∀ n s, I n s → wpAny (model prog w) A (pyNext it) (fun r s₁ => match r with
      | none => R (.ok .next) s₁
      | some v => wpAny (model prog w) A (letOwnedTupleGo target it v) (fun _ s₁' => wpAny (model prog w) A (assign target env v) (fun _ s₂ =>
          wpAny (model prog w) A (forIn ifs true fun c r => if r = true then do let ok ← isTrue c env (eval c env); pure (ForInStep.yield ok) else pure (ForInStep.yield r)) (fun ok s₃ =>
            if ok = true then wpAny (model prog w) A (eval elt env) (fun x s₄ =>
              wpAny (model prog w) A (call (.builtin "list.append") [acc, x]) (fun _ s₅ => ∃ m, m < n ∧ I m s₅) (notedBy (model prog w) A env fun e s' => R (.error e) s') s₄) (notedBy (model prog w) A env fun e s' => R (.error e) s') s₃
            else ∃ m, m < n ∧ I m s₃) (notedBy (model prog w) A env fun e s' => R (.error e) s') s₂) (notedBy (model prog w) A env fun e s' => R (.error e) s') s₁') (notedBy (model prog w) A env fun e s' => R (.error e) s') s₁) (notedBy (model prog w) A env fun e s' => R (.error e) s') s)
    (n : Nat) (h : I n s) : codeAny (model prog w) A (.compLoop (.ListComp elt [⟨target, iter, ifs, 0⟩] scope pos) 0 it acc env) R s := by
  refine codeAny_loop rfl I (fun n s hI => ?_) n h
  show wpAny _ A ((compTurn (.ListComp elt [⟨target, iter, ifs, 0⟩] scope pos) 0 it acc env).onRaise (fun x => do noteFrame x env; theTreesLotGoes x)) _ _ s
  refine wpAny_noted ?_
  rw [compTurn_list]
  refine wpAny_bind (wpAny_standAt (wpAny_bind (wpAny_mono (turn n s hI) (fun r s₁ h₁ => ?_) fun _ _ h' => h')))
  cases r with
  | none => exact wpAny_pure h₁
  | some v =>
    refine wpAny_bind (wpAny_mono h₁ (fun _ s₁' h₁' => ?_) fun _ _ h' => h')
    refine wpAny_bind (wpAny_mono h₁' (fun _ s₂ h₂ => wpAny_bind (wpAny_mono h₂ (fun ok s₃ h₃ => ?_) fun _ _ h' => h')) fun _ _ h' => h')
    cases ok with
    | false => exact wpAny_pure ⟨rfl, h₃⟩
    | true =>
      exact wpAny_bind (wpAny_bind (wpAny_mono h₃ (fun x s₄ h₄ => wpAny_bind (wpAny_mono h₄ (fun _ s₅ h₅ => wpAny_pure (wpAny_pure ⟨rfl, h₅⟩)) fun _ _ h' => h')) fun _ _ h' => h'))
end

noncomputable def relabelS (names sc : List (Str × NameKind)) : List (Str × NameKind) := names.map fun (n, k) => if (k == .free && sc.lookup n == some .cell) then (n, .cell) else (n, k)
theorem relabel_names {scope : Scope} {env : Env} {sc : List (Str × NameKind)} (hsc : env.scope.names = sc) (hk : env.scope.kind = .function) : (relabel scope env).names = relabelS scope.names sc := by
  unfold relabel relabelS
  dsimp only
  apply List.map_congr_left
  rintro ⟨n, k⟩ _
  rw [hk]
  show (if (k == NameKind.free && true && env.kindOf n == some NameKind.cell) = true then _ else _) = _
  rw [Bool.and_true, show env.kindOf n = sc.lookup n by unfold Env.kindOf; rw [hsc]]

noncomputable def closeGo (cells : List (Str × Addr)) : List (Str × NameKind) → List (Str × Addr) → List (Str × Addr)
  | [], acc => acc
  | (n, k) :: r, acc => closeGo cells r (if k == .free then (match cells.lookup n with | some c => (n, c) :: acc | none => acc) else acc)
theorem closeGo_sub {cells : List (Str × Addr)} : ∀ {names : List (Str × NameKind)} {acc : List (Str × Addr)}, (∀ p ∈ acc, cells.lookup p.1 = some p.2) → ∀ p ∈ closeGo cells names acc, cells.lookup p.1 = some p.2
  | [], acc, h => h
  | (n, k) :: r, acc, h => by
    refine closeGo_sub (names := r) ?_
    intro p hp
    split at hp
    · split at hp
      · rename_i c hc
        rcases List.mem_cons.mp hp with rfl | hp
        · exact hc
        · exact h p hp
      · exact h p hp
    · exact h p hp
theorem closeGo_acc {cells : List (Str × Addr)} {x : Str} : ∀ {names : List (Str × NameKind)} {acc : List (Str × Addr)}, (∃ c, (x, c) ∈ acc) → ∃ c, (x, c) ∈ closeGo cells names acc
  | [], acc, h => h
  | (n, k) :: r, acc, ⟨c, h⟩ => by
    refine closeGo_acc (names := r) ⟨c, ?_⟩
    split
    · split
      · exact List.mem_cons_of_mem _ h
      · exact h
    · exact h
theorem closeGo_mem {cells : List (Str × Addr)} {x : Str} {c : Addr} (hc : cells.lookup x = some c) : ∀ {names : List (Str × NameKind)} {acc : List (Str × Addr)}, (x, NameKind.free) ∈ names → ∃ c, (x, c) ∈ closeGo cells names acc
  | [], acc, h => nomatch h
  | (n, k) :: r, acc, h => by
    rcases List.mem_cons.mp h with e | h
    · cases e
      refine closeGo_acc (names := r) ⟨c, ?_⟩
      simp [hc]
    · exact closeGo_mem (names := r) hc h
theorem lookup_mem {x : Str} {c : Addr} : ∀ {l : List (Str × Addr)}, (x, c) ∈ l → ∃ c', l.lookup x = some c'
  | [], h => nomatch h
  | (n, d) :: r, h => by
    rw [List.lookup_cons]
    cases hb : x == n with
    | true => exact ⟨d, rfl⟩
    | false =>
      rcases List.mem_cons.mp h with e | h
      · cases e; simp at hb
      · exact lookup_mem h
theorem mem_lookup {x : Str} {c : Addr} : ∀ {l : List (Str × Addr)}, l.lookup x = some c → (x, c) ∈ l
  | [], h => nomatch h
  | (n, d) :: r, h => by
    rw [List.lookup_cons] at h
    cases hb : x == n with
    | true => rw [hb] at h; cases h; rw [eq_of_beq hb]; exact List.mem_cons_self
    | false => rw [hb] at h; exact List.mem_cons_of_mem _ (mem_lookup h)

theorem closure_go {env : Env} : ∀ (names : List (Str × NameKind)) (acc : List (Str × Addr)), (∀ p ∈ names, p.2 = .free → (env.cells.lookup p.1).isSome = true) →
    (forIn names acc fun p cs => (do
      if p.2 == NameKind.free then pure (ForInStep.yield ((p.1, ← cellOf env p.1) :: cs)) else pure (ForInStep.yield cs) : Sem _)) = pure (closeGo env.cells names acc)
  | [], acc, _ => rfl
  | (n, k) :: r, acc, h => by
    rw [List.forIn_cons]
    have ih := fun acc => closure_go (env := env) r acc fun p hp => h p (List.mem_cons_of_mem _ hp)
    cases hk : k == NameKind.free with
    | false =>
      simp only [Bool.false_eq_true, if_false]
      rw [show closeGo env.cells ((n, k) :: r) acc = closeGo env.cells r acc by simp [closeGo, hk]]
      exact ih acc
    | true =>
      have h1 := h (n, k) List.mem_cons_self (beq_iff_eq.mp hk)
      obtain ⟨c, hc⟩ := Option.isSome_iff_exists.mp h1
      dsimp only at hc
      simp only [if_true, cellOf, hc]
      rw [show closeGo env.cells ((n, k) :: r) acc = closeGo env.cells r ((n, c) :: acc) by simp [closeGo, hk, hc]]
      exact ih _
theorem closure_is {scope : Scope} {env : Env} (h : ∀ p ∈ scope.names, p.2 = .free → (env.cells.lookup p.1).isSome = true) : closureFor scope env = pure (closeGo env.cells scope.names []) := by
  have := closure_go scope.names [] h
  unfold closureFor
  exact (congrArg (· >>= pure) this).trans rfl

structure CompOk (scope : Scope) (sc : List (Str × NameKind)) (vars cvars : List Str) (caps : List (Option Nat)) : Prop where
  kind : scope.kind = .function
  nocell : ∀ p ∈ scope.names, p.2 ≠ .cell
  names : ∀ p ∈ scope.names, p.2 = .local → scope.names.lookup p.1 = some .local
  nodup : cvars.Nodup
  each : ∀ (i : Nat) x, cvars[i]? = some x → ((relabelS scope.names sc).lookup x = some .local ∧ caps[i]? = some none) ∨
    ((relabelS scope.names sc).lookup x = some .cell ∧ ∃ j, caps[i]? = some (some j) ∧ vars[j]? = some x ∧ sc.lookup x = some .cell ∧ (x, NameKind.free) ∈ scope.names)
  len : caps.length = cvars.length
  frees : ∀ p ∈ scope.names, p.2 = .free → sc.lookup p.1 = some .cell ∧ p.1 ∈ vars

section
variable {prog : Program} {w : World} {K : Frag} {h₀ : Heap} {an : Nat → Str} {Φ : Tab} {n : Nat} {sc : List (Str × NameKind)} {vars cvars : List Str} {caps : List (Option Nat)}

theorem tests_false {env : Env} (l : List PySem.Expr) : (forIn l false fun c r => if r = true then do let ok ← isTrue c env (eval c env); pure (ForInStep.yield ok) else pure (ForInStep.yield r) : Sem Bool) = pure false := by
  induction l with
  | nil => rfl
  | cons a l ih => rw [List.forIn_cons]; exact ih
theorem tests_sound {ifs : List PySem.Expr} {mifs : List E} (H : All2 (SoundT prog w h₀ an Φ n sc vars) ifs mifs) :
    ∀ ⦃env : Env⦄ ⦃A : Around⦄ ⦃Er : Value → Shared → Prop⦄ ⦃s : Shared⦄ ⦃h : Heap⦄ ⦃tk : Nat⦄ ⦃g : G⦄ ⦃ρ : Rho⦄ ⦃σ : Sto⦄ ⦃m : Mem⦄ ⦃b : Bool⦄ ⦃σ' : Sto⦄ ⦃Q : Bool → Shared → Prop⦄, env.scope.names = sc → Room A n →
    EnvOk an w.params env vars m g ρ h → St an w.params h₀ g ρ σ h → E.dens? Φ m true mifs σ = some (b, σ') → OutT an w.params h₀ g ρ h s σ' (Q b) →
    wpAny (model prog w) A (forIn ifs true fun c r => if r = true then do let ok ← isTrue c env (eval c env); pure (ForInStep.yield ok) else pure (ForInStep.yield r)) Q Er (sh s h tk) := by
  induction H with
  | nil =>
    intro env A Er s h tk g ρ σ m b σ' Q hsc R N S hd hQ
    exact wpAny_pure (hQ.of hd S Ext.rfl')
  | @cons c mc r mr hc _ ih =>
    intro env A Er s h tk g ρ σ m b σ' Q hsc R N S hd hQ
    rw [List.forIn_cons]
    refine den1_el hd fun v1 σ1 h1 hd => onB_el (G := fun v => E.den Φ m mc σ = some (v, σ1) → _) hd (fun t hd h1 => wpAny_bind (wpAny_bind (hc hsc R N S h1 fun g1 ρ1 hh1 tk1 S1 X1 => wpAny_pure ?_))) h1
    cases t with
    | true => exact ih hsc R (N.ext X1 noW_env) S1 hd (hQ.then X1)
    | false =>
      show wpAny _ A (forIn r false fun c r => if r = true then do let ok ← isTrue c env (eval c env); pure (ForInStep.yield ok) else pure (ForInStep.yield r)) _ _ _
      rw [tests_false]
      exact wpAny_pure (hQ.of hd S1 X1)

theorem fold_other {i : Nat} : ∀ (l : List (Nat × D)) (m : Mem), (∀ p ∈ l, p.1 ≠ i) → (l.foldl (fun m p => m.set p.1 (some (.d p.2))) m)[i]? = m[i]?
  | [], m, _ => rfl
  | p :: l, m, hp => (fold_other l _ fun q hq => hp q (List.mem_cons_of_mem _ hq)).trans (List.getElem?_set_ne (hp p List.mem_cons_self))
theorem bindItem_other {many : Bool} {ts : List Nat} {kind k : Nat} {x : D} {m m' : Mem} (h : bindItem many ts kind k x m = some m') {i : Nat} (hi : i ∉ ts) : m'[i]? = m[i]? := by
  by_cases hk : kind = 1
  · subst hk
    refine whenO_el h fun _ h => omap1 h fun p hp h => ?_
    cases h
    rw [two_el hp] at hi
    rw [List.getElem?_set_ne (fun q : p.2 = i => hi (q ▸ List.mem_cons_of_mem _ List.mem_cons_self)), List.getElem?_set_ne (fun q : p.1 = i => hi (q ▸ List.mem_cons_self))]
  · rw [bindItem_ne hk] at h
    cases many with
    | false =>
      refine omap1 h fun p hp h => ?_
      cases h
      rw [one_el hp] at hi
      exact List.getElem?_set_ne (fun q : p = i => hi (q ▸ List.mem_cons_self))
    | true =>
      refine dT_is (G := fun _ => _) h fun l h => whenB_el h fun _ h => ?_
      cases h
      exact fold_other _ _ fun p hp e => hi (e ▸ (List.of_mem_zip hp).1)

theorem EnvOk.forget {env : Env} {m m' : Mem} {g : G} {ρ : Rho} {h : Heap} {Pm : Params} (N : EnvOk an Pm env vars m' g ρ h) (hm : ∀ (i : Nat) v, m[i]? = some (some v) → m'[i]? = some (some v)) : EnvOk an Pm env vars m g ρ h := by
  obtain ⟨mr, hn, hv⟩ := N.ns
  refine ⟨N.kind, N.globals, N.builtins, N.nodup, ⟨mr, hn, fun i x v e1 e2 e3 => hv i x v e1 (hm i v e2) e3⟩, fun i x e1 e2 => ?_, N.known, N.loff, N.coff, N.apart, N.calive⟩
  obtain ⟨c, ov, q1, q2, q3⟩ := N.cell i x e1 e2
  exact ⟨c, ov, q1, q2, fun v ev => q3 v (hm i v ev)⟩

theorem comp_env {env : Env} {m : Mem} {g : G} {ρ : Rho} {h h' : Heap} {Pm : Params} {scope : Scope} {L : Addr} (N : EnvOk an Pm env vars m g ρ h) (hsc : env.scope.names = sc) (C : CompOk scope sc vars cvars caps) (k : ∀ b o, h.get? b = some o → h'.get? b = some o)
    (hL : h.get? L = none) (hLg : g L = none) (hLm : ¬ InMut ρ L) (hn : h'.Ns L fun _ => none) :
    EnvOk an Pm (compEnvC scope (closeGo env.cells scope.names []) L env) cvars (caps.map fun c => c.bind fun i => m.getD i none) g ρ h' ∧ (∀ x c, (closeGo env.cells scope.names []).lookup x = some c → env.cells.lookup x = some c) ∧ closureFor scope env = pure (closeGo env.cells scope.names []) := by
  have hcells : ∀ x, x ∈ vars → sc.lookup x = some .cell → ∃ c ov, env.cells.lookup x = some c ∧ h.IsCell c ov := by
    intro x hx hk
    obtain ⟨i, hi⟩ := List.mem_iff_getElem?.mp hx
    obtain ⟨c, ov, q1, q2, _⟩ := N.cell i x hi (.inl (by unfold Env.kindOf; rw [hsc]; exact hk))
    exact ⟨c, ov, q1, q2⟩
  have sub : ∀ x c, (closeGo env.cells scope.names []).lookup x = some c → env.cells.lookup x = some c := fun x c e => closeGo_sub (cells := env.cells) (names := scope.names) (acc := []) (by simp) (x, c) (mem_lookup e)
  have kn : ∀ x, (compEnvC scope (closeGo env.cells scope.names []) L env).kindOf x = (relabelS scope.names sc).lookup x := fun x => by
    unfold Env.kindOf
    show (relabel scope env).names.lookup x = _
    rw [relabel_names hsc N.kind]
  refine ⟨⟨C.kind, N.globals, N.builtins, C.nodup, ⟨_, hn, fun i x v e1 e2 e3 => ?_⟩, fun i x e1 e2 => ?_, fun i x e1 => ?_, ⟨hLg, hLm⟩, fun x c e => ?_, fun x y c e1 e2 => N.apart x y c (sub _ _ e1) (sub _ _ e2), fun x c e => ?_⟩, sub, ?_⟩
  · exfalso
    rcases C.each i x e1 with ⟨_, q⟩ | ⟨q, _⟩
    · rw [List.getElem?_map, q] at e2; cases e2
    · rw [kn, q] at e3; cases e3
  · rcases C.each i x e1 with ⟨q, _⟩ | ⟨q, j, q1, q2, q3, q4⟩
    · rw [kn, q] at e2; rcases e2 with e2 | e2 <;> cases e2
    · obtain ⟨c, ov, r1, r2, r3⟩ := N.cell j x q2 (.inl (by unfold Env.kindOf; rw [hsc]; exact q3))
      obtain ⟨c', hc'⟩ := closeGo_mem r1 (names := scope.names) (acc := []) q4
      obtain ⟨c'', hc''⟩ := lookup_mem hc'
      have : c'' = c := by have := sub _ _ hc''; rw [r1] at this; cases this; rfl
      subst this
      obtain ⟨oc, ho, hd⟩ := r2
      refine ⟨c'', ov, hc'', ⟨oc, k _ _ ho, hd⟩, fun v ev => r3 v ?_⟩
      rw [List.getElem?_map, q1] at ev
      exact getD_is (Option.some.inj ev)
  · rw [kn]
    rcases C.each i x e1 with ⟨q, _⟩ | ⟨q, _⟩
    · exact .inl q
    · exact .inr (.inl q)
  · obtain ⟨a, b, c'⟩ := N.coff x c (sub x c e)
    refine ⟨a, b, fun q => ?_⟩
    obtain ⟨o, ho⟩ := N.calive x c (sub x c e)
    have : c = L := q
    rw [this, hL] at ho; cases ho
  · obtain ⟨o, ho⟩ := N.calive x c (sub x c e)
    exact ⟨o, k _ _ ho⟩
  · refine closure_is fun p hp hf => ?_
    obtain ⟨q1, q2⟩ := C.frees p hp hf
    obtain ⟨c, ov, q3, _⟩ := hcells _ q2 q1
    rw [q3]; rfl
end

section
variable {prog : Program} {w : World} {K : Frag} {h₀ : Heap} {an : Nat → Str} {Φ : Tab} {n : Nat} {sc : List (Str × NameKind)} {vars cvars : List Str} {caps : List (Option Nat)}

theorem sameBut_ext {W : Addr → Prop} {g g₀ : G} {ρ ρ₀ : Rho} {hB h h' : Heap} {C : Addr} (X : Ext W g₀ ρ₀ hB g ρ h) (hf : hB.get? C = none) (sb : Heap.SameBut C h h') : Ext W g₀ ρ₀ hB g ρ h' :=
  { X with
    keep := fun b o e w m => (sb.2 b fun q => by rw [q, hf] at e; cases e).trans (X.keep b o e w m)
    live := fun b o e => by rw [sb.2 b fun q => by rw [q, hf] at e; cases e]; exact X.live b o e }

noncomputable def OutC (an : Nat → Str) (P : Params) (h₀ : Heap) (g : G) (ρ : Rho) (h : Heap) (s : Shared) (v : V) (σ' : Sto) (Q : Value → Addr → Shared → Prop) : Prop :=
  ∀ ⦃acc C g' ρ' h' tk mC⦄, St an P h₀ g' ρ' σ' h' → Ext noW g ρ h g' ρ' h' → IsV an P ρ' g' v acc → h'.Ns C mC → h.get? C = none → g' C = none → ¬ InMut ρ' C → Q acc C (sh s h' tk)

inductive CompI (an : Nat → Str) (P : Params) (h₀ : Heap) (env : Env) (vars : List Str) (g : G) (ρ : Rho) (h : Heap) (fp wr : List Addr) (g1 : G) (I : Nat → Heap → Prop) (items : List D) (go : Nat → List D → List D → Sto → Option (List D × Sto)) (r : List D × Sto) (m : Mem) (D : Addr) (s : Shared) (k : Nat) (s' : Shared) : Prop
  | mk (i : Nat) (g2 : G) (ρ2 : Rho) (σ3 : Sto) (h2 : Heap) (tk2 : Nat) (acc : List Mine.D) (ys : Array Value) (hs : s' = sh s h2 tk2) (L : LS an P h₀ env vars g ρ h (D :: fp) (D :: wr) m σ3 g2 ρ2 h2) (hg : ∀ b o, g1 b = some o → g2 b = some o) (hI : I i h2) (hi : i ≤ items.length) (hk : k = items.length - i)
    (hpl : h2.PlainList D ys) (hy : ys.size ≤ i) (hds : IsDs an P g2 acc ys.toList) (hgo : go i (items.drop i) acc σ3 = some r) : CompI an P h₀ env vars g ρ h fp wr g1 I items go r m D s k s'

theorem LS.forget {an : Nat → Str} {P : Params} {env : Env} {g g2 : G} {ρ ρ2 : Rho} {h h2 : Heap} {fp wr : List Addr} {m m' : Mem} {σ : Sto} (L : LS an P h₀ env vars g ρ h fp wr m' σ g2 ρ2 h2) (hm : ∀ (i : Nat) v, m[i]? = some (some v) → m'[i]? = some (some v)) : LS an P h₀ env vars g ρ h fp wr m σ g2 ρ2 h2 :=
  { L with ev := L.ev.forget hm }
theorem comp_loop {many : Bool} {ts : List Nat} {tgt iter elt : PySem.Expr} {kind : Nat} {melt : E} {ifs : List PySem.Expr} {mifs : List E} {scope : Scope} {lpos : Pos} {env : Env} {A : Around} {it : Value} {fp wr : List Addr} {I : Nat → Heap → Prop} {items l : List D} {D : Addr} {g g1 : G} {ρ ρ1 : Rho} {h h1 : Heap} {s : Shared} {tk : Nat} {σ σ2 : Sto} {m : Mem} {Rr : Result → Shared → Prop}
    (htgt : TgtOk sc cvars many ts tgt) (hloc : locs sc tgt = true) (hifs : All2 (SoundT prog w h₀ an Φ n sc cvars) ifs mifs) (helt : SoundE prog w h₀ an Φ n sc cvars elt melt) (hsc : env.scope.names = sc) (R : Room A n) (T : Turns prog w A it fp wr items.length tgt I (HasOf an w.params kind g1 items)) (hz : items.length ≤ sizeLine)
    (hDf : D ∉ fp) (hDw : D ∉ wr) (hm0 : ∀ t ∈ ts, ∀ u, m[t]? ≠ some (some u)) (L : LS an w.params h₀ env cvars g ρ h (D :: fp) (D :: wr) m σ g1 ρ1 h1) (hI : I 0 h1) (hpl : h1.PlainList D #[])
    (hgo : compGo (compEl (fun m' => E.dens? Φ m' true mifs) (fun m' => E.den Φ m' melt)) (bindItem many ts kind) m 0 items [] σ = some (l, σ2))
    (fin : ∀ {g2 ρ2 h3 tk3 ys}, LS an w.params h₀ env cvars g ρ h (D :: fp) (D :: wr) m σ2 g2 ρ2 h3 → h3.PlainList D ys → ys.size ≤ sizeLine → IsDs an w.params g2 l ys.toList → Rr (.ok .next) (sh s h3 tk3)) :
    codeAny (model prog w) A (.compLoop (.ListComp elt [⟨tgt, iter, ifs, 0⟩] scope lpos) 0 it (.ref D) env) Rr (sh s h1 tk) := by
  generalize hG : compGo (compEl (fun m' => E.dens? Φ m' true mifs) (fun m' => E.den Φ m' melt)) (bindItem many ts kind) m = go at hgo
  refine compLoop_any (CompI an w.params h₀ env cvars g ρ h fp wr g1 I items go (l, σ2) m D s) ?_ items.length (.mk 0 g1 ρ1 σ h1 tk [] #[] rfl L (fun _ _ e => e) hI (Nat.zero_le _) rfl hpl (Nat.le_refl _) trivial hgo)
  rintro k s' ⟨i, g2, ρ2, σ3, h2, tk2, acc, ys, rfl, L3, hg2, hI2, hil, rfl, hpl, hys, hds, hgo⟩
  rcases Nat.lt_or_ge i items.length with hlt | hge
  · refine T.step i _ _ _ _ _ hlt hI2 fun v h3 tk3 hk3 hgo3 => hgo3 _ _ fun h4 hI4 hHas hk4 => ?_
    rw [List.drop_eq_getElem_cons hlt, ← hG] at hgo
    refine obind1 hgo fun mb hbi hgo => obind hgo fun r σ4 hel hgo => obind hel fun tb σ5 htests hel => ?_
    have hk34 : ∀ b o, b ∉ wr → h2.get? b = some o → h4.get? b = some o := fun b o hb e => hk4 b o hb (hk3 b o hb e)
    have L4 := L3.wrote (h' := h4) fun b o hb e => hk34 b o (fun q => hb (List.mem_cons_of_mem _ q)) e
    have hpl4 : h4.PlainList D ys := hpl.at fun o e => hk34 _ o hDw e
    have al4 : ∀ b ∈ D :: fp, ∃ o, h4.get? b = some o := fun b hb => by
      rcases List.mem_cons.mp hb with q | hb
      · obtain ⟨nn, e⟩ := hpl4; exact ⟨_, q ▸ e⟩
      · exact T.live _ _ hI4 b hb
    refine bind_sound htgt (.inr hloc) hsc R L4.ev L4.st hg2 hHas (List.getElem?_eq_getElem hlt) hbi fun g5 ρ5 h5 tk5 S5 X5 N5 => tests_sound hifs hsc R N5 S5 htests fun g6 ρ6 h6 tk6 S6 X6 => ?_
    have X := X5.trans X6.env
    have N6 := N5.ext X6 noW_env
    have al6 : ∀ b ∈ D :: fp, ∃ o, h6.get? b = some o := fun b hb => by obtain ⟨o, e⟩ := al4 b hb; exact ⟨o, L4.kept X b hb o e⟩
    have L6 := L4.body al4 X S6 N6
    have hI6 := T.frame _ _ _ hI4 fun b hb => L4.kept X b (List.mem_cons_of_mem _ hb)
    have hpl6 : h6.PlainList D ys := hpl4.at fun o e => L4.kept X _ List.mem_cons_self o e
    have forgetM : ∀ (i : Nat) u, m[i]? = some (some u) → mb[i]? = some (some u) := fun i u e => (bindItem_other hbi fun q => hm0 i q u e).trans e
    have hg26 : ∀ b o, g1 b = some o → g6 b = some o := fun b o e => X.gle b o (hg2 b o e)
    cases tb with
    | false =>
      cases (if_f hel : some (none, σ5) = some (r, σ4))
      exact ⟨items.length - (i + 1), by omega, .mk (i + 1) g6 ρ6 _ h6 tk6 acc ys rfl (L6.forget forgetM) hg26 hI6 hlt rfl hpl6 (Nat.le_succ_of_le hys) (hds.mono X.gle) (hG ▸ hgo)⟩
    | true =>
      refine den1_el (if_t hel) fun ev σ6 hden hel => ?_
      refine helt hsc R N6 S6 hden fun x g7 ρ7 h7 tk7 S7 X7 hv7 => onD_is (G := fun ev => IsV an w.params ρ7 g7 ev x → _) hel (fun d hel hv7 => ?_) hv7
      cases hel
      have L7 := L6.body al6 X7.env S7 (N6.ext X7 noW_env)
      have hI7 := T.frame _ _ _ hI6 fun b hb => L6.kept X7.env b (List.mem_cons_of_mem _ hb)
      have hpl7 : h7.PlainList D ys := hpl6.at fun o e => L6.kept X7.env _ List.mem_cons_self o e
      refine wpAny_list_append_plain (s := sh s h7 tk7) hpl7 (fun h8 hpl8 hsb8 => ?_) (Nat.le_trans hys (Nat.le_trans hil hz))
      have L8 := L7.wrote (h' := h8) fun b o hb e => (hsb8.2 b fun q => hb (q ▸ List.mem_cons_self)).trans e
      have hI8 := T.frame _ _ _ hI7 fun b hb o e => (hsb8.2 b fun q => hDf (q ▸ hb)).trans e
      exact ⟨items.length - (i + 1), by omega, .mk (i + 1) g7 ρ7 _ h8 tk7 (acc ++ [d]) (ys.push x) rfl (L8.forget forgetM) (fun b o e => X7.gle b o (hg26 b o e)) hI8 hlt rfl hpl8 (by rw [Array.size_push]; exact Nat.succ_le_succ hys) (by rw [Array.toList_push]; exact (hds.mono fun b o e => X7.gle b o (X.gle b o e)).append ⟨hv7, trivial⟩) (hG ▸ hgo)⟩
  · have he : i = items.length := Nat.le_antisymm hil hge
    rw [he, List.drop_length, ← hG] at hgo
    refine T.done _ _ _ _ _ (he ▸ hI2) fun h3 tk3 hk3 => ?_
    cases hgo
    exact fin (L3.wrote fun b o hb e => hk3 b o (fun q => hb (List.mem_cons_of_mem _ q)) e) (hpl.at fun o e => hk3 _ o hDw e) (Nat.le_trans (he ▸ hys) hz) hds

theorem comp_core {many : Bool} {ts : List Nat} {tgt iter elt : PySem.Expr} {kind : Nat} {src melt : E} {ifs : List PySem.Expr} {mifs : List E} {scope : Scope} {lpos cpos : Pos} (CO : CompOk scope sc vars cvars caps) (hns : notSet iter = true) (htgt : TgtOk (relabelS scope.names sc) cvars many ts tgt) (hloc : locs (relabelS scope.names sc) tgt = true)
    (hts : ∀ t ∈ ts, caps[t]? = some none) (hi : SoundI prog w h₀ an Φ n sc vars tgt iter kind src) (hifs : All2 (SoundT prog w h₀ an Φ n (relabelS scope.names sc) cvars) ifs mifs) (helt : SoundE prog w h₀ an Φ n (relabelS scope.names sc) cvars elt melt)
    {env : Env} {A : Around} {Er : Value → Shared → Prop} {s : Shared} {h : Heap} {tk : Nat} {g : G} {ρ : Rho} {σ : Sto} {m : Mem} {v : V} {σ' : Sto} (hsc : env.scope.names = sc) (R : Room A n) (N : EnvOk an w.params env vars m g ρ h) (Z : St an w.params h₀ g ρ σ h)
    (hd : E.den Φ m (.comp caps many ts kind src mifs melt) σ = some (v, σ')) {use : Option (Value → Sem Unit)} {Q : Value → Shared → Prop}
    (hQ : OutC an w.params h₀ g ρ h s v σ' fun acc C => compPost (model prog w) A Er use Q acc C (.ok .next)) :
    wpAny (model prog w) A (comprehension (.ListComp elt [⟨tgt, iter, ifs, 0⟩] scope lpos) scope env cpos (newList []) false (eval iter env) use) Q Er (sh s h tk) := by
  refine den1_el hd fun v1 σ1 h1 hd => obind1 hd fun items hit hd => omap hd fun l σ2 hgo e => ?_
  have hclos : closureFor scope env = pure (closeGo env.cells scope.names []) := by
    refine closure_is fun p hp hf => ?_
    obtain ⟨q1, q2⟩ := CO.frees p hp hf
    obtain ⟨i, hi'⟩ := List.mem_iff_getElem?.mp q2
    obtain ⟨c, ov, q3, _⟩ := N.cell i _ hi' (.inl (by unfold Env.kindOf; rw [hsc]; exact q1))
    rw [q3]; rfl
  refine wpAny_comprehension_free rfl (folded_no hns) hclos CO.kind CO.names (hi hsc R N Z h1 hit fun it g1 ρ1 hh1 tk1 fp wr I L1 X1 hI hz hT => ?_)
  have T := hT A R.handled
  show wpAny _ _ _ _ _ (Shared.mk hh1 s.gens s.drawn tk1 s.os)
  refine wpAny_newObj_type (wpAny_newFunctionEnv CO.nocell (by intro y hy; simp at hy) (fun h₁ hns₁ hsb₁ => ?_) CO.kind)
  dsimp only at hns₁ hsb₁ ⊢
  generalize hH2 : hh1.push { cls := .type "list", dict := none, data := .seq ([] : List Value).toArray } = H2 at hns₁ hsb₁ ⊢
  have hC : H2.objs.size = hh1.objs.size + 1 := by rw [← hH2, Heap.size_push]
  have hDC : hh1.objs.size ≠ H2.objs.size := by rw [hC]; exact Nat.ne_of_lt (Nat.lt_succ_self _)
  have fresh : ∀ a, hh1.objs.size ≤ a → hh1.get? a = none := fun a ha => by
    cases e : hh1.get? a with
    | none => rfl
    | some o' => exact absurd (Heap.lt_size e) (Nat.not_lt.mpr ha)
  have hCle : hh1.objs.size ≤ H2.objs.size := by rw [hC]; exact Nat.le_succ _
  have old : ∀ b o, hh1.get? b = some o → h₁.get? b = some o := fun b o e => hsb₁.extBut b o (hC ▸ Nat.ne_of_lt (Nat.lt_succ_of_lt (Heap.lt_size e))) (Heap.get?_push_of_some _ (hH2 ▸ Heap.get?_push_of_some _ e))
  have hacc : h₁.PlainList hh1.objs.size #[] := ⟨_, hsb₁.extBut _ _ hDC (Heap.get?_push_of_some _ (hH2 ▸ Heap.get?_push_size _ rfl))⟩
  have off1 : ∀ a, hh1.objs.size ≤ a → g1 a = none ∧ ¬ InMut ρ1 a := by
    intro a ha
    refine ⟨?_, fun mb => ?_⟩
    · cases e : g1 a with
      | none => rfl
      | some o => have := L1.st.le a o e; rw [fresh a ha] at this; cases this
    · obtain ⟨o, e⟩ := L1.st.alive mb; rw [fresh a ha] at e; cases e
  have fresh0 : ∀ a, hh1.objs.size ≤ a → h.get? a = none := fun a ha => by
    cases e : h.get? a with
    | none => rfl
    | some o => obtain ⟨o', e'⟩ := X1.live a o e; rw [fresh a ha] at e'; cases e'
  obtain ⟨NC, csub, _⟩ := comp_env L1.ev hsc CO old (fresh _ hCle) (off1 _ hCle).1 (off1 _ hCle).2 (hns₁ : h₁.Ns H2.objs.size fun _ => none)
  have hR : ∀ b, EnvR (compEnvC scope (closeGo env.cells scope.names []) H2.objs.size env) b → b = H2.objs.size ∨ ∃ x, env.cells.lookup x = some b := fun b er => er.imp id fun ⟨x, q⟩ => ⟨x, csub x _ q⟩
  have hW : ∀ b, EnvW (compEnvC scope (closeGo env.cells scope.names []) H2.objs.size env) b → b = H2.objs.size := fun b we => we.elim id fun x => absurd rfl x.1
  have hfnC : (compEnvC scope (closeGo env.cells scope.names []) H2.objs.size env).scope.names = relabelS scope.names sc := relabel_names hsc N.kind
  have hloc' : (compEnvC scope (closeGo env.cells scope.names []) H2.objs.size env).locals = H2.objs.size := rfl
  have hI1 : I 0 h₁ := T.frame _ _ _ hI fun b hb o e => old b o e
  suffices loop : codeAny (model prog w) A (.compLoop (.ListComp elt [⟨tgt, iter, ifs, 0⟩] scope lpos) 0 it (.ref hh1.objs.size) (compEnvC scope (closeGo env.cells scope.names []) H2.objs.size env)) (compPost (model prog w) A Er use Q (.ref hh1.objs.size) H2.objs.size) (sh s h₁ tk1) from
    codeAny_compStart_list loop (T.self 0 s h₁ tk1 _ _ hI1 loop)
  generalize compEnvC scope (closeGo env.cells scope.names []) H2.objs.size env = envC at NC hR hW hfnC hloc' ⊢
  -- the loop's state
  have L2 : LS an w.params h₀ envC cvars g ρ h (hh1.objs.size :: fp) (hh1.objs.size :: wr) (caps.map fun c => c.bind fun i => m.getD i none) σ1 g1 ρ1 h₁ := by
    refine ⟨L1.st.keeps old, NC, (X1.trans (Ext.keeps old)).weaken fun _ f => f.elim, fun b hb => ?_, fun b hb => ?_, fun b hb => ?_, fun b hb => ?_⟩
    · rcases List.mem_cons.mp hb with rfl | hb
      · refine ⟨(off1 _ (Nat.le_refl _)).2, fun er => ?_⟩
        rcases hR _ er with q | ⟨x, q⟩
        · exact hDC q
        · obtain ⟨o, e⟩ := L1.ev.calive x _ q
          rw [fresh _ (Nat.le_refl _)] at e; cases e
      · refine ⟨(L1.safe b hb).1, fun er => ?_⟩
        rcases hR _ er with q | ⟨x, q⟩
        · obtain ⟨o, e⟩ := T.live _ _ hI b hb
          rw [q, fresh _ hCle] at e; cases e
        · exact (L1.safe b hb).2 (.inr ⟨x, q⟩)
    · rcases List.mem_cons.mp hb with rfl | hb
      · exact (off1 _ (Nat.le_refl _)).1
      · exact L1.off b hb
    · rcases List.mem_cons.mp hb with rfl | hb
      · exact fresh0 _ (Nat.le_refl _)
      · exact L1.fresh b hb
    · rcases List.mem_cons.mp hb with rfl | hb
      · exact List.mem_cons_self
      · exact List.mem_cons_of_mem _ (L1.sub b hb)
  have hDf : hh1.objs.size ∉ fp := fun hm => by obtain ⟨o, e⟩ := T.live _ _ hI _ hm; rw [fresh _ (Nat.le_refl _)] at e; cases e
  · refine comp_loop htgt hloc hifs helt hfnC R T hz hDf (fun hm => hDf (L1.sub _ hm)) (fun t ht u e => by rw [List.getElem?_map, hts t ht] at e; cases e) L2 hI1 hacc hgo fun {g2 ρ2 h3 tk3 ys} L4 hD hys hds => ?_
    cases e
    obtain ⟨nn, hD⟩ := hD
    have hgD : g2 hh1.objs.size = none := L4.off _ List.mem_cons_self
    have hmD := (L4.safe hh1.objs.size List.mem_cons_self).1
    obtain ⟨mr, hnC, _⟩ := L4.ev.ns
    rw [hloc'] at hnC
    have hup : ∀ b o, g2 b = some o → updG g2 hh1.objs.size { cls := .type "list", data := .seq ys nn } b = some o := fun b o e => (if_neg fun q => by rw [q, hgD] at e; cases e).trans e
    have h9 := L4.ev.loff
    rw [hloc'] at h9
    refine hQ (C := H2.objs.size) (L4.st.step hup (fun b o e => ?_) (fun b mb => (if_neg fun q : b = hh1.objs.size => hmD (q ▸ mb)).trans (L4.st.off b mb)) fun _ _ _ e => e) ?_ ⟨_, _, nn, ys, rfl, updG_self _ _ _, rfl, rfl, hys, hds.mono hup⟩ hnC (fresh0 _ hCle) ((if_neg (Ne.symm hDC)).trans h9.1) h9.2
    · unfold updG at e
      split at e
      · rename_i q; cases e; rw [q]; exact hD
      · exact L4.st.le b o e
    · have X := L4.ext.narrow (W' := noW) fun b o e we => by rw [hW b we, fresh0 _ hCle] at e; cases e
      exact { X with
        gle := fun b o e => hup b o (X.gle b o e)
        gnew := fun b o e => by
          unfold updG at e
          split at e
          · rename_i q; right; rw [q]; exact fresh0 _ (Nat.le_refl _)
          · exact X.gnew b o e }

theorem E_comp {many : Bool} {ts : List Nat} {tgt iter elt : PySem.Expr} {kind : Nat} {src melt : E} {ifs : List PySem.Expr} {mifs : List E} {scope : Scope} {lpos : Pos} (CO : CompOk scope sc vars cvars caps) (hns : notSet iter = true) (htgt : TgtOk (relabelS scope.names sc) cvars many ts tgt) (hloc : locs (relabelS scope.names sc) tgt = true)
    (hts : ∀ t ∈ ts, caps[t]? = some none) (hi : SoundI prog w h₀ an Φ n sc vars tgt iter kind src) (hifs : All2 (SoundT prog w h₀ an Φ n (relabelS scope.names sc) cvars) ifs mifs) (helt : SoundE prog w h₀ an Φ n (relabelS scope.names sc) cvars elt melt) :
    SoundE prog w h₀ an Φ n sc vars (.ListComp elt [⟨tgt, iter, ifs, 0⟩] scope lpos) (.comp caps many ts kind src mifs melt) := by
  intro env A Er s h tk g ρ σ m v σ' Q hsc R N Z hd hQ
  rw [eval_ListComp]
  refine comp_core CO hns htgt hloc hts hi hifs helt hsc R N Z hd fun acc C g' ρ' h' tk' mC S' X' hv hn f1 f2 f3 => ⟨mC, hn, fun h'' sb => ?_⟩
  exact hQ (S'.but f2 f3 sb) (sameBut_ext X' f1 sb) hv

theorem S_comp {many : Bool} {ts : List Nat} {tgt iter elt : PySem.Expr} {kind : Nat} {src melt : E} {ifs : List PySem.Expr} {mifs : List E} {scope : Scope} {lpos pos xp : Pos} {x : Str} {j : Nat} (CO : CompOk scope sc vars cvars caps) (hns : notSet iter = true) (htgt : TgtOk (relabelS scope.names sc) cvars many ts tgt) (hloc : locs (relabelS scope.names sc) tgt = true)
    (hts : ∀ t ∈ ts, caps[t]? = some none) (hi : SoundI prog w h₀ an Φ n sc vars tgt iter kind src) (hifs : All2 (SoundT prog w h₀ an Φ n (relabelS scope.names sc) cvars) ifs mifs) (helt : SoundE prog w h₀ an Φ n (relabelS scope.names sc) cvars elt melt)
    (hj : vars[j]? = some x) (hx : sc.lookup x = some .local) (hl : (xp.line == lpos.line) = true) (hno : (scope.names.any fun (n, k) => n == x && (k == .local || k == .cell)) = false) :
    SoundS prog w h₀ an Φ n sc vars (.Assign [.Name x xp] (.ListComp elt [⟨tgt, iter, ifs, 0⟩] scope lpos) pos) (.assign false [.var j] (.comp caps many ts kind src mifs melt)) := by
  intro env A Er s h tk g ρ σ m flw m' σ' Q hsc hfn R N Z hd hQ
  have hd : den1 (E.den Φ m (.comp caps many ts kind src mifs melt)) (fun v σ => (some [v]).bind fun vs => Mine.nexts (putAll Φ [.var j] vs (m, σ))) σ = some (flw, m', σ') := hd
  refine den1_el hd fun v1 σ1 h1 hd => hQ.nexts (r := some (m.set j (some v1), σ1)) hd fun m2 σ2 hput hQ => ?_
  have hQ := hQ.of hput
  have hk : env.kindOf x = some .local := by unfold Env.kindOf; rw [hsc]; exact hx
  have hb : env.blockKind = .function := by unfold Env.blockKind; rw [N.kind]; rfl
  have hsw : swapsWith (.ListComp elt [⟨tgt, iter, ifs, 0⟩] scope lpos) (some (.Name x xp)) pos.line env = pure true := by
    show pure (env.blockKind == .function && env.kindOf x == some .local && xp.line == lpos.line && !(scope.names.any fun (n, k) => n == x && (k == .local || k == .cell))) = _
    rw [hb, hk, hl, hno]; rfl
  rw [exec_Assign_Name_used _ _ _ _ hsw]
  refine wpAny_bind (wpAny_standAt (wpAny_bind ?_))
  show wpAny _ A (do let _ ← comprehension (.ListComp elt [⟨tgt, iter, ifs, 0⟩] scope lpos) scope env _ (newList []) false (eval iter env) (some (assign (.Name x xp) env))) _ _ (sh s h tk)
  refine wpAny_bind (wpAny_mono (comp_core (use := some (assign (.Name x xp) env)) (Q := fun _ s' => Q .next s') CO hns htgt hloc hts hi hifs helt hsc R N Z h1 fun acc C g' ρ' h' tk' mC S' X' hv hn f1 f2 f3 => ?_) (fun _ s' hq => wpAny_pure (wpAny_pure hq)) fun _ _ e => e)
  have N' := N.ext X' noW_env
  have hCW : ¬ EnvR env C := by
    rintro (q | ⟨y, q⟩)
    · obtain ⟨mr, ⟨o, _, _, ho, _⟩, _⟩ := N.ns
      rw [← q, f1] at ho; cases ho
    · obtain ⟨o, ho⟩ := N.calive y C q
      rw [f1] at ho; cases ho
  show wpAny _ A (assign (.Name x xp) env acc) _ _ _
  refine wpAny_assign_Name (store_sound N' S' hj (by rw [hk]; decide) (.inl hfn) hv fun h2 tk2 S2 X2 N2 => ?_)
  obtain ⟨oC, es, ep, hoC, rest⟩ := hn
  refine ⟨mC, ⟨oC, es, ep, X2.keep _ _ hoC (fun q => hCW q.r) f3, rest⟩, fun h3 sb => ?_⟩
  exact hQ (S2.but f2 f3 sb) (sameBut_ext (X'.env.trans X2) f1 sb) (N2.keeps fun b o we e => (sb.2 b fun q => hCW (q ▸ we)).trans e)
end

section
variable {prog : Program} {w : World} {K : Frag} {h₀ : Heap} {an : Nat → Str} {Φ : Tab} {n : Nat} {sc : List (Str × NameKind)} {vars : List Str}

theorem iadd_ints {a b : V} {x : D} {va vb : Value} {A : Around} {Er : Value → Shared → Prop} {s : Shared} {h : Heap} {tk : Nat} {ρ : Rho} {g : G} {Pm : Params} {Q : Value → Shared → Prop}
    (e : binD .Add a b = some x) (ha : IsV an Pm ρ g a va) (hb : IsV an Pm ρ g b vb) (hQ : ∀ val tk, IsD an Pm g x val → Q val (sh s h tk)) : wpAny (model prog w) A (inplaceOp .Add va vb) Q Er (sh s h tk) :=
  onI_is (G := fun _ va => wpAny (model prog w) A (inplaceOp .Add va vb) Q Er (sh s h tk)) ha e fun i t e => onI_is (G := fun _ vb => wpAny (model prog w) A (inplaceOp .Add (.int i t) vb) Q Er (sh s h tk)) hb e fun j u e => P.iadd_int (hQ _ _ (Option.some.inj e ▸ ⟨_, rfl⟩))

theorem S_aug_attr {addr : Nat → Addr} (WD : Wd K h₀) (TO : TabOk K an addr Φ) {o e : PySem.Expr} {mo me : E} {k : Nat} {x : Str} {tpos pos : Pos} (hxk : an k = x) (ho : SoundE prog w h₀ an Φ n sc vars o mo) (he : SoundE prog w h₀ an Φ n sc vars e me) :
    SoundS prog w h₀ an Φ n sc vars (.AugAssign (.Attribute o x tpos) .Add e pos) (.aug (.attr mo k) .Add me) := by
  subst hxk
  intro env A Er s h tk g ρ σ m flw m' σ' Q hsc hfn R N Z hd hQ
  have hd : augAttr Φ mo k .Add me m σ = some (flw, m', σ') := hd
  refine den1_el hd fun v1 σ1 h1 hd => obind1 hd fun old hold hd => den1_el hd fun v2 σ2 h2 hd => obind1 hd fun nw hnw hd => hQ.nexts hd fun m2 σ3 hput hQ => ?_
  refine wpAny_AugAssign_AttributeAny (ho hsc R N Z h1 fun ov g1 ρ1 hh1 tk1 S1 X1 hv1 => attr_sound TO (WD.k.keeps fun b o e => S1.heapOf b o e) S1 hv1 hold fun oldv holdv => he hsc R (N.ext X1 noW_env) S1 h2 fun v g2 ρ2 hh2 tk2 S2 X2 hv2 => iadd_ints hnw (holdv.mono X2.gle X2.pre) hv2 fun nv tk3 hnv => ?_)
  refine putAttr_el (G := fun ov => wpAny (model prog w) A (setAttr ov (an k) nv) _ Er (sh s hh2 tk3)) (hv1.mono X2.gle X2.pre) hput fun i p c ks vs hp hs hok hz e => ?_
  refine setAttr_sound WD TO (v := .d nw) S2 hp hs hok hz hnv fun h' tk' S3 X3 => ?_
  have X := (X1.trans X2).trans X3
  exact (hQ.of e) S3 X.env (N.ext X noW_env)

theorem augStore_plain {i : PySem.Expr} (h : notSlice i = true) (ov iv new : Value) : augStore i ov iv new = (do holding [new, ov, iv] (setItem ov iv new); release [new, ov, iv] []; pure .next) := by
  cases i with
  | Slice => exact Bool.noConfusion h
  | _ => rfl

theorem S_aug_idx {o ie e : PySem.Expr} {mo mi me : E} {tpos pos : Pos} (hns : notSlice ie = true) (ho : SoundE prog w h₀ an Φ n sc vars o mo) (hi : SoundE prog w h₀ an Φ n sc vars ie mi) (he : SoundE prog w h₀ an Φ n sc vars e me) :
    SoundS prog w h₀ an Φ n sc vars (.AugAssign (.Subscript o ie tpos) .Add e pos) (.aug (.idx mo mi) .Add me) := by
  intro env A Er s h tk g ρ σ m flw m' σ' Q hsc hfn R N Z hd hQ
  have hd : augIdx Φ mo mi .Add me m σ = some (flw, m', σ') := hd
  refine den2_el hd fun v1 σ1 v2 σ2 h1 h2 hd => wpAny_AugAssign_SubscriptAny (ho hsc R N Z h1 fun ov g1 ρ1 hh1 tk1 S1 X1 hv1 => hi hsc R (N.ext X1 noW_env) S1 h2 fun iv g2 ρ2 hh2 tk2 S2 X2 hv2 => ?_) (augStore_plain hns)
  refine onR_is (hv1.mono X2.gle X2.pre) hd fun i p hp hd => onI_is hv2 hd fun j t hd => obind1 hd fun old hold hd => den1_el hd fun v3 σ3 h3 hd => obind1 hd fun nw hnw hd => hQ.nexts hd fun m2 σ4 hput hQ => putAt_el hput fun l l' hs hput e => atL_el hold fun l0 hl0 hold => omap1 hold fun d hd0 hold => mlst_is S2 hl0 hp fun items q1 q2 q3 => ?_
  cases hold
  have h0 : 0 ≤ j := by unfold putIdx at hput; split at hput; rename_i q; exact q.1; cases hput
  obtain ⟨x, hx, hdx⟩ := q3.get ((if_pos h0).symm.trans hd0)
  rw [Array.getElem?_toList] at hx
  have hlt := (Array.getElem?_eq_some_iff.mp hx).1
  refine wpAny_getItem_list (s := sh s hh2 tk2) q1.isList h0 (by rw [sizeLine_eq] at q2; omega) hx (he hsc R ((N.ext X1 noW_env).ext X2 noW_env) S2 h3 fun v g3 ρ3 hh3 tk3 S3 X3 hv3 => ?_)
  refine iadd_ints (a := .d d) hnw (IsD.mono X3.gle d hdx) hv3 fun nv tk4 hnv => setItem_sound S3 (X3.pre _ _ hp) hs hput hnv fun h' tk' S4 X4 => ?_
  have X := ((X1.trans X2).trans X3).trans X4
  exact (hQ.of e) S4 X.env (N.ext X noW_env)

structure FnOk (K : Frag) (a : Addr) (fd : FuncData) (body : List Stmt) (vars : List Str) (nargs : Nat) : Prop where
  look : ∃ oc od osl, K.lookup a = some ⟨oc, od, .func fd, osl⟩
  co : fd.scope.isCoroutine = false
  gen : fd.scope.isGenerator = false
  bod : fd.body = .stmts body
  code : codeIn K fd.code fd.qualname = true
  globals : fd.globals = mainGlobals
  builtins : fd.builtins = builtinsNs
  closure : fd.closure = []
  kind : fd.scope.kind = .function
  nodup : vars.Nodup
  params : fd.params.args.map (·.arg) = vars.take nargs
  nargs : fd.params.args.length = nargs
  known : ∀ (i : Nat) x, vars[i]? = some x → fd.scope.names.lookup x = some .local ∨ (fd.scope.names.lookup x = some .cell ∧ ∀ k, ((cellsFrom k fd.scope.names []).lookup x).isSome = true)

theorem bindL_out {kf : Str → Option NameKind} {x : Str} : ∀ {names : List Str} {vs : List Value} {m : Str → Option Value}, x ∉ names → bindL kf (names.zip vs) m x = m x
  | [], vs, m, _ => by simp [bindL]
  | n :: r, [], m, _ => by simp [bindL]
  | n :: r, v :: vs, m, h => by
    simp only [List.mem_cons, not_or] at h
    simp only [List.zip_cons_cons, bindL]
    rw [bindL_out h.2]
    split
    · simp [h.1]
    · rfl
theorem bindC_out {kf : Str → Option NameKind} {x : Str} : ∀ {names : List Str} {vs : List Value} {m : Str → Option Value}, x ∉ names → bindC kf (names.zip vs) m x = m x
  | [], vs, m, _ => by simp [bindC]
  | n :: r, [], m, _ => by simp [bindC]
  | n :: r, v :: vs, m, h => by
    simp only [List.mem_cons, not_or] at h
    simp only [List.zip_cons_cons, bindC]
    rw [bindC_out h.2]
    split
    · rfl
    · simp [h.1]
theorem bindL_at {kf : Str → Option NameKind} {x : Str} (hk : kf x = some .local) : ∀ {names : List Str} {vs : List Value} {m : Str → Option Value} {i : Nat} {v : Value}, names.Nodup → names[i]? = some x → vs[i]? = some v → bindL kf (names.zip vs) m x = some v
  | [], _, _, _, _, _, h, _ => by simp at h
  | _ :: _, [], _, _, _, _, _, h => by simp at h
  | n :: r, u :: vs, m, 0, v, hn, h1, h2 => by
    simp only [List.getElem?_cons_zero, Option.some.injEq] at h1 h2
    subst h1 h2
    simp only [List.zip_cons_cons, bindL]
    rw [bindL_out (List.nodup_cons.mp hn).1, if_pos hk]
    simp
  | n :: r, u :: vs, m, i + 1, v, hn, h1, h2 => by
    simp only [List.getElem?_cons_succ] at h1 h2
    simp only [List.zip_cons_cons, bindL]
    exact bindL_at hk (List.nodup_cons.mp hn).2 h1 h2
theorem bindC_at {kf : Str → Option NameKind} {x : Str} (hk : kf x ≠ some .local) : ∀ {names : List Str} {vs : List Value} {m : Str → Option Value} {i : Nat} {v : Value}, names.Nodup → names[i]? = some x → vs[i]? = some v → bindC kf (names.zip vs) m x = some v
  | [], _, _, _, _, _, h, _ => by simp at h
  | _ :: _, [], _, _, _, _, _, h => by simp at h
  | n :: r, u :: vs, m, 0, v, hn, h1, h2 => by
    simp only [List.getElem?_cons_zero, Option.some.injEq] at h1 h2
    subst h1 h2
    simp only [List.zip_cons_cons, bindC]
    rw [bindC_out (List.nodup_cons.mp hn).1, if_neg hk]
    simp
  | n :: r, u :: vs, m, i + 1, v, hn, h1, h2 => by
    simp only [List.getElem?_cons_succ] at h1 h2
    simp only [List.zip_cons_cons, bindC]
    exact bindC_at hk (List.nodup_cons.mp hn).2 h1 h2

theorem zip_mem_names {names : List Str} {vs : List Value} {x : Str × Value} (h : x ∈ names.zip vs) : x.1 ∈ names := (List.of_mem_zip h).1

noncomputable def flowVal : Flow → Value
  | .ret v => v
  | _ => .none
theorem fn_spec (WD : Wd K h₀) {a : Addr} {fd : FuncData} {body : List Stmt} {mf : MFn} {vs : List Str} (F : FnOk K a fd body vs mf.nargs) (hlen : vs.length = mf.vars.length) (hb : SoundB prog w h₀ an Φ n fd.scope.names vs body mf.body) :
    FnSpec prog w K h₀ an (n + 1) a (mf.run Φ) := by
  intro A s h tk g ρ σ args vals mvs v σ' Q RF Z hv hrun hbind hQ
  obtain ⟨oc', od', fd', osl', hlook', hvl, hbt⟩ := hbind
  obtain ⟨oc, od, osl, hlook⟩ := F.look
  rw [hlook] at hlook'
  cases hlook'
  have X : K.In h := WD.k.keeps fun b o e => Z.heapOf b o e
  have hho := X _ _ hlook
  refine whenO_el hrun fun hnargs hrun => obind1 hrun fun p hden hret => ?_
  have hnargs := of_decide_eq_true hnargs
  obtain ⟨flw, m', σ2⟩ := p
  refine codeAny_call_function (by have := RF.depth; show A.depth < 1000; omega) hho rfl F.co F.gen F.bod (codeRec_of X F.code) ?_
  refine hbt (sh s h tk) X _ _ _ _ ?_
  rw [F.closure, F.params]
  have hkn : ∀ (i : Nat) x, vs[i]? = some x → fd.scope.names.lookup x = some .local ∨ (fd.scope.names.lookup x = some .cell ∧ ((cellsFrom (h.objs.size + 1) fd.scope.names []).lookup x).isSome = true) := fun i x e => (F.known i x e).imp id fun q => ⟨q.1, q.2 _⟩
  refine wpAny_newFunctionEnv_cells F.kind (fun x hx => ?_) fun env henv s₂ hC => ?_
  · have := List.mem_of_mem_take (zip_mem_names hx)
    obtain ⟨i, hi⟩ := List.mem_iff_getElem?.mp this
    exact hkn i _ hi
  obtain ⟨⟨⟨h2, tk2, rfl⟩, hns, hkeep, hfresh⟩, hcell, hapart, habove⟩ := hC
  have hns : h2.Ns _ _ := hns
  have hkeep : ∀ b o, h.get? b = some o → h2.get? b = some o := hkeep
  have hfresh : h.objs.size ≤ env.locals := hfresh
  have hcell : ∀ x c, env.cells.lookup x = some c → h2.IsCell c _ := hcell
  have henvk : ∀ x, env.kindOf x = fd.scope.names.lookup x := fun x => by rw [henv]; rfl
  have hcells : env.cells = cellsFrom (h.objs.size + 1) fd.scope.names [] := by rw [henv]; rfl
  have off : ∀ b, h.objs.size ≤ b → h.get? b = none := fun b hb => by
    cases e : h.get? b with
    | none => rfl
    | some o => exact absurd (Heap.lt_size e) (Nat.not_lt.mpr hb)
  have offg : ∀ b, h.objs.size ≤ b → g b = none ∧ ¬ InMut ρ b := by
    intro b hb
    refine ⟨?_, fun mb => ?_⟩
    · cases e : g b with
      | none => rfl
      | some o => have := Z.le b o e; rw [off b hb] at this; cases this
    · obtain ⟨o, e⟩ := Z.alive mb; rw [off b hb] at e; cases e
  have hcge : ∀ x c, env.cells.lookup x = some c → h.objs.size ≤ c ∧ c ≠ env.locals := fun x c e => by
    have := habove x c (mem_lookup e)
    exact ⟨Nat.le_of_lt (Nat.lt_of_le_of_lt hfresh this), Nat.ne_of_gt this⟩
  have hvlen : vals.length = mf.nargs := by rw [← hv.length, hnargs]
  have hmv : ∀ (i : Nat) u, (mvs.map some ++ List.replicate (mf.vars.length - mf.nargs) none)[i]? = some (some u) → i < mf.nargs ∧ ∃ val, vals[i]? = some val ∧ IsV an w.params ρ g u val := by
    intro i u e
    by_cases hi : i < mf.nargs
    · rw [List.getElem?_append_left (by simpa [hnargs] using hi), List.getElem?_map] at e
      simp only [Option.map_eq_some_iff, Option.some.injEq] at e
      obtain ⟨u', e, rfl⟩ := e
      obtain ⟨val, q1, q2⟩ := hv.get e
      exact ⟨hi, val, q1, q2⟩
    · rw [List.getElem?_append_right (by simpa [hnargs] using hi)] at e
      rw [List.getElem?_replicate] at e
      split at e <;> cases e
  have N2 : EnvOk an w.params env vs (mvs.map some ++ List.replicate (mf.vars.length - mf.nargs) none) g ρ h2 := by
    refine ⟨by rw [henv]; exact F.kind, by rw [henv]; exact F.globals, by rw [henv]; exact F.builtins, F.nodup, ⟨_, hns, fun i x u e1 e2 e3 => ?_⟩, fun i x e1 e2 => ?_, fun i x e => ?_, offg _ hfresh, fun x c e => ?_, fun x y c e1 e2 => name_of_addr hapart (mem_lookup e1) (mem_lookup e2), fun x c e => ?_⟩
    · obtain ⟨hi, val, q1, q2⟩ := hmv i u e2
      exact ⟨val, bindL_at e3 (F.nodup.sublist (List.take_sublist _ _)) (by rw [List.getElem?_take_of_lt hi]; exact e1) q1, q2⟩
    · rcases F.known i x e1 with q | ⟨q, q'⟩
      · rw [henvk, q] at e2; rcases e2 with e2 | e2 <;> cases e2
      · obtain ⟨c, hc⟩ := Option.isSome_iff_exists.mp (q' (h.objs.size + 1))
        rw [← hcells] at hc
        refine ⟨c, _, hc, hcell _ _ hc, fun u eu => ?_⟩
        obtain ⟨hi, val, q1, q2⟩ := hmv i u eu
        exact ⟨val, bindC_at (by rw [henvk, q]; decide) (F.nodup.sublist (List.take_sublist _ _)) (by rw [List.getElem?_take_of_lt hi]; exact e1) q1, q2⟩
    · rw [henvk]
      rcases F.known i x e with q | ⟨q, _⟩
      · exact .inl q
      · exact .inr (.inl q)
    · obtain ⟨a1, a2⟩ := hcge x c e
      exact ⟨(offg c a1).1, (offg c a1).2, a2⟩
    · obtain ⟨o, ho, _⟩ := hcell x c e
      exact ⟨o, ho⟩
  have X2 : Ext noW g ρ h g ρ h2 := Ext.keeps hkeep
  have Z2 : St an w.params h₀ g ρ σ h2 := Z.keeps hkeep
  refine ⟨WD.lim.keeps fun b o e => Z2.heapOf b o e, codeAny_func ?_⟩
  refine hb (s := s) (tk := tk2) (by rw [henv]; rfl) (by rw [henv]; exact fun q => by cases q) RF.deeper N2 Z2 hden fun f g3 ρ3 h3 tk3 S3 X3 N3 hf => ?_
  have X3' : Ext noW g ρ h g3 ρ3 h3 := (X2.env.trans X3).narrow fun b o e we => by
    rcases we with rfl | ⟨_, x, q⟩
    · rw [off _ hfresh] at e; cases e
    · rw [off _ (hcge x b q).1] at e; cases e
  have fin : ∀ val, IsV an w.params ρ3 g3 flw.val val → Q (.ok (.ret val)) (sh s h3 tk3) := fun val hval => by
    unfold ending at hret
    split at hret
    · exact whenO_el hret fun hli hd => omap1 hd fun d hfz hd => hQ.of hd (S3.freeze _ hli) (Ext.freeze S3 X3' Z.len) (freezeV_is S3 _ _ hfz hval)
    · exact hQ.of hret S3 X3' hval
  cases flw with
  | next => cases hf; exact fin .none rfl
  | ret u => obtain ⟨val, rfl, q⟩ := hf; exact fin val q
end

noncomputable def optB {α : Type} (x : Option α) (f : α → Bool) : Bool := match x with
  | some a => f a
  | none => false
theorem optB_el {α : Type} {x : Option α} {f : α → Bool} (h : optB x f = true) {P' : Prop} (k : ∀ a, x = some a → f a = true → P') : P' := by
  cases x with
  | none => exact Bool.noConfusion h
  | some a => exact k a rfl h
noncomputable def intsAre : List D → List Value → Bool
  | [], [] => true
  | d :: r, v :: s => d.intIs (fun i => isIntV i v) && intsAre r s
  | _, _ => false
theorem intsAre_is {an : Nat → Str} {P : Params} {g : G} : ∀ {l : List D} {vs : List Value}, intsAre l vs = true → IsDs an P g l vs
  | [], [], _ => trivial
  | [], _ :: _, h => Bool.noConfusion h
  | _ :: _, [], h => Bool.noConfusion h
  | d :: r, v :: s, h => and_el (b := intsAre r s) h fun h1 h2 => And.intro (intIs_el (G := fun d => IsD an P g d v) h1 fun i h => isIntV_el h) (intsAre_is h2)
noncomputable def tupAt (K : Frag) (l : List D) (a : Addr) : Bool := optB (K.lookup a) fun o => o.cls == .type "tuple" && (o.dict.isNone && (o.slots.isEmpty && dtseq o.data fun items _ => decide (items.size ≤ 1000) && intsAre l items.toList))
noncomputable def constIs (K : Frag) (d : D) (v : Value) : Bool := match d with
  | .int i => isIntV i v
  | .tup l => vlref v (tupAt K l)
  | _ => false
theorem constIs_is {an : Nat → Str} {P : Params} {g : G} {K : Frag} {d : D} {v : Value} (h : constIs K d v = true) (hK : ∀ a o, K.lookup a = some o → g a = some o) : IsD an P g d v := by
  cases d with
  | int i => exact isIntV_el h
  | tup l =>
    refine vlref_el (G := fun v => IsD an P g (.tup l) v) h fun a h => optB_el h fun o ho h => and_el h fun h1 h => and_el h fun h2 h => and_el h fun h3 h => ?_
    obtain ⟨cls, dict, data, slots⟩ := o
    cases beq_iff_eq.mp h1
    cases Option.isNone_iff_eq_none.mp h2
    cases Array.isEmpty_iff.mp h3
    exact dtseq_el (G := fun data => K.lookup a = some ⟨.type "tuple", none, data, #[]⟩ → _) h (fun items ep h ho => and_el h fun hz hi => ⟨_, _, items, rfl, hK _ _ ho, Nat.le_trans (of_decide_eq_true hz) (by decide), intsAre_is hi⟩) ho
  | _ => exact Bool.noConfusion h

noncomputable def plainFn (k : Nat) (fd : FuncData) : Bool := fd.params.posonlyargs.isEmpty && (fd.params.kwonlyargs.isEmpty && (fd.params.vararg.isNone && (fd.params.kwarg.isNone && (fd.defaults == .none && (fd.params.args.length == k && decide (fd.params.args.map (·.arg)).Nodup)))))
noncomputable def plainB (K : Frag) (a : Addr) (k : Nat) : Bool := keepIn K (.ref a) && optB (K.lookup a) fun o => dtfunc o.data (plainFn k)
theorem plain_shape {K : Frag} {a : Addr} {k : Nat} (h : plainB K a k = true) : Shape K a k [] [] := by
  refine and_el h fun hk h => optB_el h fun o ho h => ?_
  obtain ⟨oc, od, data, osl⟩ := o
  refine dtfunc_el (G := fun data => K.lookup a = some ⟨oc, od, data, osl⟩ → _) h (fun fd h ho => ?_) ho
  refine and_el h fun h1 h => and_el h fun h2 h => and_el h fun h3 h => and_el h fun h4 h => and_el h fun h5 h => and_el h fun h6 h7 => ?_
  have h6 := beq_iff_eq.mp h6
  refine ⟨hk, [], fun _ _ _ => trivial, fun vs kvs hl hkl => ⟨oc, od, fd, osl, ho, ?_, fun s X => ?_⟩⟩
  all_goals cases kvs with
    | cons => cases hkl
    | nil => ?_
  · rw [List.append_nil, List.append_nil, hl, h6]
  · rw [List.append_nil, List.append_nil]
    exact BindsTo.of_eq (bindArgs_plain fd vs (List.isEmpty_iff.mp h1) (List.isEmpty_iff.mp h2) (Option.isNone_iff_eq_none.mp h3) (Option.isNone_iff_eq_none.mp h4) (beq_iff_eq.mp h5) (by rw [hl, h6]) (of_decide_eq_true h7))

noncomputable def beqD : D → D → Bool
  | .none, b => b.isNone
  | .bool a, b => optB (b.onB some) (a == ·)
  | .int a, b => optB (b.onI some) (a == ·)
  | _, _ => false
theorem beqD_eq {a b : D} (h : beqD a b = true) : a = b := by
  cases a with
  | none => exact (none_el h).symm
  | bool a => cases b with
    | bool b => exact congrArg D.bool (beq_iff_eq.mp h)
    | _ => exact Bool.noConfusion h
  | int a => cases b with
    | int b => exact congrArg D.int (beq_iff_eq.mp h)
    | _ => exact Bool.noConfusion h
  | _ => exact Bool.noConfusion h
noncomputable def beqDs : List D → List D → Bool
  | [], b => b.isEmpty
  | a :: r, b => match b with
    | b :: s => beqD a b && beqDs r s
    | [] => false
theorem beqDs_eq : ∀ {a b : List D}, beqDs a b = true → a = b
  | [], b, h => (List.isEmpty_iff.mp h).symm
  | _ :: _, [], h => Bool.noConfusion h
  | a :: r, b :: s, h => and_el (b := beqDs r s) h fun h1 h2 => by rw [beqD_eq h1, beqDs_eq h2]

noncomputable def beqC (a b : D) : Bool := match a with
  | .tup l => optB (b.onT some) (beqDs l)
  | a => beqD a b
theorem beqC_eq {a b : D} (h : beqC a b = true) : a = b := by
  cases a with
  | tup l => cases b with
    | tup r => exact congrArg D.tup (beqDs_eq h)
    | _ => exact Bool.noConfusion h
  | _ => exact beqD_eq h

structure Cx where
  K : Frag
  names : List Str
  addrs : List Addr
  shapes : List (Addr × Nat × List D × List Str)
  okL : List (Nat × Nat)
  cattrL : List (Nat × Nat × Int)
  methL : List (Nat × Nat × Nat)
  initL : List (Nat × Nat)
  frzL : List Nat
  refs : List (Str × Addr)
  glos : List (Str × D)
  nones : List Str
  kept : List Addr
  plains : List (Addr × Nat)
noncomputable def Cx.an (cx : Cx) (i : Nat) : Str := match cx.names[i]? with
  | some x => x
  | none => ⟨Array.replicate (i + 1000) 63⟩
noncomputable def Cx.addr (cx : Cx) (f : Nat) : Addr := cx.addrs.getD f 0
noncomputable def Cx.shapeB (cx : Cx) (a : Addr) (k : Nat) (dfl : List D) (kwn : List Str) : Bool :=
  (dfl.isEmpty && (kwn.isEmpty && cx.plains.contains (a, k))) || cx.shapes.any fun s => s.1 == a && (s.2.1 == k && (beqDs s.2.2.1 dfl && s.2.2.2 == kwn))
noncomputable def Cx.tab (cx : Cx) (fn : Nat → List V → Sto → Option (V × Sto)) : Tab where
  fn := fn
  meth c k := (cx.methL.find? fun p => p.1 == c && p.2.1 == k).map (·.2.2)
  cattr c k := (cx.cattrL.find? fun p => p.1 == c && p.2.1 == k).map (.int ·.2.2)
  init c := (cx.initL.find? fun p => p.1 == c).map (·.2)
  frz c := cx.frzL.contains c
  ok c k := cx.okL.contains (c, k)

noncomputable def noneIn (K : Frag) (x : Str) : Bool := optB (nsIn K mainGlobals x) Option.isNone
theorem noneIn_is {K : Frag} {x : Str} (h : noneIn K x = true) : nsIn K mainGlobals x = some none := optB_el h fun a ha h => ha.trans (congrArg some (Option.isNone_iff_eq_none.mp h))
noncomputable def refIn (K : Frag) (x : Str) (a : Addr) : Bool := oo (nsIn K mainGlobals x) fun v => vlref v (· == a)
theorem refIn_is {K : Frag} {x : Str} {a : Addr} (h : refIn K x a = true) : nsIn K mainGlobals x = some (some (.ref a)) :=
  oo_el h fun v hv h => vlref_el (G := fun v => nsIn K mainGlobals x = some (some v) → _) h (fun b h hv => beq_iff_eq.mp h ▸ hv) hv
noncomputable def factsB (cx : Cx) : Bool := cx.plains.all (fun p => plainB cx.K p.1 p.2) && (cx.refs.all (fun p => refIn cx.K p.1 p.2) && (cx.glos.all (fun p => oo (nsIn cx.K mainGlobals p.1) (constIs cx.K p.2)) && (cx.nones.all (noneIn cx.K) && cx.kept.all fun c => keepIn cx.K (.ref c))))
section
variable {cx : Cx}
theorem facts_plain (h : factsB cx = true) {a : Addr} {k : Nat} (q : cx.plains.contains (a, k) = true) : plainB cx.K a k = true := and_el h fun h _ => List.all_eq_true.mp h (a, k) (List.contains_iff_mem.mp q)
theorem facts_ref (h : factsB cx = true) {x : Str} {a : Addr} (q : cx.refs.contains (x, a) = true) : refIn cx.K x a = true := and_el h fun _ h => and_el h fun h _ => List.all_eq_true.mp h (x, a) (List.contains_iff_mem.mp q)
theorem facts_glo (h : factsB cx = true) {x : Str} {d : D} (q : (cx.glos.any fun p => p.1 == x && beqC p.2 d) = true) : oo (nsIn cx.K mainGlobals x) (constIs cx.K d) = true :=
  and_el h fun _ h => and_el h fun _ h => and_el h fun h _ => (List.any_eq_true.mp q).elim fun p r => and_el r.2 fun r1 r2 => beq_iff_eq.mp r1 ▸ beqC_eq r2 ▸ List.all_eq_true.mp h p r.1
theorem facts_none (h : factsB cx = true) {x : Str} (q : cx.nones.contains x = true) : noneIn cx.K x = true := and_el h fun _ h => and_el h fun _ h => and_el h fun _ h => and_el h fun h _ => List.all_eq_true.mp h x (List.contains_iff_mem.mp q)
theorem facts_kept (h : factsB cx = true) {c : Addr} (q : cx.kept.contains c = true) : keepIn cx.K (.ref c) = true := and_el h fun _ h => and_el h fun _ h => and_el h fun _ h => and_el h fun _ h => List.all_eq_true.mp h c (List.contains_iff_mem.mp q)
end

structure Good (cx : Cx) (prog : Program) (w : World) (h₀ : Heap) (fn : Nat → List V → Sto → Option (V × Sto)) (n : Nat) : Prop where
  WD : Wd cx.K h₀
  TO : TabOk cx.K cx.an cx.addr (cx.tab fn)
  F : ∀ f, FnSpec prog w cx.K h₀ cx.an n (cx.addr f) (fn f)
  sh : ∀ s ∈ cx.shapes, Shape cx.K s.1 s.2.1 s.2.2.1 s.2.2.2
  fa : factsB cx = true
theorem Good.shape {cx : Cx} {prog : Program} {w : World} {h₀ : Heap} {fn : Nat → List V → Sto → Option (V × Sto)} {n : Nat} (Gd : Good cx prog w h₀ fn n) {a : Addr} {k : Nat} {dfl : List D} {kwn : List Str} (h : cx.shapeB a k dfl kwn = true) : Shape cx.K a k dfl kwn := by
  rcases Bool.or_eq_true_iff.mp h with q | q
  · refine and_el q fun h1 q => and_el q fun h2 q => ?_
    rw [List.isEmpty_iff.mp h1, List.isEmpty_iff.mp h2]
    exact plain_shape (facts_plain Gd.fa q)
  · obtain ⟨s, hs, h⟩ := List.any_eq_true.mp q
    refine and_el h fun h1 h => and_el h fun h2 h => and_el h fun h3 h4 => ?_
    have := Gd.sh s hs
    rwa [beq_iff_eq.mp h1, beq_iff_eq.mp h2, beqDs_eq h3, beq_iff_eq.mp h4] at this

section
variable {prog : Program} {w : World} {K : Frag} {h₀ : Heap} {an : Nat → Str} {Φ : Tab} {n : Nat} {sc : List (Str × NameKind)} {vars : List Str}
theorem E_glob (WD : Wd K h₀) {k : Nat} {d : D} {x : Str} {pos : Pos} {v : Value} (hk : sc.lookup x = some .globalImplicit) (hx : nsIn K mainGlobals x = some (some v)) (hd' : (x == ("__debug__" : Str)) = false) (hv : constIs K d v = true) : SoundE prog w h₀ an Φ n sc vars (.Name x pos) (.glob k d) := by
  intro env A Er s h tk g ρ σ m v' σ' Q hsc R N S hd hQ
  exact name_global (s := sh s h tk) WD N S (by show env.scope.names.lookup x = _; rw [hsc]; exact hk) hx hd' (hQ.here S hd (constIs_is hv fun a o e => S.base _ _ (WD.k _ _ e)) tk)
theorem E_fail {e : PySem.Expr} : SoundE prog w h₀ an Φ n sc vars e .fail := fun _ _ _ _ _ _ _ _ _ _ _ _ _ _ _ _ _ hd _ => noS hd
theorem T_fail {e : PySem.Expr} : SoundT prog w h₀ an Φ n sc vars e .fail := fun _ _ _ _ _ _ _ _ _ _ _ _ _ _ _ _ _ hd _ => noS hd
end

noncomputable def bi (cx : Cx) (sc : List (Str × NameKind)) (x name : Str) : Bool := x == name && (sc.lookup name == some .globalImplicit && cx.nones.contains name)
noncomputable def plainTest (e : PySem.Expr) : Bool := e.ctorIdx == 23 || (e.ctorIdx == 16 || e.ctorIdx == 20)
theorem plainTest_is {e : PySem.Expr} (h : plainTest e = true) (env : Env) (whole : Sem Value) : isTrue e env whole = (do let v ← whole; standAt e.pos; holding [v] (truthy v)) := by
  revert whole
  rcases Bool.or_eq_true_iff.mp h with h | h
  · exact @PySem.Expr.Name.elim (fun e => ∀ whole, isTrue e env whole = (do let v ← whole; standAt e.pos; holding [v] (truthy v))) e (beq_iff_eq.mp h) fun _ _ _ => rfl
  · rcases Bool.or_eq_true_iff.mp h with h | h
    · exact @PySem.Expr.Call.elim (fun e => ∀ whole, isTrue e env whole = (do let v ← whole; standAt e.pos; holding [v] (truthy v))) e (beq_iff_eq.mp h) fun _ _ _ _ _ => rfl
    · exact @PySem.Expr.Attribute.elim (fun e => ∀ whole, isTrue e env whole = (do let v ← whole; standAt e.pos; holding [v] (truthy v))) e (beq_iff_eq.mp h) fun _ _ _ _ => rfl
noncomputable def noDebug (x : Str) : Bool := !(x == ("__debug__" : Str)) && !(x == ("__classdict__" : Str))
noncomputable def nameOf (e : PySem.Expr) : Str := if h : e.ctorIdx = 23 then @PySem.Expr.Name.elim (fun _ => Str) e h (fun x _ => x) else Str.ofString ""
noncomputable def tgtNames (e : PySem.Expr) : List Str := if h : e.ctorIdx = 25 then @PySem.Expr.Tuple.elim (fun _ => List Str) e h (fun es _ _ => es.map nameOf) else [nameOf e]
noncomputable def cvarsOf (vars : List Str) (caps : List (Option Nat)) (ts : List Nat) (tgt : PySem.Expr) : List Str :=
  (List.range caps.length).map fun i => match caps.getD i none with
    | some j => vars.getD j (Str.ofString "")
    | none => ((ts.zip (tgtNames tgt)).lookup i).getD (Str.ofString "")
noncomputable def capB (scope : Scope) (sc csc : List (Str × NameKind)) (vars : List Str) (x : Str) : Option Nat → Bool
  | none => csc.lookup x == some .local
  | some j => csc.lookup x == some .cell && (vars[j]? == some x && (sc.lookup x == some .cell && scope.names.contains (x, .free)))
noncomputable def eachB (scope : Scope) (sc csc : List (Str × NameKind)) (vars : List Str) : List Str → List (Option Nat) → Bool
  | [], cs => cs.isEmpty
  | x :: xs, cs => match cs with
    | c :: cs => capB scope sc csc vars x c && eachB scope sc csc vars xs cs
    | [] => false
noncomputable def compB (scope : Scope) (sc : List (Str × NameKind)) (vars cvars : List Str) (caps : List (Option Nat)) : Bool :=
  scope.kind == .function && (scope.names.all (fun p => p.2 != .cell) && (scope.names.all (fun p => p.2 != .local || scope.names.lookup p.1 == some .local) && (decide cvars.Nodup && (eachB scope sc (relabelS scope.names sc) vars cvars caps &&
    scope.names.all (fun p => p.2 != .free || (sc.lookup p.1 == some .cell && vars.contains p.1))))))
noncomputable def CapIs (scope : Scope) (sc csc : List (Str × NameKind)) (vars : List Str) (x : Str) (c : Option (Option Nat)) : Prop :=
  (csc.lookup x = some .local ∧ c = some none) ∨ (csc.lookup x = some .cell ∧ ∃ j, c = some (some j) ∧ vars[j]? = some x ∧ sc.lookup x = some .cell ∧ (x, NameKind.free) ∈ scope.names)
theorem capB_is {scope : Scope} {sc csc : List (Str × NameKind)} {vars : List Str} {x : Str} {c : Option Nat} (h : capB scope sc csc vars x c = true) : CapIs scope sc csc vars x (some c) := by
  cases c with
  | none => exact .inl ⟨beq_iff_eq.mp h, rfl⟩
  | some j => exact and_el h fun h1 h => and_el h fun h2 h => and_el h fun h3 h4 => .inr ⟨beq_iff_eq.mp h1, j, rfl, beq_iff_eq.mp h2, beq_iff_eq.mp h3, List.contains_iff_mem.mp h4⟩
theorem eachB_is {scope : Scope} {sc csc : List (Str × NameKind)} {vars : List Str} : ∀ {cvars : List Str} {caps : List (Option Nat)}, eachB scope sc csc vars cvars caps = true → caps.length = cvars.length ∧ ∀ (i : Nat) x, cvars[i]? = some x → CapIs scope sc csc vars x caps[i]?
  | [], caps, h => by cases List.isEmpty_iff.mp h; exact ⟨rfl, fun i x e => nomatch e⟩
  | _ :: _, [], h => Bool.noConfusion h
  | x :: xs, c :: cs, h => and_el (b := eachB scope sc csc vars xs cs) h fun h1 h2 => by
    obtain ⟨a, b⟩ := eachB_is h2
    refine ⟨congrArg (· + 1) a, fun i y e => ?_⟩
    cases i with
    | zero => cases e; exact capB_is h1
    | succ i => exact b i y e
theorem or_res {a b : Bool} (h : (a || b) = true) (ha : a = false) : b = true := by rw [ha] at h; exact h
theorem compB_is {scope : Scope} {sc : List (Str × NameKind)} {vars cvars : List Str} {caps : List (Option Nat)} (h : compB scope sc vars cvars caps = true) : CompOk scope sc vars cvars caps := by
  refine and_el h fun h1 h => and_el h fun h2 h => and_el h fun h3 h => and_el h fun h4 h => and_el h fun h5 h6 => ?_
  obtain ⟨a, b⟩ := eachB_is h5
  exact ⟨beq_iff_eq.mp h1, fun p hp => bne_iff_ne.mp (List.all_eq_true.mp h2 p hp), fun p hp hl => beq_iff_eq.mp (or_res (List.all_eq_true.mp h3 p hp) (by rw [hl]; rfl)), of_decide_eq_true h4, b, a,
    fun p hp hl => and_el (or_res (List.all_eq_true.mp h6 p hp) (by rw [hl]; rfl)) fun q1 q2 => ⟨beq_iff_eq.mp q1, List.contains_iff_mem.mp q2⟩⟩

noncomputable def tgtB (sc : List (Str × NameKind)) (vars : List Str) : List PySem.Expr → List Nat → Bool
  | [], is => is.isEmpty
  | e :: es, is => match is with
    | i :: is => onName e (fun x _ => vars[i]? == some x && sc.lookup x != some .free) && tgtB sc vars es is
    | [] => false
noncomputable def tgtOkB (sc : List (Str × NameKind)) (vars : List Str) (many : Bool) (ts : List Nat) (tgt : PySem.Expr) : Bool := match many with
  | false => optB (one? ts) fun i => onName tgt fun x _ => vars[i]? == some x && sc.lookup x != some .free
  | true => onTuple tgt fun es _ _ => tgtB sc vars es ts
theorem tgtB_is {sc : List (Str × NameKind)} {vars : List Str} : ∀ {es : List PySem.Expr} {is : List Nat}, tgtB sc vars es is = true → ∃ xs : List (Str × Pos), es = xs.map (fun p => .Name p.1 p.2) ∧ All2 (fun (p : Str × Pos) i => vars[i]? = some p.1 ∧ sc.lookup p.1 ≠ some .free) xs is
  | [], is, h => by cases List.isEmpty_iff.mp h; exact ⟨[], rfl, .nil⟩
  | _ :: _, [], h => Bool.noConfusion h
  | e :: es, i :: is, h => and_el (b := tgtB sc vars es is) h fun h1 h2 => by
    obtain ⟨xs, rfl, hxs⟩ := tgtB_is h2
    exact onName_el (G := fun e => ∃ ys : List (Str × Pos), e :: xs.map (fun p => .Name p.1 p.2) = ys.map (fun p => .Name p.1 p.2) ∧ All2 (fun (p : Str × Pos) i => vars[i]? = some p.1 ∧ sc.lookup p.1 ≠ some .free) ys (i :: is)) h1 fun x p h => and_el h fun q1 q2 => ⟨(x, p) :: xs, rfl, .cons ⟨beq_iff_eq.mp q1, bne_iff_ne.mp q2⟩ hxs⟩
theorem tgtOkB_is {sc : List (Str × NameKind)} {vars : List Str} {many : Bool} {ts : List Nat} {tgt : PySem.Expr} (h : tgtOkB sc vars many ts tgt = true) : TgtOk sc vars many ts tgt ∧ plainTgt tgt = true := by
  cases many with
  | false => exact optB_el h fun i hi h => onName_el (G := fun tgt => TgtOk sc vars false ts tgt ∧ plainTgt tgt = true) h fun x p h => and_el h fun h1 h2 => ⟨⟨i, x, p, one_el hi, rfl, beq_iff_eq.mp h1, bne_iff_ne.mp h2⟩, rfl⟩
  | true => exact onTuple_el (G := fun tgt => TgtOk sc vars true ts tgt ∧ plainTgt tgt = true) h fun es k p h => (tgtB_is h).elim fun xs q => ⟨⟨xs, k, p, by rw [q.1], q.2⟩, rfl⟩

theorem All2.map {α β : Type} {R R' : α → β → Prop} {l : List α} {r : List β} (h : All2 R l r) (f : ∀ a b, R a b → R' a b) : All2 R' l r := by
  induction h with
  | nil => exact .nil
  | cons x _ ih => exact .cons (f _ _ x) ih

section
variable {α : Type}
noncomputable def onOne (l : List α) (f : α → Bool) : Bool := match l with
  | [] => false
  | a :: r => r.isEmpty && f a
noncomputable def onTwo (l : List α) (f : α → α → Bool) : Bool := match l with
  | [] => false
  | a :: r => onOne r (f a)
theorem onOne_el {l : List α} {f : α → Bool} (h : onOne l f = true) {G : List α → Prop} (k : ∀ a, f a = true → G [a]) : G l := by
  cases l with
  | nil => exact Bool.noConfusion h
  | cons a r => exact and_el h fun h1 h2 => List.isEmpty_iff.mp h1 ▸ k a h2
theorem onTwo_el {l : List α} {f : α → α → Bool} (h : onTwo l f = true) {G : List α → Prop} (k : ∀ a b, f a b = true → G [a, b]) : G l := by
  cases l with
  | nil => exact Bool.noConfusion h
  | cons a r => exact onOne_el (G := fun r => G (a :: r)) h (k a)
noncomputable def onSome (x : Option α) (f : α → Bool) : Bool := optB x f
end
noncomputable def callB (cx : Cx) (sc : List (Str × NameKind)) (name : Str) (e : PySem.Expr) (f : List PySem.Expr → Bool) : Bool := onCall e fun g args kws _ => onName g fun x _ => bi cx sc x name && (kws.isEmpty && f args)
theorem bi_el {cx : Cx} (fa : factsB cx = true) {sc : List (Str × NameKind)} {x name : Str} (h : bi cx sc x name = true) {P' : Prop} (k : x = name → sc.lookup name = some .globalImplicit → nsIn cx.K mainGlobals name = some none → P') : P' :=
  and_el h fun h1 h => and_el h fun h2 h3 => k (beq_iff_eq.mp h1) (beq_iff_eq.mp h2) (noneIn_is (facts_none fa h3))
theorem callB_el {cx : Cx} (fa : factsB cx = true) {sc : List (Str × NameKind)} {name : Str} {e : PySem.Expr} {f : List PySem.Expr → Bool} (h : callB cx sc name e f = true) {G : PySem.Expr → Prop} (k : ∀ np args p, sc.lookup name = some .globalImplicit → nsIn cx.K mainGlobals name = some none → f args = true → G (.Call (.Name name np) args [] p)) : G e :=
  onCall_el (G := G) h fun g args kws p h => onName_el (G := fun g => G (.Call g args kws p)) h fun x np h => and_el h fun h1 h => and_el h fun h2 h3 => bi_el fa h1 fun e1 q1 q2 => e1 ▸ List.isEmpty_iff.mp h2 ▸ k np args p q1 q2 h3
noncomputable def isBi (cx : Cx) (sc : List (Str × NameKind)) (name : Str) (e : PySem.Expr) : Bool := onName e fun x _ => bi cx sc x name

noncomputable def litB (d : D) (c : Const) : Bool := match d with
  | .none => c.ctorIdx == 0
  | .bool a => cnbool c (a == ·)
  | .int a => cnint c (a == ·)
  | .str a => cnstr c (a == ·)
  | _ => false
noncomputable def isSliceTo (e : PySem.Expr) (f : PySem.Expr → Bool) : Bool := onSlice e fun a b c _ => a.isNone && (c.isNone && optB b f)
noncomputable def isSliceFrom (e : PySem.Expr) (f : PySem.Expr → Bool) : Bool := onSlice e fun a b c _ => b.isNone && (c.isNone && optB a f)
noncomputable def boolOf (isAnd : Bool) : BoolOp := if isAnd then .And else .Or

noncomputable def iterB (cx : Cx) (sc : List (Str × NameKind)) (many : Bool) (kind : Nat) (iter : PySem.Expr) (f : PySem.Expr → Bool) : Bool := match kind with
  | 0 => f iter
  | 1 => many && callB cx sc "enumerate" iter fun args => onOne args fun a' => notStar a' && f a'
  | 2 => callB cx sc "range" iter fun args => onOne args fun a' => notStar a' && f a'
  | _ => false

mutual
noncomputable def okE (cx : Cx) : E → List (Str × NameKind) → List Str → Bool → PySem.Expr → Bool
  | .lit d, sc, vars, t, e => !t && onConstant e fun c _ _ => litB d c
  | .loc i, sc, vars, t, e => onName e fun x _ => vars[i]? == some x && noDebug x
  | .glob _ d, sc, vars, t, e => !t && onName e fun x _ => sc.lookup x == some .globalImplicit && (noDebug x && cx.glos.any fun p => p.1 == x && beqC p.2 d)
  | .bop isAnd es, sc, vars, t, e => onBoolOp e fun op vs _ => op == boolOf isAnd && (!vs.isEmpty && okEs cx es sc vars t vs)
  | .not a, sc, vars, t, e => onUnaryOp e fun op e' _ => op == .Not && okE cx a sc vars t e'
  | .neg a, sc, vars, t, e => !t && onUnaryOp e fun op e' _ => op == .USub && okE cx a sc vars false e'
  | .bin op a b, sc, vars, t, e => !t && onBinOp e fun a' op' b' _ => op == op' && (okE cx a sc vars false a' && okE cx b sc vars false b')
  | .cmp op a b, sc, vars, t, e => onCompare e fun a' ops bs _ => onOne ops fun op' => onOne bs fun b' => op == op' && (!behindInMarks op b' && (okE cx a sc vars false a' && okE cx b sc vars false b'))
  | .chain op op₂ a b c, sc, vars, t, e => onCompare e fun a' ops bs _ => onTwo ops fun op' op₂' => onTwo bs fun b' c' => op == op' && (op₂ == op₂' && (!behindInMarks op₂ c' && (okE cx a sc vars false a' && (okE cx b sc vars false b' && okE cx c sc vars false c'))))
  | .ite c a b, sc, vars, t, e => onIfExp e fun c' a' b' _ => okE cx c sc vars true c' && (okE cx a sc vars t a' && okE cx b sc vars t b')
  | .attr a k, sc, vars, t, e => onAttribute e fun a' x _ => cx.an k == x && (notBare a' && okE cx a sc vars false a')
  | .idx a i, sc, vars, t, e => !t && onSubscript e fun a' i' _ => notSlice i' && (okE cx a sc vars false a' && okE cx i sc vars false i')
  | .cutTo a i, sc, vars, t, e => !t && onSubscript e fun a' s _ => isSliceTo s fun i' => okE cx a sc vars false a' && okE cx i sc vars false i'
  | .cutFrom a i, sc, vars, t, e => !t && onSubscript e fun a' s _ => isSliceFrom s fun i' => okE cx a sc vars false a' && okE cx i sc vars false i'
  | .tup es, sc, vars, t, e => !t && onTuple e fun vs _ _ => vs.all notStar && (decide (vs.length ≤ 1000) && okEs cx es sc vars false vs)
  | .lst _ es, sc, vars, t, e => !t && onList e fun vs _ => vs.all notStar && (decide (vs.length ≤ 1000) && okEs cx es sc vars false vs)
  | .call f es dfl kw, sc, vars, t, e => onCall e fun g vs kws _ => onName g fun x _ => sc.lookup x == some .globalImplicit && (cx.refs.contains (x, cx.addr f) && (noDebug x && (vs.all notStar && (kws.all (·.arg.isSome) && ((kws.filterMap (·.arg)).length == kws.length &&
      (cx.shapeB (cx.addr f) vs.length dfl (kws.filterMap (·.arg)) && (okEs cx es sc vars false vs && okEs cx kw sc vars false (kws.map (·.value)))))))))
  | .new c es dfl, sc, vars, t, e => onCall e fun g vs kws _ => onName g fun x _ => kws.isEmpty && (sc.lookup x == some .globalImplicit && (cx.refs.contains (x, c) && (noDebug x && (vs.all notStar && (cx.kept.contains c && (cx.initL.all (fun p => p.1 != c || cx.shapeB (cx.addr p.2) (vs.length + 1) dfl []) && okEs cx es sc vars false vs))))))
  | .meth a k es, sc, vars, t, e => onCall e fun g vs kws pos => onAttribute g fun a' x apos => kws.isEmpty && (notBare a' && (vs.all notStar && (decide (vs.length < 30) && (apos.endLine == pos.line && (cx.an k == x && (cx.methL.all (fun p => p.2.1 != k || cx.shapeB (cx.addr p.2.2) (vs.length + 1) [] []) &&
      (okE cx a sc vars false a' && okEs cx es sc vars false vs)))))))
  | .append a b, sc, vars, t, e => onCall e fun g vs kws pos => onAttribute g fun a' x apos => onOne vs fun b' => kws.isEmpty && (notBare a' && (notStar b' && (apos.endLine == pos.line && (x == "append" && (okE cx a sc vars false a' && okE cx b sc vars false b')))))
  | .len a, sc, vars, t, e => callB cx sc "len" e fun args => onOne args fun a' => notStar a' && okE cx a sc vars false a'
  | .abs a, sc, vars, t, e => callB cx sc "abs" e fun args => onOne args fun a' => notStar a' && okE cx a sc vars false a'
  | .minl a, sc, vars, t, e => callB cx sc "min" e fun args => onOne args fun a' => notStar a' && okE cx a sc vars false a'
  | .tuple a, sc, vars, t, e => callB cx sc "tuple" e fun args => onOne args fun a' => notStar a' && okE cx a sc vars false a'
  | .max2 a b, sc, vars, t, e => callB cx sc "max" e fun args => onTwo args fun a' b' => notStar a' && (notStar b' && (okE cx a sc vars false a' && okE cx b sc vars false b'))
  | .min2 a b, sc, vars, t, e => callB cx sc "min" e fun args => onTwo args fun a' b' => notStar a' && (notStar b' && (okE cx a sc vars false a' && okE cx b sc vars false b'))
  | .isint a, sc, vars, t, e => callB cx sc "isinstance" e fun args => onTwo args fun a' y => isBi cx sc "int" y && (notStar a' && okE cx a sc vars false a')
  | .isbool a, sc, vars, t, e => callB cx sc "isinstance" e fun args => onTwo args fun a' y => isBi cx sc "bool" y && (notStar a' && okE cx a sc vars false a')
  | .lrange a b, sc, vars, t, e => callB cx sc "list" e fun args => onOne args fun r => callB cx sc "range" r fun args => onTwo args fun a' b' => notStar a' && (notStar b' && (okE cx a sc vars false a' && okE cx b sc vars false b'))
  | .comp caps many ts kind src ifs elt, sc, vars, t, e => !t && onListComp e fun elt' gens scope _ => onOne gens fun c => c.is_async == 0 && (compB scope sc vars (cvarsOf vars caps ts c.target) caps && (notSet c.iter && (tgtOkB (relabelS scope.names sc) (cvarsOf vars caps ts c.target) many ts c.target &&
      (locs (relabelS scope.names sc) c.target && (ts.all (fun t => caps[t]? == some none) && (iterB cx sc many kind c.iter (fun e => okE cx src sc vars false e) &&
      (okEs cx ifs (relabelS scope.names sc) (cvarsOf vars caps ts c.target) true c.ifs && okE cx elt (relabelS scope.names sc) (cvarsOf vars caps ts c.target) false elt')))))))
  | .fail, sc, vars, t, e => true
noncomputable def okEs (cx : Cx) : List E → List (Str × NameKind) → List Str → Bool → List PySem.Expr → Bool
  | [], sc, vars, t, es => es.isEmpty
  | m :: ms, sc, vars, t, es => match es with
    | e :: es => okE cx m sc vars t e && okEs cx ms sc vars t es
    | [] => false
end

section
variable {prog : Program} {w : World} {cx : Cx} {h₀ : Heap} {fn : Nat → List V → Sto → Option (V × Sto)} {n : Nat} {sc : List (Str × NameKind)} {vars : List Str}
noncomputable abbrev SE (cx : Cx) (prog : Program) (w : World) (h₀ : Heap) (fn : Nat → List V → Sto → Option (V × Sto)) (n : Nat) (sc : List (Str × NameKind)) (vars : List Str) := SoundE prog w h₀ cx.an (cx.tab fn) n sc vars
noncomputable abbrev ST (cx : Cx) (prog : Program) (w : World) (h₀ : Heap) (fn : Nat → List V → Sto → Option (V × Sto)) (n : Nat) (sc : List (Str × NameKind)) (vars : List Str) := SoundT prog w h₀ cx.an (cx.tab fn) n sc vars
noncomputable def Snd (cx : Cx) (prog : Program) (w : World) (h₀ : Heap) (fn : Nat → List V → Sto → Option (V × Sto)) (n : Nat) (sc : List (Str × NameKind)) (vars : List Str) (t : Bool) (e : PySem.Expr) (me : E) : Prop :=
  match t with
  | true => ST cx prog w h₀ fn n sc vars e me
  | false => SE cx prog w h₀ fn n sc vars e me
theorem Snd.both {t : Bool} {e : PySem.Expr} {me : E} (hp : plainTest e = true) (h : SE cx prog w h₀ fn n sc vars e me) : Snd cx prog w h₀ fn n sc vars t e me := by
  cases t with
  | true => exact T_of_E h (plainTest_is hp)
  | false => exact h
theorem Snd.of {t : Bool} {e : PySem.Expr} {me : E} (h1 : ST cx prog w h₀ fn n sc vars e me) (h : SE cx prog w h₀ fn n sc vars e me) : Snd cx prog w h₀ fn n sc vars t e me := by
  cases t with
  | true => exact h1
  | false => exact h
theorem val_el {t b : Bool} (h : (!t && b) = true) {e : PySem.Expr} {me : E} (k : b = true → SE cx prog w h₀ fn n sc vars e me) : Snd cx prog w h₀ fn n sc vars t e me := by
  cases t with
  | true => exact Bool.noConfusion h
  | false => exact k h
theorem nd1 {x : Str} (h : noDebug x = true) : (x == ("__debug__" : Str)) = false := and_el h fun h1 _ => by rwa [Bool.not_eq_true'] at h1
theorem nd2 {x : Str} (h : noDebug x = true) : (x == ("__classdict__" : Str)) = false := and_el h fun _ h1 => by rwa [Bool.not_eq_true'] at h1
theorem no_is {b : Bool} (h : (!b) = true) : b = false := by rwa [Bool.not_eq_true'] at h
theorem find_is {α β : Type} {l : List α} {p : α → Bool} {f : α → β} {b : β} (h : (l.find? p).map f = some b) : ∃ a ∈ l, p a = true ∧ f a = b :=
  (Option.map_eq_some_iff.mp h).elim fun a q => ⟨a, List.mem_of_find?_eq_some q.1, List.find?_some q.1, q.2⟩
theorem Good.init {c f : Nat} (h : (cx.tab fn).init c = some f) : (c, f) ∈ cx.initL :=
  (find_is (l := cx.initL) h).elim fun p q => by obtain ⟨q1, q2, rfl⟩ := q; cases beq_iff_eq.mp q2; exact q1
theorem Good.meth {c k f : Nat} (h : (cx.tab fn).meth c k = some f) : (c, k, f) ∈ cx.methL :=
  (find_is (l := cx.methL) h).elim fun p q => by
    obtain ⟨q1, q2, rfl⟩ := q
    exact and_el q2 fun h1 h2 => by cases beq_iff_eq.mp h1; cases beq_iff_eq.mp h2; exact q1
theorem all_res {α : Type} {l : List α} {p q : α → Bool} (h : l.all (fun a => p a || q a) = true) {a : α} (ha : a ∈ l) (hp : p a = false) : q a = true := or_res (List.all_eq_true.mp h a ha) hp
theorem nat_ne {a : Nat} : (a != a) = false := bne_self_eq_false a

noncomputable def Chk (cx : Cx) (prog : Program) (w : World) (h₀ : Heap) (fn : Nat → List V → Sto → Option (V × Sto)) (n : Nat) (me : E) : Prop :=
  ∀ ⦃sc : List (Str × NameKind)⦄ ⦃vars : List Str⦄ ⦃t : Bool⦄ ⦃e : PySem.Expr⦄, okE cx me sc vars t e = true → Snd cx prog w h₀ fn n sc vars t e me
noncomputable def Chks (cx : Cx) (prog : Program) (w : World) (h₀ : Heap) (fn : Nat → List V → Sto → Option (V × Sto)) (n : Nat) (ms : List E) : Prop :=
  ∀ ⦃sc : List (Str × NameKind)⦄ ⦃vars : List Str⦄ ⦃t : Bool⦄ ⦃es : List PySem.Expr⦄, okEs cx ms sc vars t es = true → All2 (Snd cx prog w h₀ fn n sc vars t) es ms
theorem Chk.v {me : E} (c : Chk cx prog w h₀ fn n me) {e : PySem.Expr} (h : okE cx me sc vars false e = true) : SE cx prog w h₀ fn n sc vars e me := c h
theorem Chk.t {me : E} (c : Chk cx prog w h₀ fn n me) {e : PySem.Expr} (h : okE cx me sc vars true e = true) : ST cx prog w h₀ fn n sc vars e me := c h
theorem Chks.v {me : List E} (c : Chks cx prog w h₀ fn n me) {e : List PySem.Expr} (h : okEs cx me sc vars false e = true) : All2 (SE cx prog w h₀ fn n sc vars) e me := c h
theorem Chks.t {me : List E} (c : Chks cx prog w h₀ fn n me) {e : List PySem.Expr} (h : okEs cx me sc vars true e = true) : All2 (ST cx prog w h₀ fn n sc vars) e me := c h

theorem iterB_snd (Gd : Good cx prog w h₀ fn n) {many : Bool} {kind : Nat} {src : E} {ts : List Nat} {tgt iter : PySem.Expr} {sc' : List (Str × NameKind)} {vars' : List Str} {f : PySem.Expr → Bool} (hf : ∀ e, f e = true → SE cx prog w h₀ fn n sc vars e src)
    (h : iterB cx sc many kind iter f = true) (ht : tgtOkB sc' vars' many ts tgt = true) : SoundI prog w h₀ cx.an (cx.tab fn) n sc vars tgt iter kind src := by
  match kind, h with
  | 0, h => exact I_data (tgtOkB_is ht).2 (hf _ h)
  | 1, h =>
    refine and_el h fun hm h => ?_
    subst hm
    exact callB_el Gd.fa (G := fun iter => SoundI prog w h₀ cx.an (cx.tab fn) n sc vars tgt iter 1 src) h fun np args p q1 q2 h => onOne_el (G := fun args => SoundI prog w h₀ cx.an (cx.tab fn) n sc vars tgt (.Call (.Name "enumerate" np) args [] p) 1 src) h fun a h => and_el h fun h1 h2 =>
      onTuple_el (G := fun tgt => SoundI prog w h₀ cx.an (cx.tab fn) n sc vars tgt _ 1 src) ht fun es k p _ => I_enum Gd.WD q1 q2 h1 (hf _ h2)
  | 2, h => exact callB_el Gd.fa (G := fun iter => SoundI prog w h₀ cx.an (cx.tab fn) n sc vars tgt iter 2 src) h fun np args p q1 q2 h => onOne_el (G := fun args => SoundI prog w h₀ cx.an (cx.tab fn) n sc vars tgt (.Call (.Name "range" np) args [] p) 2 src) h fun a h => and_el h fun h1 h2 => I_range1 Gd.WD (tgtOkB_is ht).2 q1 q2 h1 (hf _ h2)
  | _ + 3, h => exact Bool.noConfusion h

theorem s_lit {d : D} : Chk cx prog w h₀ fn n (.lit d) := by
  intro sc vars t e h
  refine val_el h fun h => onConstant_el h fun c _ _ h => ?_
  cases d with
  | none => cases c with
    | none => exact E_none _ _
    | _ => exact Bool.noConfusion h
  | bool a => exact cnbool_el (G := fun c => SE cx prog w h₀ fn n sc vars (.Constant c _ _) (.lit (.bool a))) h fun b h => beq_iff_eq.mp h ▸ E_bool _ _ _
  | int a => exact cnint_el (G := fun c => SE cx prog w h₀ fn n sc vars (.Constant c _ _) (.lit (.int a))) h fun b h => beq_iff_eq.mp h ▸ E_int _ _ _
  | str a => exact cnstr_el (G := fun c => SE cx prog w h₀ fn n sc vars (.Constant c _ _) (.lit (.str a))) h fun b h => beq_iff_eq.mp h ▸ E_str _ _ _
  | _ => exact Bool.noConfusion h
theorem s_loc {i : Nat} : Chk cx prog w h₀ fn n (.loc i) := fun _ _ _ _ h => onName_el h fun x p h => and_el h fun h1 h2 => Snd.both rfl (E_loc (beq_iff_eq.mp h1) (nd1 h2) (nd2 h2))
theorem s_glob (Gd : Good cx prog w h₀ fn n) {k : Nat} {d : D} : Chk cx prog w h₀ fn n (.glob k d) := fun _ _ _ _ h => val_el h fun h => onName_el h fun x p h => and_el h fun h1 h => and_el h fun h2 h => oo_el (facts_glo Gd.fa h) fun v hv h => E_glob Gd.WD (beq_iff_eq.mp h1) hv (nd1 h2) h
theorem s_bop {es : List E} (c : Chks cx prog w h₀ fn n es) {isAnd : Bool} : Chk cx prog w h₀ fn n (.bop isAnd es) := fun _ _ t _ h => onBoolOp_el h fun op vs p h => and_el h fun h1 h => and_el h fun h2 h3 => by
  cases beq_iff_eq.mp h1
  cases t with
  | true => exact T_bop (c.t h3)
  | false => exact E_bop (fun e => by rw [e] at h2; exact Bool.noConfusion h2) (c.v h3)
theorem s_not {a : E} (c : Chk cx prog w h₀ fn n a) : Chk cx prog w h₀ fn n (.not a) := fun _ _ t _ h => onUnaryOp_el h fun op e p h => and_el h fun h1 h => by
  cases beq_iff_eq.mp h1
  cases t with
  | true => exact T_not (c.t h)
  | false => exact E_not (c.v h)
theorem s_neg {a : E} (c : Chk cx prog w h₀ fn n a) : Chk cx prog w h₀ fn n (.neg a) := fun _ _ t _ h => val_el h fun h => onUnaryOp_el h fun op e p h => and_el h fun h1 h => by
  cases beq_iff_eq.mp h1
  exact E_neg (c.v h)
theorem s_bin {a b : E} (c : Chk cx prog w h₀ fn n a) (c' : Chk cx prog w h₀ fn n b) {op : Operator} : Chk cx prog w h₀ fn n (.bin op a b) := fun _ _ t _ h => val_el h fun h => onBinOp_el h fun a' op' b' p h => and_el h fun h1 h => and_el h fun h2 h3 => by
  cases beq_iff_eq.mp h1
  exact E_bin (c.v h2) (c'.v h3)
theorem s_cmp {a b : E} (c : Chk cx prog w h₀ fn n a) (c' : Chk cx prog w h₀ fn n b) {op : CmpOp} : Chk cx prog w h₀ fn n (.cmp op a b) := fun sc vars t _ h => onCompare_el h fun a' ops bs p h =>
  onOne_el (G := fun ops => Snd cx prog w h₀ fn n sc vars t (.Compare a' ops bs p) (.cmp op a b)) h fun op' h => onOne_el (G := fun bs => Snd cx prog w h₀ fn n sc vars t (.Compare a' [op'] bs p) (.cmp op a b)) h fun b' h => and_el h fun h1 h => and_el h fun h2 h => and_el h fun h3 h4 => by
  cases beq_iff_eq.mp h1
  exact Snd.of (T_cmp (c.v h3) (c'.v h4) (no_is h2)) (E_cmp (c.v h3) (c'.v h4) (no_is h2))
theorem s_chain {a b d : E} (c : Chk cx prog w h₀ fn n a) (c' : Chk cx prog w h₀ fn n b) (c'' : Chk cx prog w h₀ fn n d) {op op₂ : CmpOp} : Chk cx prog w h₀ fn n (.chain op op₂ a b d) := fun sc vars t _ h => onCompare_el h fun a' ops bs p h =>
  onTwo_el (G := fun ops => Snd cx prog w h₀ fn n sc vars t (.Compare a' ops bs p) (.chain op op₂ a b d)) h fun op' op₂' h => onTwo_el (G := fun bs => Snd cx prog w h₀ fn n sc vars t (.Compare a' [op', op₂'] bs p) (.chain op op₂ a b d)) h fun b' d' h => and_el h fun h1 h => and_el h fun h2 h => and_el h fun h3 h => and_el h fun h4 h => and_el h fun h5 h6 => by
  cases beq_iff_eq.mp h1
  cases beq_iff_eq.mp h2
  exact Snd.of (T_chain (c.v h4) (c'.v h5) (c''.v h6) (no_is h3)) (E_chain (c.v h4) (c'.v h5) (c''.v h6) (no_is h3))
theorem s_ite {d a b : E} (c : Chk cx prog w h₀ fn n d) (c' : Chk cx prog w h₀ fn n a) (c'' : Chk cx prog w h₀ fn n b) : Chk cx prog w h₀ fn n (.ite d a b) := fun sc vars t _ h => onIfExp_el h fun d' a' b' p h => and_el h fun h1 h => and_el h fun h2 h3 => by
  cases t with
  | true => exact T_ite (c.t h1) (c'.t h2) (c''.t h3)
  | false => exact E_ite (c.t h1) (c'.v h2) (c''.v h3)
theorem s_attr (Gd : Good cx prog w h₀ fn n) {a : E} (c : Chk cx prog w h₀ fn n a) {k : Nat} : Chk cx prog w h₀ fn n (.attr a k) := fun sc vars t _ h => onAttribute_el h fun a' x p h => and_el h fun h1 h => and_el h fun h2 h3 => Snd.both rfl (E_attr Gd.WD Gd.TO (c.v h3) h2 (beq_iff_eq.mp h1))
theorem s_idx {a b : E} (c : Chk cx prog w h₀ fn n a) (c' : Chk cx prog w h₀ fn n b) : Chk cx prog w h₀ fn n (.idx a b) := fun sc vars t _ h => val_el h fun h => onSubscript_el h fun a' i' p h => and_el h fun h1 h => and_el h fun h2 h3 => E_idx (c.v h2) (c'.v h3) h1
theorem cutTo_el {e : PySem.Expr} {f : PySem.Expr → Bool} {G : PySem.Expr → Prop} (h : isSliceTo e f = true) (k : ∀ a p, f a = true → G (.Slice none (some a) none p)) : G e :=
  onSlice_el h fun a b c p h => and_el h fun h1 h => and_el h fun h2 h => optB_el h fun d hd h => by
    rw [Option.isNone_iff_eq_none.mp h1, Option.isNone_iff_eq_none.mp h2, hd]
    exact k d p h
theorem cutFrom_el {e : PySem.Expr} {f : PySem.Expr → Bool} {G : PySem.Expr → Prop} (h : isSliceFrom e f = true) (k : ∀ a p, f a = true → G (.Slice (some a) none none p)) : G e :=
  onSlice_el h fun a b c p h => and_el h fun h1 h => and_el h fun h2 h => optB_el h fun d hd h => by
    rw [Option.isNone_iff_eq_none.mp h1, Option.isNone_iff_eq_none.mp h2, hd]
    exact k d p h
theorem s_cutTo {a b : E} (c : Chk cx prog w h₀ fn n a) (c' : Chk cx prog w h₀ fn n b) : Chk cx prog w h₀ fn n (.cutTo a b) := fun sc vars t _ h => val_el h fun h => onSubscript_el h fun a' s p h =>
  cutTo_el (G := fun s => SE cx prog w h₀ fn n sc vars (.Subscript a' s p) (.cutTo a b)) h fun i q h => and_el h fun h2 h3 => E_cutTo (c.v h2) (c'.v h3)
theorem s_cutFrom {a b : E} (c : Chk cx prog w h₀ fn n a) (c' : Chk cx prog w h₀ fn n b) : Chk cx prog w h₀ fn n (.cutFrom a b) := fun sc vars t _ h => val_el h fun h => onSubscript_el h fun a' s p h =>
  cutFrom_el (G := fun s => SE cx prog w h₀ fn n sc vars (.Subscript a' s p) (.cutFrom a b)) h fun i q h => and_el h fun h2 h3 => E_cutFrom (c.v h2) (c'.v h3)
theorem s_tup {es : List E} (c : Chks cx prog w h₀ fn n es) : Chk cx prog w h₀ fn n (.tup es) := fun sc vars t _ h => val_el h fun h => onTuple_el h fun vs _ _ h => and_el h fun h1 h => and_el h fun h2 h3 => E_tup h1 (c.v h3) (of_decide_eq_true h2)
theorem s_lst {es : List E} (c : Chks cx prog w h₀ fn n es) {b : Bool} : Chk cx prog w h₀ fn n (.lst b es) := fun sc vars t _ h => val_el h fun h => onList_el h fun vs _ h => and_el h fun h1 h => and_el h fun h2 h3 => E_lst h1 (c.v h3) (of_decide_eq_true h2)
theorem s_call (Gd : Good cx prog w h₀ fn n) {es kw : List E} (c : Chks cx prog w h₀ fn n es) (c' : Chks cx prog w h₀ fn n kw) {f : Nat} {dfl : List D} : Chk cx prog w h₀ fn n (.call f es dfl kw) := fun sc vars t _ h => onCall_el h fun g vs kws p h =>
  onName_el (G := fun g => Snd cx prog w h₀ fn n sc vars t (.Call g vs kws p) (.call f es dfl kw)) h fun x np h => and_el h fun h1 h => and_el h fun h2 h => and_el h fun h3 h => and_el h fun h4 h => and_el h fun h5 h => and_el h fun h6 h => and_el h fun h7 h => and_el h fun h8 h9 =>
  Snd.both rfl (E_call Gd.WD Gd.F (beq_iff_eq.mp h1) (refIn_is (facts_ref Gd.fa h2)) (nd1 h3) h4 (c.v h8) h5 (c'.v h9) (Gd.shape h7) (beq_iff_eq.mp h6))
theorem s_new (Gd : Good cx prog w h₀ fn n) {es : List E} (c : Chks cx prog w h₀ fn n es) {f : Nat} {dfl : List D} : Chk cx prog w h₀ fn n (.new f es dfl) := fun sc vars t _ h => onCall_el h fun g vs kws p h =>
  onName_el (G := fun g => Snd cx prog w h₀ fn n sc vars t (.Call g vs kws p) (.new f es dfl)) h fun x np h => and_el h fun h0 h => and_el h fun h1 h => and_el h fun h2 h => and_el h fun h3 h => and_el h fun h4 h => and_el h fun h5 h => and_el h fun h6 h7 => by
  rw [List.isEmpty_iff.mp h0]
  exact Snd.both rfl (E_new Gd.WD Gd.TO Gd.F (beq_iff_eq.mp h1) (refIn_is (facts_ref Gd.fa h2)) (nd1 h3) h4 (c.v h7) (facts_kept Gd.fa h5) fun f hf => Gd.shape (all_res h6 (Good.init hf) nat_ne))
theorem s_meth (Gd : Good cx prog w h₀ fn n) {a : E} {es : List E} (c : Chk cx prog w h₀ fn n a) (c' : Chks cx prog w h₀ fn n es) {k : Nat} : Chk cx prog w h₀ fn n (.meth a k es) := fun sc vars t _ h => onCall_el h fun g vs kws p h =>
  onAttribute_el (G := fun g => Snd cx prog w h₀ fn n sc vars t (.Call g vs kws p) (.meth a k es)) h fun a' x ap h => and_el h fun h0 h => and_el h fun h1 h => and_el h fun h2 h => and_el h fun h3 h => and_el h fun h4 h => and_el h fun h5 h => and_el h fun h6 h => and_el h fun h7 h8 => by
  rw [List.isEmpty_iff.mp h0]
  exact Snd.both rfl (E_meth Gd.WD Gd.TO Gd.F h1 h2 (of_decide_eq_true h3) h4 (beq_iff_eq.mp h5) (c.v h7) (c'.v h8) fun cl f hf => Gd.shape (all_res h6 (Good.meth hf) nat_ne))
theorem s_append (Gd : Good cx prog w h₀ fn n) {a b : E} (c : Chk cx prog w h₀ fn n a) (c' : Chk cx prog w h₀ fn n b) : Chk cx prog w h₀ fn n (.append a b) := fun sc vars t _ h => onCall_el h fun g vs kws p h =>
  onAttribute_el (G := fun g => Snd cx prog w h₀ fn n sc vars t (.Call g vs kws p) (.append a b)) h fun a' x ap h => onOne_el (G := fun vs => Snd cx prog w h₀ fn n sc vars t (.Call (.Attribute a' x ap) vs kws p) (.append a b)) h fun b' h => and_el h fun h0 h => and_el h fun h1 h => and_el h fun h2 h => and_el h fun h3 h => and_el h fun h4 h => and_el h fun h5 h6 => by
  cases beq_iff_eq.mp h4
  rw [List.isEmpty_iff.mp h0]
  exact Snd.both rfl (E_append Gd.WD h1 h2 h3 (c.v h5) (c'.v h6))

theorem call1 (Gd : Good cx prog w h₀ fn n) {t : Bool} {name : Str} {e : PySem.Expr} {a me : E} (c : Chk cx prog w h₀ fn n a) (h : callB cx sc name e (fun args => onOne args fun a' => notStar a' && okE cx a sc vars false a') = true)
    (k : ∀ e np p, sc.lookup name = some .globalImplicit → nsIn cx.K mainGlobals name = some none → notStar e = true → SE cx prog w h₀ fn n sc vars e a → SE cx prog w h₀ fn n sc vars (.Call (.Name name np) [e] [] p) me) : Snd cx prog w h₀ fn n sc vars t e me :=
  callB_el Gd.fa (G := fun e => Snd cx prog w h₀ fn n sc vars t e me) h fun np args p q1 q2 h => onOne_el (G := fun args => Snd cx prog w h₀ fn n sc vars t (.Call (.Name name np) args [] p) me) h fun a h => and_el h fun h1 h2 => Snd.both rfl (k a np p q1 q2 h1 (c.v h2))
theorem call2 (Gd : Good cx prog w h₀ fn n) {t : Bool} {name : Str} {e : PySem.Expr} {a b me : E} (c : Chk cx prog w h₀ fn n a) (c' : Chk cx prog w h₀ fn n b) (h : callB cx sc name e (fun args => onTwo args fun a' b' => notStar a' && (notStar b' && (okE cx a sc vars false a' && okE cx b sc vars false b'))) = true)
    (k : ∀ e e' np p, sc.lookup name = some .globalImplicit → nsIn cx.K mainGlobals name = some none → notStar e = true → notStar e' = true → SE cx prog w h₀ fn n sc vars e a → SE cx prog w h₀ fn n sc vars e' b → SE cx prog w h₀ fn n sc vars (.Call (.Name name np) [e, e'] [] p) me) : Snd cx prog w h₀ fn n sc vars t e me :=
  callB_el Gd.fa (G := fun e => Snd cx prog w h₀ fn n sc vars t e me) h fun np args p q1 q2 h => onTwo_el (G := fun args => Snd cx prog w h₀ fn n sc vars t (.Call (.Name name np) args [] p) me) h fun a b h => and_el h fun h1 h => and_el h fun h2 h => and_el h fun h3 h4 => Snd.both rfl (k a b np p q1 q2 h1 h2 (c.v h3) (c'.v h4))
theorem call_isi (Gd : Good cx prog w h₀ fn n) {t : Bool} {name : Str} {e : PySem.Expr} {a me : E} (c : Chk cx prog w h₀ fn n a) (h : callB cx sc "isinstance" e (fun args => onTwo args fun a' y => isBi cx sc name y && (notStar a' && okE cx a sc vars false a')) = true)
    (k : ∀ e np np2 p, sc.lookup ("isinstance" : Str) = some .globalImplicit → nsIn cx.K mainGlobals "isinstance" = some none → sc.lookup name = some .globalImplicit → nsIn cx.K mainGlobals name = some none → notStar e = true → SE cx prog w h₀ fn n sc vars e a → SE cx prog w h₀ fn n sc vars (.Call (.Name "isinstance" np) [e, .Name name np2] [] p) me) : Snd cx prog w h₀ fn n sc vars t e me :=
  callB_el Gd.fa (G := fun e => Snd cx prog w h₀ fn n sc vars t e me) h fun np args p q1 q2 h => onTwo_el (G := fun args => Snd cx prog w h₀ fn n sc vars t (.Call (.Name "isinstance" np) args [] p) me) h fun a y h => and_el h fun h1 h => and_el h fun h2 h3 =>
  onName_el (G := fun y => Snd cx prog w h₀ fn n sc vars t (.Call (.Name "isinstance" np) [a, y] [] p) me) h1 fun x np2 h => bi_el Gd.fa h fun e1 q3 q4 => e1 ▸ Snd.both rfl (k a np np2 p q1 q2 q3 q4 h2 (c.v h3))
theorem s_len (Gd : Good cx prog w h₀ fn n) {a : E} (c : Chk cx prog w h₀ fn n a) : Chk cx prog w h₀ fn n (.len a) := fun sc vars t _ h => call1 Gd c h fun _ _ _ q1 q2 h1 h2 => E_len Gd.WD q1 q2 h1 h2
theorem s_abs (Gd : Good cx prog w h₀ fn n) {a : E} (c : Chk cx prog w h₀ fn n a) : Chk cx prog w h₀ fn n (.abs a) := fun sc vars t _ h => call1 Gd c h fun _ _ _ q1 q2 h1 h2 => E_abs Gd.WD q1 q2 h1 h2
theorem s_minl (Gd : Good cx prog w h₀ fn n) {a : E} (c : Chk cx prog w h₀ fn n a) : Chk cx prog w h₀ fn n (.minl a) := fun sc vars t _ h => call1 Gd c h fun _ _ _ q1 q2 h1 h2 => E_minl Gd.WD q1 q2 h1 h2
theorem s_tuple (Gd : Good cx prog w h₀ fn n) {a : E} (c : Chk cx prog w h₀ fn n a) : Chk cx prog w h₀ fn n (.tuple a) := fun sc vars t _ h => call1 Gd c h fun _ _ _ q1 q2 h1 h2 => E_tuple Gd.WD q1 q2 h1 h2
theorem s_max2 (Gd : Good cx prog w h₀ fn n) {a b : E} (c : Chk cx prog w h₀ fn n a) (c' : Chk cx prog w h₀ fn n b) : Chk cx prog w h₀ fn n (.max2 a b) := fun sc vars t _ h => call2 Gd c c' h fun _ _ _ _ q1 q2 h1 h2 => E_max2 Gd.WD q1 q2 h1 h2
theorem s_min2 (Gd : Good cx prog w h₀ fn n) {a b : E} (c : Chk cx prog w h₀ fn n a) (c' : Chk cx prog w h₀ fn n b) : Chk cx prog w h₀ fn n (.min2 a b) := fun sc vars t _ h => call2 Gd c c' h fun _ _ _ _ q1 q2 h1 h2 => E_min2 Gd.WD q1 q2 h1 h2
theorem s_isint (Gd : Good cx prog w h₀ fn n) {a : E} (c : Chk cx prog w h₀ fn n a) : Chk cx prog w h₀ fn n (.isint a) := fun sc vars t _ h => call_isi Gd c h fun _ _ _ _ q1 q2 q3 q4 h1 h2 => E_isint Gd.WD q1 q2 q3 q4 h1 h2
theorem s_isbool (Gd : Good cx prog w h₀ fn n) {a : E} (c : Chk cx prog w h₀ fn n a) : Chk cx prog w h₀ fn n (.isbool a) := fun sc vars t _ h => call_isi Gd c h fun _ _ _ _ q1 q2 q3 q4 h1 h2 => E_isbool Gd.WD q1 q2 q3 q4 h1 h2
theorem s_lrange (Gd : Good cx prog w h₀ fn n) {a b : E} (c : Chk cx prog w h₀ fn n a) (c' : Chk cx prog w h₀ fn n b) : Chk cx prog w h₀ fn n (.lrange a b) := fun sc vars t e h =>
  callB_el Gd.fa (G := fun e => Snd cx prog w h₀ fn n sc vars t e (.lrange a b)) h fun np args p q1 q2 h => onOne_el (G := fun args => Snd cx prog w h₀ fn n sc vars t (.Call (.Name "list" np) args [] p) (.lrange a b)) h fun r h =>
  callB_el Gd.fa (G := fun r => Snd cx prog w h₀ fn n sc vars t (.Call (.Name "list" np) [r] [] p) (.lrange a b)) h fun np2 args p2 q3 q4 h => onTwo_el (G := fun args => Snd cx prog w h₀ fn n sc vars t (.Call (.Name "list" np) [.Call (.Name "range" np2) args [] p2] [] p) (.lrange a b)) h fun x y h => and_el h fun h1 h => and_el h fun h2 h => and_el h fun h3 h4 =>
  Snd.both rfl (E_lrange Gd.WD q1 q2 q3 q4 h1 h2 (c.v h3) (c'.v h4))
theorem comp_el (Gd : Good cx prog w h₀ fn n) {src elt : E} {ifs : List E} (c : Chk cx prog w h₀ fn n src) (c' : Chks cx prog w h₀ fn n ifs) (c'' : Chk cx prog w h₀ fn n elt) {caps : List (Option Nat)} {many : Bool} {ts : List Nat} {kind : Nat} {t : Bool} {e : PySem.Expr} {G : PySem.Expr → Prop} (h : okE cx (.comp caps many ts kind src ifs elt) sc vars t e = true)
    (k : ∀ elt' tgt iter ifs' scope p cvars, CompOk scope sc vars cvars caps → notSet iter = true → TgtOk (relabelS scope.names sc) cvars many ts tgt → locs (relabelS scope.names sc) tgt = true → (∀ t ∈ ts, caps[t]? = some none) → SoundI prog w h₀ cx.an (cx.tab fn) n sc vars tgt iter kind src →
      All2 (ST cx prog w h₀ fn n (relabelS scope.names sc) cvars) ifs' ifs → SE cx prog w h₀ fn n (relabelS scope.names sc) cvars elt' elt → G (.ListComp elt' [⟨tgt, iter, ifs', 0⟩] scope p)) : t = false ∧ G e :=
  and_el h fun ht h => And.intro (no_is ht) (onListComp_el (G := G) h fun elt' gens scope p h => onOne_el (G := fun gens => G (.ListComp elt' gens scope p)) h fun g h => and_el h fun h0 h => and_el h fun h1 h => and_el h fun h2 h => and_el h fun h3 h => and_el h fun h4 h => and_el h fun h5 h => and_el h fun h6 h => and_el h fun h7 h8 => by
    obtain ⟨tgt, iter, ifs', _⟩ := g
    cases beq_iff_eq.mp h0
    exact k elt' tgt iter ifs' scope p _ (compB_is h1) h2 (tgtOkB_is h3).1 h4 (fun t ht => beq_iff_eq.mp (List.all_eq_true.mp h5 t ht)) (iterB_snd Gd (fun e h => c.v h) h6 h3) (c'.t h7) (c''.v h8))
theorem s_comp (Gd : Good cx prog w h₀ fn n) {src elt : E} {ifs : List E} (c : Chk cx prog w h₀ fn n src) (c' : Chks cx prog w h₀ fn n ifs) (c'' : Chk cx prog w h₀ fn n elt) {caps : List (Option Nat)} {many : Bool} {ts : List Nat} {kind : Nat} : Chk cx prog w h₀ fn n (.comp caps many ts kind src ifs elt) := fun sc vars t e h =>
  have q := comp_el (G := fun e => SE cx prog w h₀ fn n sc vars e (.comp caps many ts kind src ifs elt)) Gd c c' c'' h fun elt' tgt iter ifs' scope p cvars h1 h2 h3 h4 h5 h6 h7 h8 => E_comp h1 h2 h3 h4 h5 h6 h7 h8
  q.1 ▸ q.2

mutual
theorem okE_snd (Gd : Good cx prog w h₀ fn n) : ∀ (me : E), Chk cx prog w h₀ fn n me
  | .lit d => s_lit
  | .loc i => s_loc
  | .glob k d => s_glob Gd
  | .bop isAnd es => s_bop (okEs_snd Gd es)
  | .not a => s_not (okE_snd Gd a)
  | .neg a => s_neg (okE_snd Gd a)
  | .bin op a b => s_bin (okE_snd Gd a) (okE_snd Gd b)
  | .cmp op a b => s_cmp (okE_snd Gd a) (okE_snd Gd b)
  | .chain op op₂ a b c => s_chain (okE_snd Gd a) (okE_snd Gd b) (okE_snd Gd c)
  | .ite c a b => s_ite (okE_snd Gd c) (okE_snd Gd a) (okE_snd Gd b)
  | .attr a k => s_attr Gd (okE_snd Gd a)
  | .idx a i => s_idx (okE_snd Gd a) (okE_snd Gd i)
  | .cutTo a i => s_cutTo (okE_snd Gd a) (okE_snd Gd i)
  | .cutFrom a i => s_cutFrom (okE_snd Gd a) (okE_snd Gd i)
  | .tup es => s_tup (okEs_snd Gd es)
  | .lst b es => s_lst (okEs_snd Gd es)
  | .call f es dfl kw => s_call Gd (okEs_snd Gd es) (okEs_snd Gd kw)
  | .new c es dfl => s_new Gd (okEs_snd Gd es)
  | .meth a k es => s_meth Gd (okE_snd Gd a) (okEs_snd Gd es)
  | .append a b => s_append Gd (okE_snd Gd a) (okE_snd Gd b)
  | .len a => s_len Gd (okE_snd Gd a)
  | .abs a => s_abs Gd (okE_snd Gd a)
  | .minl a => s_minl Gd (okE_snd Gd a)
  | .tuple a => s_tuple Gd (okE_snd Gd a)
  | .max2 a b => s_max2 Gd (okE_snd Gd a) (okE_snd Gd b)
  | .min2 a b => s_min2 Gd (okE_snd Gd a) (okE_snd Gd b)
  | .isint a => s_isint Gd (okE_snd Gd a)
  | .isbool a => s_isbool Gd (okE_snd Gd a)
  | .lrange a b => s_lrange Gd (okE_snd Gd a) (okE_snd Gd b)
  | .comp caps many ts kind src ifs elt => s_comp Gd (okE_snd Gd src) (okEs_snd Gd ifs) (okE_snd Gd elt)
  | .fail => fun _ _ _ _ _ => Snd.of T_fail E_fail
theorem okEs_snd (Gd : Good cx prog w h₀ fn n) : ∀ (ms : List E), Chks cx prog w h₀ fn n ms
  | [] => fun _ _ _ es h => (List.isEmpty_iff.mp (show es.isEmpty = true from h)) ▸ .nil
  | m :: ms => fun _ _ _ es h => match es, h with
    | [], h => Bool.noConfusion h
    | e :: es, h => and_el h fun h1 h2 => .cons (okE_snd Gd m h1) (okEs_snd Gd ms h2)
end
end

noncomputable def mtup (e : E) (f : List E → Bool) : Bool := if h : e.ctorIdx = 14 then @E.tup.elim (fun _ => Bool) e h f else false
theorem mtup_el {e : E} {f : List E → Bool} {G : E → Prop} (h : mtup e f = true) (k : ∀ a, f a = true → G (.tup a)) : G e := by
  by_cases hc : e.ctorIdx = 14
  · exact @E.tup.elim (fun e => ∀ hc, @E.tup.elim (fun _ => Bool) e hc f = true → G e) e hc (fun a _ h => k a h) hc ((dif_pos hc).symm.trans h)
  · exact Bool.noConfusion ((dif_neg hc).symm.trans h)
noncomputable def mcomp (e : E) (f : List (Option Nat) → Bool → List Nat → Nat → E → List E → E → Bool) : Bool := if h : e.ctorIdx = 29 then @E.comp.elim (fun _ => Bool) e h f else false
theorem mcomp_el {e : E} {f : List (Option Nat) → Bool → List Nat → Nat → E → List E → E → Bool} {G : E → Prop} (h : mcomp e f = true) (k : ∀ a b c d p q r, f a b c d p q r = true → G (.comp a b c d p q r)) : G e := by
  by_cases hc : e.ctorIdx = 29
  · exact @E.comp.elim (fun e => ∀ hc, @E.comp.elim (fun _ => Bool) e hc f = true → G e) e hc (fun a b c d p q r _ h => k a b c d p q r h) hc ((dif_pos hc).symm.trans h)
  · exact Bool.noConfusion ((dif_neg hc).symm.trans h)
noncomputable def mvar (e : Tgt) (f : Nat → Bool) : Bool := if h : e.ctorIdx = 0 then @Tgt.var.elim (fun _ => Bool) e h f else false
theorem mvar_el {e : Tgt} {f : Nat → Bool} {G : Tgt → Prop} (h : mvar e f = true) (k : ∀ a, f a = true → G (.var a)) : G e := by
  by_cases hc : e.ctorIdx = 0
  · exact @Tgt.var.elim (fun e => ∀ hc, @Tgt.var.elim (fun _ => Bool) e hc f = true → G e) e hc (fun a _ h => k a h) hc ((dif_pos hc).symm.trans h)
  · exact Bool.noConfusion ((dif_neg hc).symm.trans h)

noncomputable def nameB (sc : List (Str × NameKind)) (vars : List Str) (i : Nat) (x : Str) : Bool := vars[i]? == some x && sc.lookup x != some .free
noncomputable def okTgt (cx : Cx) (sc : List (Str × NameKind)) (vars : List Str) (t : Tgt) (e : PySem.Expr) : Bool := match t with
  | .var i => onName e fun x _ => nameB sc vars i x
  | .attr a k => onAttribute e fun o x _ => cx.an k == x && okE cx a sc vars false o
  | .idx a i => onSubscript e fun o j _ => okE cx a sc vars false o && okE cx i sc vars false j
noncomputable def okTgts (cx : Cx) (sc : List (Str × NameKind)) (vars : List Str) : List Tgt → List PySem.Expr → Bool
  | [], es => es.isEmpty
  | t :: ts, es => match es with
    | e :: es => okTgt cx sc vars t e && okTgts cx sc vars ts es
    | [] => false
noncomputable def varsOf : List Tgt → Option (List Nat)
  | [] => some []
  | t :: r => match t with
    | .var i => (varsOf r).map (i :: ·)
    | _ => none
noncomputable def apartB (is : List Nat) (k : Nat) : Bool := match is with
  | [] => false
  | i :: r => match r with
    | [] => false
    | j :: r => (k == 2 && (r.isEmpty && i != j)) || (k == 3 && onOne r fun l => i != j && (i != l && j != l))
noncomputable def isLC (e : PySem.Expr) : Bool := e.ctorIdx == 8
noncomputable def usedB (sc : List (Str × NameKind)) (value tgt : PySem.Expr) : Bool := onListComp value fun _ _ scope lpos => onName tgt fun x xp =>
  sc.lookup x == some .local && (xp.line == lpos.line && !(scope.names.any fun (n, k) => n == x && (k == .local || k == .cell)))
noncomputable def okI (cx : Cx) (sc : List (Str × NameKind)) (vars : List Str) (many : Bool) (kind : Nat) (src : E) (iter : PySem.Expr) : Bool :=
  bif kind == 3 then mtup src fun l => onTwo l fun ma mb => callB cx sc "range" iter fun args => onTwo args fun a' b' => notStar a' && (notStar b' && (okE cx ma sc vars false a' && okE cx mb sc vars false b'))
  else iterB cx sc many kind iter fun e => okE cx src sc vars false e
noncomputable def okTup (cx : Cx) (sc : List (Str × NameKind)) (vars : List Str) (ts : List Tgt) (e : E) (tgt value : PySem.Expr) : Bool := onTuple tgt fun es k tp => onPure (swappedStores [.Tuple es k tp] value (env0 sc)) fun r => match r with
  | none => notComp value && (es.all notStar && (okTgts cx sc vars ts es && okE cx e sc vars false value))
  | some xs => onTuple value fun _ _ _ => optB (varsOf ts) fun is => (is.zip xs).all (fun p => nameB sc vars p.1 p.2) && (apartB is xs.length && okE cx e sc vars false value)
noncomputable def okOne (cx : Cx) (sc : List (Str × NameKind)) (vars : List Str) (t : Tgt) (e : E) (tgt value : PySem.Expr) : Bool := match usedB sc value tgt with
  | true => mvar t fun j => onName tgt fun x _ => vars[j]? == some x && mcomp e fun _ _ _ _ _ _ _ => okE cx e sc vars false value
  | false => (notComp value || isLC value) && (onPure (swappedStores [tgt] value (env0 sc)) Option.isNone && (notStar tgt && (okTgt cx sc vars t tgt && okE cx e sc vars false value)))
noncomputable def okAssign (cx : Cx) (sc : List (Str × NameKind)) (vars : List Str) (isTup : Bool) (ts : List Tgt) (e : E) (tgt value : PySem.Expr) : Bool := match isTup with
  | true => okTup cx sc vars ts e tgt value
  | false => onOne ts fun t => okOne cx sc vars t e tgt value
noncomputable def okAug (cx : Cx) (sc : List (Str × NameKind)) (vars : List Str) (t : Tgt) (e : E) (tg value : PySem.Expr) : Bool := match t with
  | .attr a k => onAttribute tg fun o x _ => cx.an k == x && (okE cx a sc vars false o && okE cx e sc vars false value)
  | .idx a i => onSubscript tg fun o j _ => notSlice j && (okE cx a sc vars false o && (okE cx i sc vars false j && okE cx e sc vars false value))
  | .var _ => false

mutual
noncomputable def okS (cx : Cx) : S → List (Str × NameKind) → List Str → Stmt → Bool
  | .assign isTup ts e, sc, vars, c => atAssign c fun tgts value _ => onOne tgts fun tgt => okAssign cx sc vars isTup ts e tgt value
  | .aug t op e, sc, vars, c => atAugAssign c fun tg op' value _ => op == .Add && (op' == .Add && okAug cx sc vars t e tg value)
  | .expr e, sc, vars, c => atExpr c fun v _ => notComp v && okE cx e sc vars false v
  | .ite e a b, sc, vars, c => atIf c fun e' a' b' _ => okE cx e sc vars true e' && (okB cx a sc vars a' && okB cx b sc vars b')
  | .for_ many ts kind src body, sc, vars, c => atFor c fun tgt iter body' els _ => els.isEmpty && (notSet iter && (tgtOkB sc vars many ts tgt && (okI cx sc vars many kind src iter && okB cx body sc vars body')))
  | .while_ e body, sc, vars, c => atWhile c fun e' body' els _ => els.isEmpty && (okE cx e sc vars true e' && okB cx body sc vars body')
  | .ret e, sc, vars, c => atReturn c fun v _ => optB v fun v => okE cx e sc vars false v
  | .fail, sc, vars, c => true
noncomputable def okB (cx : Cx) : List S → List (Str × NameKind) → List Str → List Stmt → Bool
  | [], sc, vars, cs => cs.isEmpty
  | m :: ms, sc, vars, cs => match cs with
    | c :: cs => okS cx m sc vars c && okB cx ms sc vars cs
    | [] => false
end

section
variable {prog : Program} {w : World} {cx : Cx} {h₀ : Heap} {fn : Nat → List V → Sto → Option (V × Sto)} {n : Nat} {sc : List (Str × NameKind)} {vars : List Str}

theorem okE_v (Gd : Good cx prog w h₀ fn n) {me : E} {e : PySem.Expr} (h : okE cx me sc vars false e = true) : SE cx prog w h₀ fn n sc vars e me := (okE_snd Gd me).v h
theorem okE_t (Gd : Good cx prog w h₀ fn n) {me : E} {e : PySem.Expr} (h : okE cx me sc vars true e = true) : ST cx prog w h₀ fn n sc vars e me := (okE_snd Gd me).t h
theorem okI_snd (Gd : Good cx prog w h₀ fn n) {many : Bool} {kind : Nat} {src : E} {ts : List Nat} {tgt iter : PySem.Expr} {sc' : List (Str × NameKind)} {vars' : List Str} (h : okI cx sc vars many kind src iter = true) (ht : tgtOkB sc' vars' many ts tgt = true) : SoundI prog w h₀ cx.an (cx.tab fn) n sc vars tgt iter kind src := by
  cases hk : kind == 3 with
  | false => exact iterB_snd Gd (fun e h => okE_v Gd h) ((congrArg (cond · _ _) hk).symm.trans h) ht
  | true =>
    have h := (congrArg (cond · _ _) hk).symm.trans h
    cases beq_iff_eq.mp hk
    exact mtup_el (G := fun src => SoundI prog w h₀ cx.an (cx.tab fn) n sc vars tgt iter 3 src) h fun l h => onTwo_el (G := fun l => SoundI prog w h₀ cx.an (cx.tab fn) n sc vars tgt iter 3 (.tup l)) h fun ma mb h =>
      callB_el Gd.fa (G := fun iter => SoundI prog w h₀ cx.an (cx.tab fn) n sc vars tgt iter 3 (.tup [ma, mb])) h fun np args p q1 q2 h => onTwo_el (G := fun args => SoundI prog w h₀ cx.an (cx.tab fn) n sc vars tgt (.Call (.Name "range" np) args [] p) 3 (.tup [ma, mb])) h fun a b h =>
      and_el h fun h1 h => and_el h fun h2 h => and_el h fun h3 h4 => I_range2 Gd.WD (tgtOkB_is ht).2 q1 q2 h1 h2 (okE_v Gd h3) (okE_v Gd h4)
theorem nameB_is {i : Nat} {x : Str} (h : nameB sc vars i x = true) : vars[i]? = some x ∧ sc.lookup x ≠ some .free := and_el h fun h1 h2 => ⟨beq_iff_eq.mp h1, bne_iff_ne.mp h2⟩
theorem okTgt_snd (Gd : Good cx prog w h₀ fn n) {t : Tgt} {e : PySem.Expr} (h : okTgt cx sc vars t e = true) : SoundTgt prog w h₀ cx.an (cx.tab fn) n sc vars e t := by
  cases t with
  | var i => exact onName_el (G := fun e => SoundTgt prog w h₀ cx.an (cx.tab fn) n sc vars e (.var i)) h fun x _ h => Tgt_var (nameB_is h).1 (nameB_is h).2
  | attr a k => exact onAttribute_el (G := fun e => SoundTgt prog w h₀ cx.an (cx.tab fn) n sc vars e (.attr a k)) h fun o x _ h => and_el h fun h1 h2 => Tgt_attr Gd.WD Gd.TO (beq_iff_eq.mp h1) (okE_v Gd h2)
  | idx a i => exact onSubscript_el (G := fun e => SoundTgt prog w h₀ cx.an (cx.tab fn) n sc vars e (.idx a i)) h fun o x _ h => and_el h fun h1 h2 => Tgt_idx (okE_v Gd h1) (okE_v Gd h2)
theorem okTgts_snd (Gd : Good cx prog w h₀ fn n) : ∀ {ts : List Tgt} {es : List PySem.Expr}, okTgts cx sc vars ts es = true → All2 (SoundTgt prog w h₀ cx.an (cx.tab fn) n sc vars) es ts
  | [], [], _ => .nil
  | [], _ :: _, h => Bool.noConfusion h
  | _ :: _, [], h => Bool.noConfusion h
  | t :: ts, e :: es, h => and_el (b := okTgts cx sc vars ts es) h fun h1 h2 => .cons (okTgt_snd Gd h1) (okTgts_snd Gd h2)
theorem varsOf_is : ∀ {ts : List Tgt} {is : List Nat}, varsOf ts = some is → ts = is.map .var
  | [], is, h => by cases h; rfl
  | .var i :: r, is, h => (Option.map_eq_some_iff (x := varsOf r).mp h).elim fun js q => q.2 ▸ congrArg (Tgt.var i :: ·) (varsOf_is q.1)
  | .attr .. :: _, _, h => noS h
  | .idx .. :: _, _, h => noS h

theorem hsw_of {tgt value : PySem.Expr} {line : Nat} (hu : usedB sc value tgt = false) (hv : (notComp value || isLC value) = true) {env : Env} (hsc : env.scope.names = sc) (hk : env.scope.kind = .function) : swapsWithSole [tgt] value line env = pure false := by
  rcases Bool.or_eq_true_iff.mp hv with h | h
  · exact swaps_no h
  · refine @PySem.Expr.ListComp.elim (fun value => usedB sc value tgt = false → swapsWithSole [tgt] value line env = pure false) value (beq_iff_eq.mp h) (fun elt gens scope lpos hu => ?_) hu
    by_cases ht : tgt.ctorIdx = 23
    · refine @PySem.Expr.Name.elim (fun tgt => usedB sc (.ListComp elt gens scope lpos) tgt = false → swapsWithSole [tgt] (.ListComp elt gens scope lpos) line env = pure false) tgt ht (fun x xp hu => ?_) hu
      have hb : env.blockKind = .function := by unfold Env.blockKind; rw [hk]; rfl
      show pure (env.blockKind == .function && env.kindOf x == some .local && xp.line == lpos.line && !(scope.names.any fun (n, k) => n == x && (k == .local || k == .cell))) = _
      have hu : (sc.lookup x == some .local && (xp.line == lpos.line && !(scope.names.any fun (n, k) => n == x && (k == .local || k == .cell)))) = false := hu
      rw [hb, show env.kindOf x = sc.lookup x by unfold Env.kindOf; rw [hsc], show ((ScopeKind.function == ScopeKind.function) = true) from rfl, Bool.true_and, Bool.and_assoc, hu]
    · cases tgt with
      | Name => exact absurd rfl ht
      | _ => rfl

theorem okTup_snd (Gd : Good cx prog w h₀ fn n) {ts : List Tgt} {e : E} {tgt value : PySem.Expr} {pos : Pos} (h : okTup cx sc vars ts e tgt value = true) :
    SoundS prog w h₀ cx.an (cx.tab fn) n sc vars (.Assign [tgt] value pos) (.assign true ts e) :=
  onTuple_el (G := fun tgt => SoundS prog w h₀ cx.an (cx.tab fn) n sc vars (.Assign [tgt] value pos) (.assign true ts e)) h fun es k tp h => by
  obtain ⟨r, hsw, h⟩ := onPure_el h
  cases r with
  | none => exact and_el h fun h1 h => and_el h fun h2 h => and_el h fun h3 h4 => S_assignT h1 hsw h2 (okTgts_snd Gd h3) (okE_v Gd h4)
  | some xs =>
    refine onTuple_el (G := fun value => swappedStores [.Tuple es k tp] value (env0 sc) = pure (some xs) → okE cx e sc vars false value = true → SoundS prog w h₀ cx.an (cx.tab fn) n sc vars (.Assign [.Tuple es k tp] value pos) (.assign true ts e)) h (fun vs k' vp h hsw h3 => ?_) hsw (onTuple_el (G := fun _ => okE cx e sc vars false value = true) h fun _ _ _ h => optB_el h fun _ _ h => and_el h fun _ h => and_el h fun _ h => h)
    refine optB_el h fun is hvs h => and_el h fun h1 h => and_el h fun h2 _ => ?_
    rw [varsOf_is hvs]
    refine S_assignSw hsw (fun p hp => nameB_is (List.all_eq_true.mp h1 p hp)) ?_ (okE_v Gd h3)
    match is, h2 with
    | i :: j :: r, h2 =>
      rcases Bool.or_eq_true_iff.mp h2 with q | q
      · exact and_el q fun q1 q => and_el q fun q2 q3 => .inl ⟨i, j, by rw [List.isEmpty_iff.mp q2], bne_iff_ne.mp q3, beq_iff_eq.mp q1⟩
      · exact and_el q fun q1 q => onOne_el (G := fun r => _ ∨ ∃ i' j' l', i :: j :: r = [i', j', l'] ∧ i' ≠ j' ∧ i' ≠ l' ∧ j' ≠ l' ∧ xs.length = 3) q fun l q => and_el q fun q2 q => and_el q fun q3 q4 => .inr ⟨i, j, l, rfl, bne_iff_ne.mp q2, bne_iff_ne.mp q3, bne_iff_ne.mp q4, beq_iff_eq.mp q1⟩
theorem okOne_snd (Gd : Good cx prog w h₀ fn n) {t : Tgt} {e : E} {tgt value : PySem.Expr} {pos : Pos} (h : okOne cx sc vars t e tgt value = true) :
    SoundS prog w h₀ cx.an (cx.tab fn) n sc vars (.Assign [tgt] value pos) (.assign false [t] e) := by
  unfold okOne at h
  cases hu : usedB sc value tgt with
  | true =>
    rw [hu] at h
    refine mvar_el (G := fun t => SoundS prog w h₀ cx.an (cx.tab fn) n sc vars (.Assign [tgt] value pos) (.assign false [t] e)) h fun j h => onName_el (G := fun tgt => usedB sc value tgt = true → SoundS prog w h₀ cx.an (cx.tab fn) n sc vars (.Assign [tgt] value pos) (.assign false [.var j] e)) h (fun x xp h hu => and_el h fun h1 h => mcomp_el (G := fun e => okE cx e sc vars false value = true → SoundS prog w h₀ cx.an (cx.tab fn) n sc vars (.Assign [.Name x xp] value pos) (.assign false [.var j] e)) h (fun caps many ts kind src ifs elt _ h => ?_) (mcomp_el (G := fun _ => okE cx e sc vars false value = true) h fun _ _ _ _ _ _ _ h => h)) hu
    refine (comp_el (G := fun value => usedB sc value (.Name x xp) = true → SoundS prog w h₀ cx.an (cx.tab fn) n sc vars (.Assign [.Name x xp] value pos) (.assign false [.var j] (.comp caps many ts kind src ifs elt))) Gd (okE_snd Gd src) (okEs_snd Gd ifs) (okE_snd Gd elt) h fun elt' tgt iter ifs' scope p cvars k1 k2 k3 k4 k5 k6 k7 k8 hu => ?_).2 hu
    have hu : (sc.lookup x == some .local && (xp.line == p.line && !(scope.names.any fun (n, k) => n == x && (k == .local || k == .cell)))) = true := hu
    exact and_el hu fun u1 hu => and_el hu fun u2 u3 => S_comp k1 k2 k3 k4 k5 k6 k7 k8 (beq_iff_eq.mp h1) (beq_iff_eq.mp u1) u2 (no_is u3)
  | false =>
    rw [hu] at h
    refine and_el h fun h1 h => and_el h fun h2 h => and_el h fun h3 h => and_el h fun h4 h5 => ?_
    obtain ⟨r, q1, q2⟩ := onPure_el h2
    cases Option.isNone_iff_eq_none.mp q2
    exact fun _ _ _ _ _ _ _ _ _ _ _ _ _ _ hsc hfn R N Z hd hQ => S_assign1' (hsw_of hu h1 hsc N.kind) q1 h3 (okTgt_snd Gd h4) (okE_v Gd h5) hsc hfn R N Z hd hQ

noncomputable def ChkS (cx : Cx) (prog : Program) (w : World) (h₀ : Heap) (fn : Nat → List V → Sto → Option (V × Sto)) (n : Nat) (mc : S) : Prop :=
  ∀ ⦃sc : List (Str × NameKind)⦄ ⦃vars : List Str⦄ ⦃c : Stmt⦄, okS cx mc sc vars c = true → SoundS prog w h₀ cx.an (cx.tab fn) n sc vars c mc
noncomputable def ChkB (cx : Cx) (prog : Program) (w : World) (h₀ : Heap) (fn : Nat → List V → Sto → Option (V × Sto)) (n : Nat) (ms : List S) : Prop :=
  ∀ ⦃sc : List (Str × NameKind)⦄ ⦃vars : List Str⦄ ⦃cs : List Stmt⦄, okB cx ms sc vars cs = true → SoundB prog w h₀ cx.an (cx.tab fn) n sc vars cs ms
theorem t_assign (Gd : Good cx prog w h₀ fn n) {isTup : Bool} {ts : List Tgt} {e : E} : ChkS cx prog w h₀ fn n (.assign isTup ts e) := fun sc vars c h => atAssign_el (G := fun c => SoundS prog w h₀ cx.an (cx.tab fn) n sc vars c (.assign isTup ts e)) h fun tgts value p h =>
  onOne_el (G := fun tgts => SoundS prog w h₀ cx.an (cx.tab fn) n sc vars (.Assign tgts value p) (.assign isTup ts e)) h fun tgt h => by
  cases isTup with
  | true => exact okTup_snd Gd h
  | false => exact onOne_el (G := fun ts => SoundS prog w h₀ cx.an (cx.tab fn) n sc vars (.Assign [tgt] value p) (.assign false ts e)) h fun t h => okOne_snd Gd h
theorem t_aug (Gd : Good cx prog w h₀ fn n) {t : Tgt} {op : Operator} {e : E} : ChkS cx prog w h₀ fn n (.aug t op e) := fun sc vars c h => atAugAssign_el (G := fun c => SoundS prog w h₀ cx.an (cx.tab fn) n sc vars c (.aug t op e)) h fun tg op' value p h => and_el h fun h1 h => and_el h fun h2 h => by
  cases beq_iff_eq.mp h1
  cases beq_iff_eq.mp h2
  cases t with
  | var i => exact Bool.noConfusion h
  | attr a k => exact onAttribute_el (G := fun tg => SoundS prog w h₀ cx.an (cx.tab fn) n sc vars (.AugAssign tg .Add value p) (.aug (.attr a k) .Add e)) h fun o x _ h => and_el h fun h1 h => and_el h fun h2 h3 => S_aug_attr Gd.WD Gd.TO (beq_iff_eq.mp h1) (okE_v Gd h2) (okE_v Gd h3)
  | idx a i => exact onSubscript_el (G := fun tg => SoundS prog w h₀ cx.an (cx.tab fn) n sc vars (.AugAssign tg .Add value p) (.aug (.idx a i) .Add e)) h fun o j _ h => and_el h fun h1 h => and_el h fun h2 h => and_el h fun h3 h4 => S_aug_idx h1 (okE_v Gd h2) (okE_v Gd h3) (okE_v Gd h4)
theorem t_expr (Gd : Good cx prog w h₀ fn n) {e : E} : ChkS cx prog w h₀ fn n (.expr e) := fun sc vars c h => atExpr_el (G := fun c => SoundS prog w h₀ cx.an (cx.tab fn) n sc vars c (.expr e)) h fun v p h => and_el h fun h1 h2 => S_expr h1 (okE_v Gd h2)
theorem t_ret (Gd : Good cx prog w h₀ fn n) {e : E} : ChkS cx prog w h₀ fn n (.ret e) := fun sc vars c h => atReturn_el (G := fun c => SoundS prog w h₀ cx.an (cx.tab fn) n sc vars c (.ret e)) h fun v p h => optB_el h fun v hv h => by
  rw [hv]; exact S_ret (okE_v Gd h)
theorem t_ite (Gd : Good cx prog w h₀ fn n) {e : E} {a b : List S} (ha : ChkB cx prog w h₀ fn n a) (hb : ChkB cx prog w h₀ fn n b) : ChkS cx prog w h₀ fn n (.ite e a b) := fun sc vars c h => atIf_el (G := fun c => SoundS prog w h₀ cx.an (cx.tab fn) n sc vars c (.ite e a b)) h fun e' a' b' p h => and_el h fun h1 h => and_el h fun h2 h3 => S_ite (okE_t Gd h1) (ha h2) (hb h3)
theorem t_for (Gd : Good cx prog w h₀ fn n) {many : Bool} {ts : List Nat} {kind : Nat} {src : E} {b : List S} (hb : ChkB cx prog w h₀ fn n b) : ChkS cx prog w h₀ fn n (.for_ many ts kind src b) := fun sc vars c h => atFor_el (G := fun c => SoundS prog w h₀ cx.an (cx.tab fn) n sc vars c (.for_ many ts kind src b)) h fun tgt iter b' els p h => and_el h fun h1 h => and_el h fun h2 h => and_el h fun h3 h => and_el h fun h4 h5 => by
  rw [List.isEmpty_iff.mp h1]; exact S_for h2 (tgtOkB_is h3).1 (okI_snd Gd h4 h3) (hb h5)
theorem t_while (Gd : Good cx prog w h₀ fn n) {e : E} {b : List S} (hb : ChkB cx prog w h₀ fn n b) : ChkS cx prog w h₀ fn n (.while_ e b) := fun sc vars c h => atWhile_el (G := fun c => SoundS prog w h₀ cx.an (cx.tab fn) n sc vars c (.while_ e b)) h fun e' b' els p h => and_el h fun h1 h => and_el h fun h2 h3 => by
  rw [List.isEmpty_iff.mp h1]; exact S_while (okE_t Gd h2) (hb h3)

mutual
theorem okS_snd (Gd : Good cx prog w h₀ fn n) : ∀ (mc : S), ChkS cx prog w h₀ fn n mc
  | .assign isTup ts e => t_assign Gd
  | .aug t op e => t_aug Gd
  | .expr e => t_expr Gd
  | .ite e a b => t_ite Gd (okB_snd Gd a) (okB_snd Gd b)
  | .for_ many ts kind src body => t_for Gd (okB_snd Gd body)
  | .while_ e body => t_while Gd (okB_snd Gd body)
  | .ret e => t_ret Gd
  | .fail => fun _ _ _ _ _ _ _ _ _ _ _ _ _ _ _ _ _ _ _ _ _ _ _ hd _ => noS hd
theorem okB_snd (Gd : Good cx prog w h₀ fn n) : ∀ (ms : List S), ChkB cx prog w h₀ fn n ms
  | [] => fun _ _ cs h => (List.isEmpty_iff.mp (show cs.isEmpty = true from h)) ▸ B_nil
  | m :: ms => fun _ _ cs h => match cs, h with
    | [], h => Bool.noConfusion h
    | c :: cs, h => and_el h fun h1 h2 => B_cons (okS_snd Gd m h1) (okB_snd Gd ms h2)
end
end

theorem cells_acc {x : Str} : ∀ {names : List (Str × NameKind)} {k : Nat} {acc : List (Str × Addr)}, (∃ c, (x, c) ∈ acc) → ∃ c, (x, c) ∈ cellsFrom k names acc
  | [], _, _, h => h
  | (n, kd) :: r, k, acc, ⟨c, h⟩ => by
    show ∃ c, (x, c) ∈ (if kd == .cell then cellsFrom (k + 1) r ((n, k) :: acc) else cellsFrom k r acc)
    cases kd == .cell with
    | true => exact cells_acc ⟨c, List.mem_cons_of_mem _ h⟩
    | false => exact cells_acc ⟨c, h⟩
theorem cells_some {x : Str} : ∀ {names : List (Str × NameKind)}, names.lookup x = some .cell → ∀ (k : Nat) (acc : List (Str × Addr)), ∃ c, (x, c) ∈ cellsFrom k names acc
  | [], h, _, _ => noS h
  | (n, kd) :: r, h, k, acc => by
    show ∃ c, (x, c) ∈ (if kd == .cell then cellsFrom (k + 1) r ((n, k) :: acc) else cellsFrom k r acc)
    rw [List.lookup_cons] at h
    cases hb : x == n with
    | true => rw [hb] at h; cases h; rw [eq_of_beq hb]; exact cells_acc ⟨_, List.mem_cons_self⟩
    | false => rw [hb] at h; cases kd == .cell <;> exact cells_some h _ _

noncomputable def frameB (cx : Cx) (mf : MFn) (vs : List Str) (fd : FuncData) : Bool := !fd.scope.isCoroutine && (!fd.scope.isGenerator && (codeIn cx.K fd.code fd.qualname && (fd.globals == mainGlobals && (fd.builtins == builtinsNs && (fd.closure.isEmpty && (fd.scope.kind == .function &&
  (fd.params.args.map (·.arg) == vs.take mf.nargs && fd.params.args.length == mf.nargs)))))))
noncomputable def varsB (vs : List Str) (sc : List (Str × NameKind)) : Bool := decide vs.Nodup && vs.all (fun x => sc.lookup x == some .local || sc.lookup x == some .cell)
def OkFn (cx : Cx) (a : Addr) (mf : MFn) : Prop := ∃ oc od osl fd body, cx.K.lookup a = some ⟨oc, od, .func fd, osl⟩ ∧ fd.body = .stmts body ∧ frameB cx mf (mf.vars.map Str.ofString) fd = true ∧ varsB (mf.vars.map Str.ofString) fd.scope.names = true ∧ okB cx mf.body fd.scope.names (mf.vars.map Str.ofString) body = true

noncomputable def Cx.fnAt (cx : Cx) (fns : List MFn) : Nat → Nat → List V → Sto → Option (V × Sto)
  | 0 => fun _ _ _ => none
  | k + 1 => fun f args σ => match fns[f]? with
    | some mf => mf.run (cx.tab (cx.fnAt fns k)) args σ
    | none => none

noncomputable def namesB (cx : Cx) : Bool := decide cx.names.Nodup && cx.names.all fun x => decide (x.cps.size < 1000)
noncomputable def tabB (cx : Cx) : Bool :=
  (cx.okL.all (fun p => attrOk cx.K p.1 (cx.an p.2)) && (cx.cattrL.all (fun p => cattrOk cx.K p.1 (cx.an p.2.1) (.int p.2.2)) &&
  (cx.methL.all (fun p => clsOk cx.K p.1 && (findIn cx.K (.ref p.1) (cx.an p.2.1) == some (some (.ref (cx.addr p.2.2))) && typeIn cx.K (.ref (cx.addr p.2.2)) == some (.type "function"))) &&
  cx.initL.all (fun p => makesIn cx.K p.1 && (findIn cx.K (.ref p.1) "__init__" == some (some (.ref (cx.addr p.2))) && typeIn cx.K (.ref (cx.addr p.2)) == some (.type "function"))))))

theorem an_at {cx : Cx} {i : Nat} {x : Str} (h : cx.names[i]? = some x) : cx.an i = x := by unfold Cx.an; rw [h]
theorem an_out {cx : Cx} {i : Nat} (h : cx.names[i]? = none) : (cx.an i).cps.size = i + 1000 := by unfold Cx.an; rw [h]; exact Array.size_replicate
theorem an_ne {cx : Cx} (h2 : ∀ x ∈ cx.names, x.cps.size < 1000) {i j : Nat} {x : Str} (hi : cx.names[i]? = some x) (hj : cx.names[j]? = none) (e : cx.an i = cx.an j) : False := by
  have h1 := h2 x (List.mem_of_getElem? hi)
  rw [← an_at hi, e, an_out hj] at h1
  omega
theorem an_inj {cx : Cx} (h1 : cx.names.Nodup) (h2 : ∀ x ∈ cx.names, x.cps.size < 1000) (i j : Nat) (e : cx.an i = cx.an j) : i = j := by
  cases hi : cx.names[i]? with
  | some x =>
    cases hj : cx.names[j]? with
    | some y => exact nodup_get h1 hi (hj.trans (congrArg some (((an_at hj).symm.trans e.symm).trans (an_at hi))))
    | none => exact (an_ne h2 hi hj e).elim
  | none =>
    cases hj : cx.names[j]? with
    | some y => exact (an_ne h2 hj hi e.symm).elim
    | none => exact Nat.add_right_cancel ((an_out hi).symm.trans ((congrArg (·.cps.size) e).trans (an_out hj)))

theorem tabB_is {cx : Cx} (hn : namesB cx = true) (h : tabB cx = true) (fn : Nat → List V → Sto → Option (V × Sto)) : TabOk cx.K cx.an cx.addr (cx.tab fn) := by
  refine and_el hn fun h1 h2 => and_el h fun h3 h => and_el h fun h4 h => and_el h fun h5 h6 => ?_
  refine ⟨an_inj (of_decide_eq_true h1) fun x hx => of_decide_eq_true (List.all_eq_true.mp h2 x hx), fun c k e => List.all_eq_true.mp h3 (c, k) (List.contains_iff_mem.mp e), fun c k x e => ?_, fun c k f e => ?_, fun c f e => ?_⟩
  · obtain ⟨p, q1, q2, rfl⟩ := find_is (l := cx.cattrL) e
    exact and_el q2 fun r1 r2 => beq_iff_eq.mp r1 ▸ beq_iff_eq.mp r2 ▸ List.all_eq_true.mp h4 p q1
  · exact and_el (List.all_eq_true.mp h5 _ (Good.meth e)) fun r1 r => and_el r fun r2 r3 => ⟨r1, beq_iff_eq.mp r2, beq_iff_eq.mp r3⟩
  · exact and_el (List.all_eq_true.mp h6 _ (Good.init e)) fun r1 r => and_el r fun r2 r3 => ⟨r1, beq_iff_eq.mp r2, beq_iff_eq.mp r3⟩

section
variable {prog : Program} {w : World} {cx : Cx} {h₀ : Heap} {fn : Nat → List V → Sto → Option (V × Sto)} {n : Nat}
theorem okFn_spec (Gd : Good cx prog w h₀ fn n) {a : Addr} {mf : MFn} (h : OkFn cx a mf) : FnSpec prog w cx.K h₀ cx.an (n + 1) a (mf.run (cx.tab fn)) := by
  obtain ⟨oc, od, osl, fd, body, ho, e, h, h0, h12⟩ := h
  exact and_el h fun h1 h => and_el h fun h2 h => and_el h fun h3 h => and_el h fun h4 h => and_el h fun h5 h => and_el h fun h6 h => and_el h fun h7 h => and_el h fun h9 h10 => and_el h0 fun h8 h11 =>
    fn_spec Gd.WD (vs := mf.vars.map Str.ofString) ⟨⟨oc, od, osl, ho⟩, no_is h1, no_is h2, e, h3, beq_iff_eq.mp h4, beq_iff_eq.mp h5, List.isEmpty_iff.mp h6, beq_iff_eq.mp h7, of_decide_eq_true h8, beq_iff_eq.mp h9, beq_iff_eq.mp h10, fun i x e =>
      (Bool.or_eq_true_iff.mp (List.all_eq_true.mp h11 x (List.mem_of_getElem? e))).imp beq_iff_eq.mp fun q => ⟨beq_iff_eq.mp q, fun k => (cells_some (beq_iff_eq.mp q) k []).elim fun c hc => (lookup_mem hc).elim fun c' hc' => by rw [hc']; rfl⟩⟩ (List.length_map _) (okB_snd Gd mf.body h12)

theorem all_specs {fns : List MFn} (WD : Wd cx.K h₀) (hn : namesB cx = true) (ht : tabB cx = true) (sh : ∀ s ∈ cx.shapes, Shape cx.K s.1 s.2.1 s.2.2.1 s.2.2.2) (fa : factsB cx = true) (hf : ∀ (f : Nat) mf, fns[f]? = some mf → OkFn cx (cx.addr f) mf) :
    ∀ k f, FnSpec prog w cx.K h₀ cx.an k (cx.addr f) (cx.fnAt fns k f)
  | 0, f => fun _ _ _ _ _ _ _ _ _ _ _ _ _ _ _ _ hd _ _ => noS hd
  | k + 1, f => by
    have Gd : Good cx prog w h₀ (cx.fnAt fns k) k := ⟨WD, tabB_is hn ht _, all_specs WD hn ht sh fa hf k, sh, fa⟩
    cases e : fns[f]? with
    | none =>
      have q : cx.fnAt fns (k + 1) f = fun _ _ => none := by funext args σ; show (match fns[f]? with | some mf => _ | none => _) = _; rw [e]
      rw [q]
      exact fun _ _ _ _ _ _ _ _ _ _ _ _ _ _ _ _ hd _ _ => noS hd
    | some mf =>
      have q : cx.fnAt fns (k + 1) f = mf.run (cx.tab (cx.fnAt fns k)) := by funext args σ; show (match fns[f]? with | some mf => _ | none => _) = _; rw [e]
      rw [q]
      exact okFn_spec Gd (hf f mf e)
end
open PySem PySem.W

noncomputable def f0 : MFn := -- law
  ⟨["script", "jar", "is_lone", "unit", "cap", "top", "column", "parts", "stops", "ahead", "nodes", "turn", "height", "ends", "ways", "wanted", "least", "goal", "pieces", "is_full"], 1, false, [
   .assign false [.var 1] (.call 1 [(.ite (.cmp .NotEq (.loc 0) (.lst false [])) (.loc 0) (.lst false [(.lit (.int 79060327964391246585639668))]))] [] []),
   .assign false [.var 2] (.bop true [(.cmp .Eq (.idx (.loc 1) (.lit (.int 0))) (.lit (.int 0))), (.cmp .Lt (.len (.loc 0)) (.lit (.int 2)))]),
   .assign false [.var 3] (.idx (.lst false [(.lit (.int 1)), (.lit (.int 1)), (.lit (.int 65536)), (.lit (.int 4000000))]) (.call 2 [(.loc 1), (.lit (.int 4))] [] [])),
   .assign true [.var 4, .var 5] (.tup [(.bin .Mult (.loc 3) (.idx (.lst false [(.lit (.int 20)), (.lit (.int 2)), (.lit (.int 1)), (.lit (.int 0)), (.neg (.lit (.int 1)))]) (.call 2 [(.loc 1), (.lit (.int 5))] [] []))), (.bin .Mult (.loc 3) (.call 2 [(.loc 1), (.lit (.int 13))] [] []))]),
   .assign false [.var 6] (.call 4 [(.loc 1), (.loc 3), (.ite (.loc 2) (.bin .Add (.lit (.int 2)) (.call 2 [(.loc 1), (.lit (.int 2))] [] [])) (.bin .Add (.lit (.int 1)) (.call 2 [(.loc 1), (.lit (.int 7))] [] []))), (.loc 4)] [] []),
   .assign true [.var 7, .var 8, .var 9] (.loc 6),
   .assign false [.var 10] (.comp [none] false [0] 0 (.loc 7) [] (.call 5 [(.loc 0)] [] [])),
   .for_ false [11] 2 (.lit (.int 3)) [.assign false [.var 12] (.idx (.idx (.loc 8) (.call 2 [(.loc 1), (.len (.loc 8))] [] [])) (.lit (.int 3))), .ite (.bop false [(.cmp .NotEq (.call 33 [(.loc 10), (.bin .Sub (.loc 12) (.lit (.int 1))), (.loc 4)] [] []) (.call 7 [(.loc 8), (.bin .Sub (.loc 12) (.lit (.int 1)))] [] [])), (.cmp .NotEq (.call 33 [(.loc 10), (.loc 12), (.loc 4)] [] []) (.call 7 [(.loc 8), (.loc 12)] [] []))]) [.ret (.lit (.bool false))] []],
   .assign false [.var 13] (.comp [some 8, none, none] true [1, 2] 1 (.loc 8) [(.bop false [(.cmp .Eq (.loc 1) (.lit (.int 0))), (.cmp .NotEq (.idx (.idx (.loc 0) (.bin .Sub (.loc 1) (.lit (.int 1)))) (.lit (.int 1))) (.idx (.loc 2) (.lit (.int 1))))])] (.loc 2)),
   .assign false [.var 14] (.call 9 [(.loc 6), (.loc 5), (.loc 13)] [] []),
   .assign false [.var 15] (.idx (.idx (.loc 14) (.call 2 [(.loc 1), (.len (.loc 14))] [] [])) (.lit (.int 0))),
   .assign false [.var 16] (.minl (.comp [some 15, none] false [1] 0 (.loc 14) [(.cmp .LtE (.idx (.loc 1) (.lit (.int 0))) (.loc 0))] (.idx (.loc 1) (.lit (.int 1))))),
   .assign false [.var 17] (.idx (.lst false [(.loc 16), (.bin .Sub (.loc 16) (.lit (.int 1))), (.loc 16), (.bin .Sub (.bin .Mult (.loc 3) (.call 2 [(.loc 1), (.lit (.int 40))] [] [])) (.lit (.int 1)))]) (.call 2 [(.loc 1), (.lit (.int 4))] [] [])),
   .assign false [.var 18] (.call 10 [(.loc 10), (.loc 17), (.loc 4), (.loc 5), (.bin .Add (.len (.loc 13)) (.lit (.int 1)))] [] []),
   .ite (.bop false [(.cmp .NotEq (.len (.loc 18)) (.minl (.comp [some 17, none] false [1] 0 (.loc 14) [(.cmp .LtE (.idx (.loc 1) (.lit (.int 2))) (.loc 0))] (.idx (.loc 1) (.lit (.int 0)))))), (.not (.call 11 [(.loc 6), (.loc 5), (.loc 17), (.loc 18)] [] []))]) [.ret (.lit (.bool false))] [],
   .assign false [.var 19] (.cmp .NotEq (.comp [none] false [0] 0 (.loc 18) [(.cmp .Eq (.idx (.idx (.loc 0) (.lit (.int 2))) (.lit (.int 0))) (.lit (.int 3)))] (.loc 0)) (.lst false [])),
   .ret (.bop true [(.cmp .Eq (.loc 19) (.cmp .Gt (.minl (.comp [none] false [0] 0 (.loc 14) [] (.idx (.loc 0) (.lit (.int 1))))) (.loc 17))), (.cmp .Eq (.comp [none] false [0] 0 (.loc 10) [] (.call 6 [(.loc 0)] [] [])) (.loc 7))])]⟩
noncomputable def f1 : MFn := -- _law_jar
  ⟨["script", "great", "blend", "cell"], 1, false, [
   .assign true [.var 1, .var 2] (.tup [(.lit (.int 0)), (.bin .Add (.lit (.int 31)) (.len (.loc 0)))]),
   .for_ false [3] 0 (.cutTo (.loc 0) (.lit (.int 63))) [.ite (.bop true [(.cmp .Eq (.loc 1) (.lit (.int 0))), (.cmp .GtE (.abs (.loc 3)) (.bin .Pow (.lit (.int 10)) (.lit (.int 18))))]) [.assign false [.var 1] (.bin .Mod (.bin .Sub (.abs (.loc 3)) (.bin .Pow (.lit (.int 10)) (.lit (.int 18)))) (.bin .Pow (.lit (.int 10)) (.lit (.int 90))))] [.assign false [.var 2] (.bin .Mod (.bin .Add (.bin .Mult (.loc 2) (.lit (.int 4099))) (.loc 3)) (.lit (.int 1000003)))]],
   .ret (.lst true [(.loc 1), (.loc 2), (.lit (.int 0))])]⟩
noncomputable def f2 : MFn := -- _law_take
  ⟨["jar", "many", "digit"], 2, false, [
   .ite (.cmp .Gt (.idx (.loc 0) (.lit (.int 0))) (.lit (.int 0))) [.assign false [.var 2] (.bin .Mod (.idx (.loc 0) (.lit (.int 0))) (.loc 1)), .assign false [.idx (.loc 0) (.lit (.int 0))] (.bin .FloorDiv (.idx (.loc 0) (.lit (.int 0))) (.loc 1)), .ret (.loc 2)] [],
   .assign false [.idx (.loc 0) (.lit (.int 2))] (.bin .Add (.idx (.loc 0) (.lit (.int 2))) (.lit (.int 1))),
   .ret (.bin .Mod (.bin .FloorDiv (.bin .Mod (.bin .Pow (.bin .Add (.idx (.loc 0) (.lit (.int 1))) (.bin .Mult (.lit (.int 40093)) (.idx (.loc 0) (.lit (.int 2))))) (.lit (.int 3))) (.lit (.int 2147483647))) (.lit (.int 64))) (.loc 1))]⟩
noncomputable def f3 : MFn := -- _law_gap
  ⟨["jar", "unit", "letters", "offsets"], 2, false, [
   .assign true [.var 2, .var 3] (.idx (.lst false [(.tup [(.lit (.str (Str.ofString "g"))), (.tup [(.lit (.int 0))])]), (.tup [(.lit (.str (Str.ofString "kg"))), (.tup [(.lit (.int 0))])]), (.tup [(.lit (.str (Str.ofString "gkg"))), (.tup [(.lit (.int 0)), (.lit (.int 1))])]), (.tup [(.lit (.str (Str.ofString "mg"))), (.tup [(.lit (.int 1))])]), (.tup [(.lit (.str (Str.ofString "gk"))), (.tup [(.lit (.int 0))])]), (.tup [(.lit (.str (Str.ofString "gg"))), (.tup [(.lit (.int 0))])]), (.tup [(.lit (.str (Str.ofString "nkg"))), (.tup [(.lit (.int 1))])]), (.tup [(.lit (.str (Str.ofString "f"))), (.tup [(.lit (.int 0))])]), (.tup [(.lit (.str (Str.ofString "fg"))), (.tup [(.lit (.int 0))])]), (.tup [(.lit (.str (Str.ofString "k"))), (.tup [])]), (.tup [(.lit (.str (Str.ofString "ng"))), (.tup [])]), (.tup [(.lit (.str (Str.ofString ""))), (.tup [])])]) (.call 2 [(.loc 0), (.lit (.int 12))] [] [])),
   .ret (.tup [(.comp [some 1, some 0, none] false [2] 0 (.loc 2) [] (.tup [(.loc 2), (.bin .Mult (.loc 0) (.call 2 [(.loc 1), (.lit (.int 6))] [] [])), (.lit (.int 0)), (.lit (.int 0))])), (.loc 3)])]⟩
noncomputable def f4 : MFn := -- _law_column
  ⟨["jar", "unit", "many", "cap", "parts", "stops", "ahead", "size", "low", "label", "box", "gap", "offsets", "at", "part"], 4, true, [
   .assign true [.var 4, .var 5, .var 6, .var 7, .var 8] (.tup [(.lst true []), (.lst true []), (.lst true []), (.lit (.int 0)), (.lit (.int 0))]),
   .for_ false [9] 3 (.tup [(.lit (.int 1)), (.bin .Add (.loc 2) (.lit (.int 1)))]) [.expr (.append (.loc 6) (.tup [(.len (.loc 4)), (.loc 7)])), .assign false [.var 10] (.tup [(.idx (.lst false [(.lit (.str (Str.ofString "b"))), (.lit (.str (Str.ofString "v"))), (.lit (.str (Str.ofString "b"))), (.lit (.str (Str.ofString "v"))), (.lit (.str (Str.ofString "r")))]) (.call 2 [(.loc 0), (.lit (.int 5))] [] [])), (.bin .Mult (.loc 1) (.call 2 [(.loc 0), (.lit (.int 9))] [] [])), (.bin .Mult (.loc 1) (.call 2 [(.loc 0), (.lit (.int 4))] [] [])), (.loc 9)]), .expr (.append (.loc 4) (.loc 10)), .assign true [.var 7, .var 8] (.tup [(.bin .Add (.bin .Add (.loc 7) (.idx (.loc 10) (.lit (.int 1)))) (.idx (.loc 10) (.lit (.int 2)))), (.idx (.loc 10) (.lit (.int 2)))]), .assign true [.var 11, .var 12] (.call 3 [(.loc 0), (.loc 1)] [] []), .for_ true [13, 14] 1 (.loc 11) [.ite (.cmp .In (.loc 13) (.loc 12)) [.expr (.append (.loc 5) (.tup [(.len (.loc 4)), (.loc 9), (.loc 7), (.bin .Sub (.loc 7) (.min2 (.loc 3) (.loc 8))), (.ite (.cmp .Eq (.idx (.loc 14) (.lit (.int 0))) (.lit (.str (Str.ofString "f")))) (.bin .Sub (.neg (.lit (.int 10000))) (.idx (.loc 14) (.lit (.int 1)))) (.lit (.int 0)))]))] [], .expr (.append (.loc 4) (.loc 14)), .ite (.bop false [(.cmp .Eq (.idx (.loc 14) (.lit (.int 0))) (.lit (.str (Str.ofString "g")))), (.cmp .Eq (.idx (.loc 14) (.lit (.int 0))) (.lit (.str (Str.ofString "k"))))]) [.assign true [.var 7, .var 8] (.tup [(.bin .Add (.loc 7) (.idx (.loc 14) (.lit (.int 1)))), (.lit (.int 0))])] []]],
   .expr (.append (.loc 5) (.tup [(.len (.loc 4)), (.loc 2), (.loc 7), (.bin .Sub (.loc 7) (.min2 (.loc 3) (.loc 8))), (.neg (.lit (.int 10000)))])),
   .ret (.tup [(.loc 4), (.loc 5), (.loc 6)])]⟩
noncomputable def f5 : MFn := -- _law_node
  ⟨["part", "letter", "high", "deep", "label"], 1, true, [
   .assign true [.var 1, .var 2, .var 3, .var 4] (.loc 0),
   .ite (.cmp .Eq (.loc 1) (.lit (.str (Str.ofString "g")))) [.ret (.new 406 [(.new 238 [(.loc 2)] [.int 0, .int 0, .int 0, .int 0]), (.lit (.int 0))] [.none])] [],
   .ite (.cmp .Eq (.loc 1) (.lit (.str (Str.ofString "k")))) [.ret (.new 384 [(.loc 2), (.lit (.int 1))] [])] [],
   .ite (.cmp .Eq (.loc 1) (.lit (.str (Str.ofString "m")))) [.ret (.new 448 [(.tup [(.tup [(.lit (.int 0)), (.loc 2)])])] [])] [],
   .ite (.bop false [(.cmp .Eq (.loc 1) (.lit (.str (Str.ofString "n")))), (.cmp .Eq (.loc 1) (.lit (.str (Str.ofString "f"))))]) [.ret (.new 427 [(.ite (.cmp .Eq (.loc 1) (.lit (.str (Str.ofString "n")))) (.bin .Add (.lit (.int 10000)) (.loc 2)) (.bin .Sub (.neg (.lit (.int 10000))) (.loc 2)))] [])] [],
   .ite (.cmp .Eq (.loc 1) (.lit (.str (Str.ofString "r")))) [.ret (.new 363 [(.loc 4), (.ite (.cmp .Eq (.loc 2) (.lit (.int 0))) (.lit (.none)) (.loc 2)), (.ite (.cmp .Eq (.loc 3) (.lit (.int 0))) (.lit (.none)) (.loc 3))] [])] [],
   .ret (.new 342 [(.ite (.cmp .Eq (.loc 1) (.lit (.str (Str.ofString "b")))) (.glob 0 (.int 2)) (.glob 0 (.int 3))), (.loc 4), (.loc 2), (.loc 3), (.lst false [])] [])]⟩
noncomputable def f6 : MFn := -- _law_told
  ⟨["node", "kind"], 1, false, [
   .assign false [.var 1] (.attr (.loc 0) 0),
   .ite (.cmp .Eq (.loc 1) (.glob 0 (.int 6))) [.ret (.tup [(.lit (.str (Str.ofString "g"))), (.attr (.attr (.loc 0) 10) 1), (.attr (.attr (.loc 0) 10) 14), (.attr (.attr (.loc 0) 10) 16)])] [],
   .ite (.cmp .Eq (.loc 1) (.glob 0 (.int 5))) [.ret (.tup [(.lit (.str (Str.ofString "k"))), (.attr (.loc 0) 1), (.lit (.int 0)), (.lit (.int 0))])] [],
   .ite (.cmp .Eq (.loc 1) (.glob 0 (.int 9))) [.ret (.tup [(.lit (.str (Str.ofString "m"))), (.idx (.idx (.attr (.loc 0) 13) (.lit (.int 0))) (.lit (.int 1))), (.lit (.int 0)), (.lit (.int 0))])] [],
   .ite (.cmp .Eq (.loc 1) (.glob 0 (.int 7))) [.ret (.tup [(.ite (.cmp .Gt (.attr (.loc 0) 12) (.lit (.int 0))) (.lit (.str (Str.ofString "n"))) (.lit (.str (Str.ofString "f")))), (.bin .Sub (.abs (.attr (.loc 0) 12)) (.lit (.int 10000))), (.lit (.int 0)), (.lit (.int 0))])] [],
   .ite (.cmp .Eq (.loc 1) (.glob 0 (.int 4))) [.ret (.tup [(.lit (.str (Str.ofString "r"))), (.ite (.cmp .Is (.attr (.loc 0) 2) (.lit (.none))) (.lit (.int 0)) (.attr (.loc 0) 2)), (.ite (.cmp .Is (.attr (.loc 0) 3) (.lit (.none))) (.lit (.int 0)) (.attr (.loc 0) 3)), (.attr (.loc 0) 1)])] [],
   .ret (.tup [(.ite (.cmp .Eq (.loc 1) (.glob 0 (.int 2))) (.lit (.str (Str.ofString "b"))) (.lit (.str (Str.ofString "v")))), (.attr (.loc 0) 2), (.attr (.loc 0) 3), (.attr (.loc 0) 1)])]⟩
noncomputable def f7 : MFn := -- _law_due
  ⟨["stops", "height", "forced", "near", "fits", "stop"], 2, false, [
   .assign false [.var 2] (.comp [none, none] true [0, 1] 1 (.loc 0) [(.cmp .Lt (.idx (.loc 1) (.lit (.int 4))) (.lit (.int 0)))] (.loc 0)),
   .assign false [.var 3] (.cutTo (.loc 0) (.bin .Add (.idx (.loc 2) (.lit (.int 0))) (.lit (.int 1)))),
   .assign false [.var 4] (.comp [some 1, none] false [1] 0 (.loc 3) [(.cmp .LtE (.idx (.loc 1) (.lit (.int 3))) (.loc 0))] (.loc 1)),
   .ite (.cmp .Eq (.loc 4) (.lst false [])) [.ret (.tup [(.idx (.idx (.loc 3) (.lit (.int 0))) (.lit (.int 0))), (.bin .Sub (.bin .Pow (.lit (.int 2)) (.lit (.int 30))) (.lit (.int 1))), (.idx (.idx (.loc 3) (.lit (.int 0))) (.lit (.int 2)))])] [],
   .assign false [.var 5] (.idx (.loc 4) (.neg (.lit (.int 1)))),
   .ite (.cmp .Lt (.idx (.loc 5) (.lit (.int 4))) (.lit (.int 0))) [.ret (.tup [(.idx (.loc 5) (.lit (.int 0))), (.idx (.loc 5) (.lit (.int 4))), (.idx (.loc 5) (.lit (.int 2)))])] [],
   .ret (.tup [(.idx (.loc 5) (.lit (.int 0))), (.ite (.cmp .Eq (.idx (.loc 5) (.lit (.int 3))) (.loc 1)) (.lit (.int 0)) (.lit (.int 100000))), (.idx (.loc 5) (.lit (.int 2)))])]⟩
noncomputable def f8 : MFn := -- _law_high
  ⟨["column", "top", "first", "stop", "parts", "stops", "ahead", "place", "size"], 4, false, [
   .assign true [.var 4, .var 5, .var 6] (.loc 0),
   .assign true [.var 7, .var 8] (.idx (.loc 6) (.loc 2)),
   .ret (.bin .Add (.bin .Sub (.idx (.loc 3) (.lit (.int 3))) (.loc 8)) (.ite (.cmp .Gt (.loc 2) (.lit (.int 0))) (.max2 (.lit (.int 0)) (.bin .Sub (.loc 1) (.idx (.idx (.loc 4) (.loc 7)) (.lit (.int 1))))) (.lit (.int 0))))]⟩
noncomputable def f9 : MFn := -- _law_ways
  ⟨["column", "top", "ends", "found", "tall", "many", "begin", "first", "way", "count", "worst", "need", "end", "high"], 3, true, [
   .assign true [.var 3, .var 4, .var 5] (.tup [(.lst true []), (.lst true []), (.len (.loc 2))]),
   .for_ false [6] 2 (.loc 5) [.assign false [.var 7] (.ite (.cmp .Gt (.loc 6) (.lit (.int 0))) (.idx (.idx (.loc 2) (.bin .Sub (.loc 6) (.lit (.int 1)))) (.lit (.int 1))) (.lit (.int 0))), .expr (.append (.loc 4) (.comp [some 0, some 1, some 7, none] false [3] 0 (.cutFrom (.loc 2) (.loc 6)) [] (.call 8 [(.loc 0), (.loc 1), (.loc 2), (.loc 3)] [] [])))],
   .for_ false [8] 2 (.bin .Pow (.lit (.int 2)) (.bin .Sub (.loc 5) (.lit (.int 1)))) [.assign true [.var 9, .var 10, .var 11, .var 6] (.tup [(.lit (.int 0)), (.neg (.lit (.int 1))), (.neg (.lit (.int 1))), (.lit (.int 0))]), .for_ false [12] 2 (.loc 5) [.ite (.bop false [(.cmp .Eq (.loc 12) (.bin .Sub (.loc 5) (.lit (.int 1)))), (.cmp .Lt (.idx (.idx (.loc 2) (.loc 12)) (.lit (.int 4))) (.lit (.int 0))), (.cmp .Eq (.bin .Mod (.bin .FloorDiv (.loc 8) (.bin .Pow (.lit (.int 2)) (.loc 12))) (.lit (.int 2))) (.lit (.int 1)))]) [.assign false [.var 13] (.idx (.idx (.loc 4) (.loc 6)) (.bin .Sub (.loc 12) (.loc 6))), .assign true [.var 9, .var 10] (.tup [(.bin .Add (.loc 9) (.lit (.int 1))), (.max2 (.loc 10) (.loc 13))]), .ite (.cmp .Gt (.loc 12) (.loc 6)) [.assign false [.var 11] (.max2 (.loc 11) (.loc 13))] [], .assign false [.var 6] (.bin .Add (.loc 12) (.lit (.int 1)))] []], .expr (.append (.loc 3) (.tup [(.loc 9), (.loc 10), (.loc 11)]))],
   .ret (.loc 3)]⟩
noncomputable def f10 : MFn := -- _law_pieces
  ⟨["nodes", "goal", "cap", "top", "most", "found", "rest", "head", "marks", "report", "numbers"], 5, true, [
   .assign true [.var 5, .var 6] (.tup [(.lst true []), (.idx (.call 30 [(.loc 0)] [.int 1, .int 0, .int 1073741823] []) (.lit (.int 0)))]),
   .while_ (.bop true [(.cmp .IsNot (.loc 6) (.lit (.none))), (.cmp .Lt (.len (.loc 5)) (.loc 4))]) [.assign true [.var 7, .var 6, .var 8, .var 9] (.call 37 [(.loc 6), (.loc 1), (.loc 2), (.loc 2), (.new 238 [(.loc 3)] [.int 0, .int 0, .int 0, .int 0])] [] []), .assign false [.var 10] (.comp [none] false [0] 0 (.attr (.loc 7) 4) [(.bop false [(.cmp .Eq (.attr (.loc 0) 0) (.glob 0 (.int 2))), (.cmp .Eq (.attr (.loc 0) 0) (.glob 0 (.int 3))), (.cmp .Eq (.attr (.loc 0) 0) (.glob 0 (.int 4)))])] (.attr (.loc 0) 1)), .expr (.append (.loc 5) (.tup [(.loc 10), (.len (.attr (.loc 7) 4)), (.loc 9)]))],
   .ret (.loc 5)]⟩
noncomputable def f11 : MFn := -- _law_right
  ⟨["column", "top", "goal", "pieces", "parts", "stops", "ahead", "first", "numbers", "count", "report", "behind", "place", "here", "high"], 4, false, [
   .assign true [.var 4, .var 5, .var 6] (.loc 0),
   .assign false [.var 7] (.lit (.int 0)),
   .for_ true [8, 9, 10] 0 (.loc 3) [.assign false [.var 11] (.bin .Add (.loc 7) (.len (.loc 8))), .ite (.bop false [(.cmp .Eq (.loc 8) (.lst false [])), (.cmp .NotEq (.loc 8) (.lrange (.bin .Add (.loc 7) (.lit (.int 1))) (.bin .Add (.loc 11) (.lit (.int 1)))))]) [.ret (.lit (.bool false))] [], .assign false [.var 12] (.bin .Sub (.bin .Add (.idx (.idx (.loc 6) (.loc 7)) (.lit (.int 0))) (.loc 9)) (.ite (.cmp .Gt (.loc 7) (.lit (.int 0))) (.lit (.int 1)) (.lit (.int 0)))), .assign false [.var 13] (.comp [some 12, some 11, none] false [2] 0 (.loc 5) [(.bop true [(.cmp .Eq (.idx (.loc 2) (.lit (.int 0))) (.loc 0)), (.cmp .Eq (.idx (.loc 2) (.lit (.int 1))) (.loc 1))])] (.loc 2)), .ite (.cmp .Eq (.loc 13) (.lst false [])) [.ret (.lit (.bool false))] [], .assign false [.var 14] (.call 8 [(.loc 0), (.loc 1), (.loc 7), (.idx (.loc 13) (.lit (.int 0)))] [] []), .ite (.cmp .Gt (.loc 14) (.loc 2)) [.ite (.bop false [(.cmp .NotEq (.loc 10) (.tup [(.lit (.int 3)), (.bin .Sub (.loc 14) (.loc 2))])), (.cmp .NotEq (.idx (.loc 13) (.lit (.int 0))) (.idx (.comp [some 7, none] false [1] 0 (.loc 5) [(.cmp .Gt (.idx (.loc 1) (.lit (.int 1))) (.loc 0))] (.loc 1)) (.lit (.int 0))))]) [.ret (.lit (.bool false))] []] [.ite (.cmp .NotEq (.loc 10) (.ite (.cmp .Eq (.loc 14) (.loc 2)) (.tup [(.lit (.int 0)), (.lit (.int 0))]) (.tup [(.lit (.int 1)), (.lit (.int 10000))]))) [.ret (.lit (.bool false))] []], .assign false [.var 7] (.loc 11)],
   .ret (.cmp .Eq (.loc 7) (.len (.loc 6)))]⟩
noncomputable def f12 : MFn := -- is_whole
  ⟨["value", "low", "high"], 3, false, [
   .ret (.bop true [(.isint (.loc 0)), (.not (.isbool (.loc 0))), (.chain .LtE .LtE (.loc 1) (.loc 0) (.loc 2))])]⟩
noncomputable def f13 : MFn := -- check_whole
  ⟨["value"], 1, false, [
   .ite (.bop false [(.not (.isint (.loc 0))), (.isbool (.loc 0))]) [.fail] [],
   .ret (.loc 0)]⟩
noncomputable def f14 : MFn := -- check_number
  ⟨["value"], 1, false, [
   .ite (.not (.chain .LtE .LtE (.neg (.glob 0 (.int 2147483647))) (.call 13 [(.loc 0)] [] []) (.glob 0 (.int 2147483647)))) [.fail] [],
   .ret (.loc 0)]⟩
noncomputable def f15 : MFn := -- check_dimen
  ⟨["value"], 1, false, [
   .ite (.not (.chain .LtE .LtE (.neg (.glob 0 (.int 1073741823))) (.call 13 [(.loc 0)] [] []) (.glob 0 (.int 1073741823)))) [.fail] [],
   .ret (.loc 0)]⟩
noncomputable def f16 : MFn := -- badness
  ⟨["excess", "total", "ratio"], 2, false, [
   .ite (.cmp .Lt (.loc 0) (.lit (.int 0))) [.fail] [],
   .ite (.cmp .Eq (.loc 0) (.lit (.int 0))) [.ret (.lit (.int 0))] [],
   .ite (.cmp .LtE (.loc 1) (.lit (.int 0))) [.ret (.glob 0 (.int 10000))] [],
   .ite (.cmp .LtE (.loc 0) (.lit (.int 7230584))) [.assign false [.var 2] (.bin .FloorDiv (.bin .Mult (.loc 0) (.lit (.int 297))) (.loc 1))] [.ite (.cmp .GtE (.loc 1) (.lit (.int 1663497))) [.assign false [.var 2] (.bin .FloorDiv (.loc 0) (.bin .FloorDiv (.loc 1) (.lit (.int 297))))] [.assign false [.var 2] (.loc 0)]],
   .ite (.cmp .Gt (.loc 2) (.lit (.int 1290))) [.ret (.glob 0 (.int 10000))] [],
   .ret (.bin .FloorDiv (.bin .Add (.bin .Mult (.bin .Mult (.loc 2) (.loc 2)) (.loc 2)) (.lit (.int 131072))) (.lit (.int 262144)))]⟩
noncomputable def f17 : MFn := -- top_order
  ⟨["sums", "order"], 1, false, [
   .for_ false [1] 0 (.tup [(.glob 0 (.int 3)), (.glob 0 (.int 2)), (.glob 0 (.int 1))]) [.ite (.cmp .NotEq (.idx (.loc 0) (.loc 1)) (.lit (.int 0))) [.ret (.loc 1)] []],
   .ret (.glob 0 (.int 0))]⟩
noncomputable def f18 : MFn := -- width_of
  ⟨["node", "kind"], 1, false, [
   .assign false [.var 1] (.attr (.loc 0) 0),
   .ite (.bop false [(.cmp .Eq (.loc 1) (.glob 0 (.int 0))), (.cmp .Eq (.loc 1) (.glob 0 (.int 1)))]) [.ret (.fail)] [],
   .ite (.bop false [(.cmp .Eq (.loc 1) (.glob 0 (.int 2))), (.cmp .Eq (.loc 1) (.glob 0 (.int 3))), (.cmp .Eq (.loc 1) (.glob 0 (.int 5))), (.cmp .Eq (.loc 1) (.glob 0 (.int 12))), (.cmp .Eq (.loc 1) (.glob 0 (.int 14)))]) [.ret (.attr (.loc 0) 1)] [],
   .ite (.cmp .Eq (.loc 1) (.glob 0 (.int 4))) [.ret (.ite (.cmp .Is (.attr (.loc 0) 1) (.lit (.none))) (.lit (.int 0)) (.attr (.loc 0) 1))] [],
   .ite (.cmp .Eq (.loc 1) (.glob 0 (.int 6))) [.ret (.attr (.attr (.loc 0) 10) 1)] [],
   .ite (.cmp .Eq (.loc 1) (.glob 0 (.int 8))) [.ret (.fail)] [],
   .ret (.lit (.int 0))]⟩
noncomputable def f19 : MFn := -- height_of
  ⟨["node", "kind"], 1, false, [
   .assign false [.var 1] (.attr (.loc 0) 0),
   .ite (.bop false [(.cmp .Eq (.loc 1) (.glob 0 (.int 0))), (.cmp .Eq (.loc 1) (.glob 0 (.int 1)))]) [.ret (.fail)] [],
   .ite (.bop false [(.cmp .Eq (.loc 1) (.glob 0 (.int 2))), (.cmp .Eq (.loc 1) (.glob 0 (.int 3))), (.cmp .Eq (.loc 1) (.glob 0 (.int 14)))]) [.ret (.attr (.loc 0) 2)] [],
   .ite (.cmp .Eq (.loc 1) (.glob 0 (.int 4))) [.ret (.ite (.cmp .Is (.attr (.loc 0) 2) (.lit (.none))) (.lit (.int 0)) (.attr (.loc 0) 2))] [],
   .ite (.bop true [(.cmp .Eq (.loc 1) (.glob 0 (.int 6))), (.cmp .IsNot (.attr (.loc 0) 11) (.lit (.none)))]) [.ret (.fail)] [],
   .ite (.cmp .Eq (.loc 1) (.glob 0 (.int 8))) [.ret (.fail)] [],
   .ret (.lit (.int 0))]⟩
noncomputable def f20 : MFn := -- depth_of
  ⟨["node", "kind"], 1, false, [
   .assign false [.var 1] (.attr (.loc 0) 0),
   .ite (.bop false [(.cmp .Eq (.loc 1) (.glob 0 (.int 0))), (.cmp .Eq (.loc 1) (.glob 0 (.int 1)))]) [.ret (.fail)] [],
   .ite (.bop false [(.cmp .Eq (.loc 1) (.glob 0 (.int 2))), (.cmp .Eq (.loc 1) (.glob 0 (.int 3))), (.cmp .Eq (.loc 1) (.glob 0 (.int 14)))]) [.ret (.attr (.loc 0) 3)] [],
   .ite (.cmp .Eq (.loc 1) (.glob 0 (.int 4))) [.ret (.ite (.cmp .Is (.attr (.loc 0) 3) (.lit (.none))) (.lit (.int 0)) (.attr (.loc 0) 3))] [],
   .ite (.bop true [(.cmp .Eq (.loc 1) (.glob 0 (.int 6))), (.cmp .IsNot (.attr (.loc 0) 11) (.lit (.none)))]) [.ret (.fail)] [],
   .ite (.cmp .Eq (.loc 1) (.glob 0 (.int 8))) [.ret (.fail)] [],
   .ret (.lit (.int 0))]⟩
noncomputable def f21 : MFn := -- is_discardable
  ⟨["node"], 1, false, [
   .ret (.bop false [(.cmp .Eq (.attr (.loc 0) 0) (.glob 0 (.int 6))), (.cmp .Eq (.attr (.loc 0) 0) (.glob 0 (.int 5))), (.cmp .Eq (.attr (.loc 0) 0) (.glob 0 (.int 7))), (.cmp .Eq (.attr (.loc 0) 0) (.glob 0 (.int 12)))])]⟩
noncomputable def f22 : MFn := -- is_breakable_ahead
  ⟨["node"], 1, false, [
   .ret (.not (.call 21 [(.loc 0)] [] []))]⟩
noncomputable def f23 : MFn := -- across
  ⟨["node"], 1, false, [
   .ite (.bop false [(.cmp .Eq (.attr (.loc 0) 0) (.glob 0 (.int 2))), (.cmp .Eq (.attr (.loc 0) 0) (.glob 0 (.int 3)))]) [.ret (.bin .Add (.attr (.loc 0) 1) (.attr (.loc 0) 5))] [],
   .ite (.cmp .Eq (.attr (.loc 0) 0) (.glob 0 (.int 6))) [.ret (.ite (.cmp .Is (.attr (.loc 0) 11) (.lit (.none))) (.lit (.int 0)) (.call 18 [(.attr (.loc 0) 11)] [] []))] [],
   .ret (.ite (.cmp .Eq (.attr (.loc 0) 0) (.glob 0 (.int 5))) (.lit (.int 0)) (.call 18 [(.loc 0)] [] []))]⟩
noncomputable def f24 : MFn := -- check_column
  ⟨["items", "node"], 1, false, [
   .for_ false [1] 0 (.loc 0) [.ite (.bop false [(.cmp .Eq (.attr (.loc 1) 0) (.glob 0 (.int 0))), (.cmp .Eq (.attr (.loc 1) 0) (.glob 0 (.int 1))), (.cmp .Eq (.attr (.loc 1) 0) (.glob 0 (.int 8))), (.cmp .Eq (.attr (.loc 1) 0) (.glob 0 (.int 12)))]) [.fail] []]]⟩
noncomputable def f25 : MFn := -- natural_column
  ⟨["items", "totals", "width", "depth", "node"], 1, false, [
   .expr (.call 24 [(.loc 0)] [] []),
   .assign false [.var 1] (.new 301 [] []),
   .assign true [.var 2, .var 3] (.tup [(.lit (.int 0)), (.lit (.int 0))]),
   .for_ false [4] 0 (.loc 0) [.assign false [.var 2] (.max2 (.loc 2) (.call 23 [(.loc 4)] [] [])), .ite (.cmp .Eq (.attr (.loc 4) 0) (.glob 0 (.int 6))) [.expr (.meth (.loc 1) 26 [(.loc 3)]), .expr (.meth (.loc 1) 19 [(.attr (.loc 4) 10)]), .assign false [.var 3] (.lit (.int 0))] [.ite (.cmp .Eq (.attr (.loc 4) 0) (.glob 0 (.int 5))) [.expr (.meth (.loc 1) 26 [(.bin .Add (.loc 3) (.attr (.loc 4) 1))]), .assign false [.var 3] (.lit (.int 0))] [.ite (.bop false [(.cmp .Eq (.attr (.loc 4) 0) (.glob 0 (.int 2))), (.cmp .Eq (.attr (.loc 4) 0) (.glob 0 (.int 3))), (.cmp .Eq (.attr (.loc 4) 0) (.glob 0 (.int 4))), (.cmp .Eq (.attr (.loc 4) 0) (.glob 0 (.int 14)))]) [.expr (.meth (.loc 1) 26 [(.bin .Add (.loc 3) (.call 19 [(.loc 4)] [] []))]), .assign false [.var 3] (.call 20 [(.loc 4)] [] [])] []]]],
   .ret (.tup [(.loc 1), (.loc 2), (.loc 3)])]⟩
noncomputable def f26 : MFn := -- quotient
  ⟨["up", "down"], 2, false, [
   .ret (.ite (.cmp .Gt (.loc 1) (.lit (.int 0))) (.tup [(.loc 0), (.loc 1)]) (.tup [(.neg (.loc 0)), (.neg (.loc 1))]))]⟩
noncomputable def f27 : MFn := -- set_glue
  ⟨["totals", "excess", "order", "total", "report"], 2, false, [
   .ite (.cmp .Eq (.loc 1) (.lit (.int 0))) [.ret (.tup [(.glob 0 (.int 0)), (.glob 0 (.int 0)), (.tup [(.lit (.int 0)), (.lit (.int 1))]), (.tup [(.glob 0 (.int 0)), (.lit (.int 0))])])] [],
   .assign false [.var 2] (.ite (.cmp .Gt (.loc 1) (.lit (.int 0))) (.meth (.loc 0) 25 []) (.meth (.loc 0) 23 [])),
   .assign false [.var 3] (.ite (.cmp .Gt (.loc 1) (.lit (.int 0))) (.idx (.attr (.loc 0) 14) (.loc 2)) (.idx (.attr (.loc 0) 16) (.loc 2))),
   .assign false [.var 4] (.tup [(.glob 0 (.int 0)), (.lit (.int 0))]),
   .ite (.cmp .Eq (.loc 2) (.glob 0 (.int 0))) [.assign false [.var 4] (.tup [(.ite (.cmp .Gt (.loc 1) (.lit (.int 0))) (.glob 0 (.int 1)) (.glob 0 (.int 2))), (.call 16 [(.abs (.loc 1)), (.loc 3)] [] [])])] [],
   .ite (.bop true [(.cmp .Eq (.loc 2) (.glob 0 (.int 0))), (.cmp .Lt (.loc 1) (.lit (.int 0))), (.cmp .Lt (.loc 3) (.neg (.loc 1)))]) [.assign false [.var 4] (.tup [(.glob 0 (.int 3)), (.bin .Sub (.neg (.loc 1)) (.loc 3))])] [],
   .ite (.cmp .Eq (.loc 3) (.lit (.int 0))) [.ret (.tup [(.glob 0 (.int 0)), (.glob 0 (.int 0)), (.tup [(.lit (.int 0)), (.lit (.int 1))]), (.loc 4)])] [],
   .ite (.cmp .Eq (.idx (.loc 4) (.lit (.int 0))) (.glob 0 (.int 3))) [.ret (.tup [(.glob 0 (.int 2)), (.loc 2), (.tup [(.lit (.int 1)), (.lit (.int 1))]), (.loc 4)])] [],
   .ret (.tup [(.ite (.cmp .Gt (.loc 1) (.lit (.int 0))) (.glob 0 (.int 1)) (.glob 0 (.int 2))), (.loc 2), (.call 26 [(.abs (.loc 1)), (.loc 3)] [] []), (.loc 4)])]⟩
noncomputable def f28 : MFn := -- goal_size
  ⟨["own", "mode", "amount"], 3, false, [
   .ite (.bop true [(.cmp .NotEq (.loc 1) (.glob 0 (.int 0))), (.cmp .NotEq (.loc 1) (.glob 0 (.int 1)))]) [.fail] [],
   .expr (.call 15 [(.loc 2)] [] []),
   .ret (.ite (.cmp .Eq (.loc 1) (.glob 0 (.int 0))) (.loc 2) (.bin .Add (.loc 0) (.loc 2)))]⟩
noncomputable def f29 : MFn := -- set_box
  ⟨["box", "totals", "excess", "report"], 3, false, [
   .assign true [.attr (.loc 0) 6, .attr (.loc 0) 7, .attr (.loc 0) 8, .var 3] (.call 27 [(.loc 1), (.loc 2)] [] []),
   .ret (.ite (.cmp .NotEq (.attr (.loc 0) 4) (.lst false [])) (.loc 3) (.tup [(.glob 0 (.int 0)), (.lit (.int 0))]))]⟩
noncomputable def f30 : MFn := -- vpack
  ⟨["items", "mode", "amount", "most_depth", "totals", "width", "depth", "height", "box"], 4, true, [
   .expr (.call 15 [(.loc 3)] [] []),
   .assign true [.var 4, .var 5, .var 6] (.call 25 [(.loc 0)] [] []),
   .ite (.cmp .Gt (.loc 6) (.loc 3)) [.expr (.meth (.loc 4) 26 [(.bin .Sub (.loc 6) (.loc 3))]), .assign false [.var 6] (.loc 3)] [],
   .assign false [.var 7] (.call 28 [(.attr (.loc 4) 18), (.loc 1), (.loc 2)] [] []),
   .assign false [.var 8] (.new 342 [(.glob 0 (.int 3)), (.loc 5), (.loc 7), (.loc 6), (.loc 0)] []),
   .ret (.tup [(.loc 8), (.call 29 [(.loc 8), (.loc 4), (.bin .Sub (.loc 7) (.attr (.loc 4) 18))] [] [])])]⟩
noncomputable def f31 : MFn := -- break_penalty
  ⟨["items", "place", "node", "is_last"], 2, false, [
   .ite (.cmp .Eq (.loc 1) (.len (.loc 0))) [.ret (.glob 0 (.int (-10000)))] [],
   .assign false [.var 2] (.idx (.loc 0) (.loc 1)),
   .ite (.cmp .Eq (.attr (.loc 2) 0) (.glob 0 (.int 7))) [.ret (.attr (.loc 2) 12)] [],
   .ite (.cmp .Eq (.attr (.loc 2) 0) (.glob 0 (.int 6))) [.ret (.ite (.bop true [(.cmp .Gt (.loc 1) (.lit (.int 0))), (.call 22 [(.idx (.loc 0) (.bin .Sub (.loc 1) (.lit (.int 1))))] [] [])]) (.lit (.int 0)) (.lit (.none)))] [],
   .ite (.cmp .Eq (.attr (.loc 2) 0) (.glob 0 (.int 5))) [.assign false [.var 3] (.cmp .Eq (.bin .Add (.loc 1) (.lit (.int 1))) (.len (.loc 0))), .ret (.ite (.bop true [(.not (.loc 3)), (.cmp .Eq (.attr (.idx (.loc 0) (.bin .Add (.loc 1) (.lit (.int 1)))) 0) (.glob 0 (.int 6)))]) (.lit (.int 0)) (.lit (.none)))] [],
   .ret (.lit (.none))]⟩
noncomputable def f32 : MFn := -- cost_here
  ⟨["column", "goal", "penalty", "bad"], 3, false, [
   .assign false [.var 3] (.meth (.loc 0) 20 [(.loc 1)]),
   .ite (.cmp .Eq (.loc 3) (.glob 0 (.int 1073741823))) [.ret (.glob 0 (.int 1073741823))] [],
   .ite (.cmp .LtE (.loc 2) (.glob 0 (.int (-10000)))) [.ret (.loc 2)] [],
   .ret (.ite (.cmp .Lt (.loc 3) (.glob 0 (.int 10000))) (.bin .Add (.loc 3) (.loc 2)) (.glob 0 (.int 100000)))]⟩
noncomputable def f33 : MFn := -- best_break
  ⟨["items", "height", "most_depth", "column", "best", "least", "size", "place", "penalty", "cost", "node"], 3, true, [
   .expr (.call 24 [(.loc 0)] [] []),
   .expr (.call 15 [(.loc 1)] [] []),
   .expr (.call 15 [(.loc 2)] [] []),
   .assign false [.var 3] (.new 606 [] []),
   .assign true [.var 4, .var 5, .var 6] (.tup [(.len (.loc 0)), (.glob 0 (.int 1073741823)), (.lit (.int 0))]),
   .for_ false [7] 2 (.bin .Add (.len (.loc 0)) (.lit (.int 1))) [.assign false [.var 8] (.call 31 [(.loc 0), (.loc 7)] [] []), .ite (.bop true [(.cmp .IsNot (.loc 8) (.lit (.none))), (.cmp .Lt (.loc 8) (.glob 0 (.int 10000)))]) [.assign false [.var 9] (.call 32 [(.loc 3), (.loc 1), (.loc 8)] [] []), .ite (.cmp .LtE (.loc 9) (.loc 5)) [.assign true [.var 4, .var 5, .var 6] (.tup [(.loc 7), (.loc 9), (.bin .Add (.attr (.loc 3) 2) (.attr (.loc 3) 3))])] [], .ite (.bop false [(.cmp .Eq (.loc 9) (.glob 0 (.int 1073741823))), (.cmp .LtE (.loc 8) (.glob 0 (.int (-10000))))]) [.ret (.tup [(.loc 4), (.loc 5), (.loc 6)])] []] [], .assign false [.var 10] (.idx (.loc 0) (.loc 7)), .ite (.cmp .In (.attr (.loc 10) 0) (.glob 0 (.tup [.int 2, .int 3, .int 4, .int 14]))) [.expr (.meth (.loc 3) 24 [(.loc 10)])] [.ite (.bop false [(.cmp .Eq (.attr (.loc 10) 0) (.glob 0 (.int 6))), (.cmp .Eq (.attr (.loc 10) 0) (.glob 0 (.int 5)))]) [.expr (.meth (.loc 3) 21 [(.loc 10)])] []], .expr (.meth (.loc 3) 22 [(.loc 2)])],
   .ret (.tup [(.loc 4), (.loc 5), (.loc 6)])]⟩
noncomputable def f34 : MFn := -- vert_break
  ⟨["items", "height", "most_depth"], 3, false, [
   .ret (.cutTo (.call 33 [(.loc 0), (.loc 1), (.loc 2)] [] []) (.lit (.int 2)))]⟩
noncomputable def f35 : MFn := -- pruned
  ⟨["items", "top", "kept", "place", "node", "height", "room"], 2, true, [
   .assign false [.var 2] (.lst true []),
   .for_ false [3] 2 (.len (.loc 0)) [.assign false [.var 4] (.idx (.loc 0) (.loc 3)), .ite (.cmp .In (.attr (.loc 4) 0) (.glob 0 (.tup [.int 2, .int 3, .int 4, .int 14]))) [.assign false [.var 5] (.ite (.cmp .Is (.attr (.loc 4) 2) (.lit (.none))) (.lit (.int 0)) (.attr (.loc 4) 2)), .assign false [.var 6] (.new 238 [(.max2 (.lit (.int 0)) (.bin .Sub (.attr (.loc 1) 1) (.loc 5))), (.attr (.loc 1) 14), (.attr (.loc 1) 15), (.attr (.loc 1) 16), (.attr (.loc 1) 17)] []), .ret (.bin .Add (.bin .Add (.loc 2) (.lst false [(.new 406 [(.loc 6), (.bin .Add (.glob 0 (.int 100)) (.glob 0 (.int 8)))] [.none])])) (.cutFrom (.loc 0) (.loc 3)))] [], .ite (.bop false [(.cmp .Eq (.attr (.loc 4) 0) (.glob 0 (.int 9))), (.cmp .Eq (.attr (.loc 4) 0) (.glob 0 (.int 10))), (.cmp .Eq (.attr (.loc 4) 0) (.glob 0 (.int 13)))]) [.expr (.append (.loc 2) (.loc 4))] []],
   .ret (.loc 2)]⟩
noncomputable def f36 : MFn := -- edge_marks
  ⟨["items", "found"], 1, false, [
   .assign false [.var 1] (.comp [none] false [0] 0 (.loc 0) [(.cmp .Eq (.attr (.loc 0) 0) (.glob 0 (.int 9)))] (.attr (.loc 0) 13)),
   .ret (.ite (.cmp .NotEq (.loc 1) (.lst false [])) (.tup [(.idx (.loc 1) (.lit (.int 0))), (.idx (.loc 1) (.neg (.lit (.int 1))))]) (.tup [(.tup []), (.tup [])]))]⟩
noncomputable def f37 : MFn := -- vsplit
  ⟨["box", "height", "most_depth", "split_depth", "top", "place", "above", "below", "rest", "head", "report"], 5, false, [
   .ite (.cmp .Is (.loc 0) (.lit (.none))) [.ret (.tup [(.lit (.none)), (.lit (.none)), (.tup [(.tup []), (.tup [])]), (.tup [(.lit (.int 0)), (.lit (.int 0))])])] [],
   .ite (.cmp .NotEq (.attr (.loc 0) 0) (.glob 0 (.int 3))) [.fail] [],
   .assign false [.var 5] (.idx (.call 34 [(.attr (.loc 0) 4), (.loc 1), (.loc 3)] [] []) (.lit (.int 0))),
   .assign false [.var 6] (.cutTo (.attr (.loc 0) 4) (.loc 5)),
   .assign false [.var 7] (.call 35 [(.cutFrom (.attr (.loc 0) 4) (.loc 5)), (.loc 4)] [] []),
   .assign false [.var 8] (.ite (.cmp .NotEq (.loc 7) (.lst false [])) (.idx (.call 30 [(.loc 7)] [.int 1, .int 0] [(.loc 2)]) (.lit (.int 0))) (.lit (.none))),
   .assign true [.var 9, .var 10] (.call 30 [(.loc 6), (.glob 0 (.int 0)), (.loc 1), (.loc 3)] [] []),
   .ret (.tup [(.loc 9), (.loc 8), (.call 36 [(.loc 6)] [] []), (.loc 10)])]⟩
noncomputable def f38 : MFn := -- Glue.__init__
  ⟨["self", "width", "stretch", "stretch_order", "shrink", "shrink_order"], 6, false, [
   .ite (.bop false [(.not (.call 12 [(.loc 3), (.glob 0 (.int 0)), (.glob 0 (.int 3))] [] [])), (.not (.call 12 [(.loc 5), (.glob 0 (.int 0)), (.glob 0 (.int 3))] [] []))]) [.fail] [],
   .assign false [.attr (.loc 0) 1] (.call 15 [(.loc 1)] [] []),
   .assign false [.attr (.loc 0) 14] (.call 15 [(.loc 2)] [] []),
   .assign false [.attr (.loc 0) 15] (.ite (.cmp .NotEq (.loc 2) (.lit (.int 0))) (.loc 3) (.glob 0 (.int 0))),
   .assign false [.attr (.loc 0) 16] (.call 15 [(.loc 4)] [] []),
   .assign false [.attr (.loc 0) 17] (.ite (.cmp .NotEq (.loc 4) (.lit (.int 0))) (.loc 5) (.glob 0 (.int 0)))]⟩
noncomputable def f39 : MFn := -- Totals.__init__
  ⟨["self"], 1, false, [
   .assign false [.attr (.loc 0) 18] (.lit (.int 0)),
   .assign false [.attr (.loc 0) 14] (.lst true [(.lit (.int 0)), (.lit (.int 0)), (.lit (.int 0)), (.lit (.int 0))]),
   .assign false [.attr (.loc 0) 16] (.lst true [(.lit (.int 0)), (.lit (.int 0)), (.lit (.int 0)), (.lit (.int 0))])]⟩
noncomputable def f40 : MFn := -- Totals.add
  ⟨["self", "glue"], 2, false, [
   .aug (.attr (.loc 0) 18) .Add (.attr (.loc 1) 1),
   .aug (.idx (.attr (.loc 0) 14) (.attr (.loc 1) 15)) .Add (.attr (.loc 1) 14),
   .aug (.idx (.attr (.loc 0) 16) (.attr (.loc 1) 17)) .Add (.attr (.loc 1) 16)]⟩
noncomputable def f41 : MFn := -- Totals.widen
  ⟨["self", "width"], 2, false, [
   .aug (.attr (.loc 0) 18) .Add (.loc 1)]⟩
noncomputable def f42 : MFn := -- Totals.stretch_top
  ⟨["self"], 1, false, [
   .ret (.call 17 [(.attr (.loc 0) 14)] [] [])]⟩
noncomputable def f43 : MFn := -- Totals.shrink_top
  ⟨["self"], 1, false, [
   .ret (.call 17 [(.attr (.loc 0) 16)] [] [])]⟩
noncomputable def f44 : MFn := -- Box.__init__
  ⟨["self", "kind", "width", "height", "depth", "items"], 6, false, [
   .ite (.not (.call 12 [(.loc 1), (.glob 0 (.int 2)), (.glob 0 (.int 3))] [] [])) [.fail] [],
   .assign false [.attr (.loc 0) 0] (.loc 1),
   .assign false [.attr (.loc 0) 1] (.call 15 [(.loc 2)] [] []),
   .assign false [.attr (.loc 0) 2] (.call 15 [(.loc 3)] [] []),
   .assign false [.attr (.loc 0) 3] (.call 15 [(.loc 4)] [] []),
   .assign false [.attr (.loc 0) 4] (.loc 5),
   .assign false [.attr (.loc 0) 5] (.lit (.int 0)),
   .assign false [.attr (.loc 0) 6] (.glob 0 (.int 0)),
   .assign false [.attr (.loc 0) 7] (.lit (.int 0)),
   .assign false [.attr (.loc 0) 8] (.tup [(.lit (.int 0)), (.lit (.int 1))])]⟩
noncomputable def f45 : MFn := -- Rule.__init__
  ⟨["self", "width", "height", "depth", "size"], 4, false, [
   .for_ false [4] 0 (.tup [(.loc 1), (.loc 2), (.loc 3)]) [.ite (.cmp .IsNot (.loc 4) (.lit (.none))) [.expr (.call 15 [(.loc 4)] [] [])] []],
   .assign false [.attr (.loc 0) 1] (.loc 1),
   .assign false [.attr (.loc 0) 2] (.loc 2),
   .assign false [.attr (.loc 0) 3] (.loc 3)]⟩
noncomputable def f46 : MFn := -- Kern.__init__
  ⟨["self", "width", "sort"], 3, false, [
   .ite (.not (.call 12 [(.loc 2), (.glob 0 (.int 0)), (.glob 0 (.int 3))] [] [])) [.fail] [],
   .assign false [.attr (.loc 0) 1] (.call 15 [(.loc 1)] [] []),
   .assign false [.attr (.loc 0) 9] (.loc 2)]⟩
noncomputable def f47 : MFn := -- Skip.__init__
  ⟨["self", "glue", "sort", "leader"], 4, false, [
   .ite (.bop true [(.not (.call 12 [(.loc 2), (.glob 0 (.int 0)), (.glob 0 (.int 5))] [] [])), (.not (.call 12 [(.loc 2), (.glob 0 (.int 100)), (.bin .Add (.glob 0 (.int 100)) (.lit (.int 99)))] [] []))]) [.fail] [],
   .ite (.cmp .Eq (.cmp .Is (.loc 3) (.lit (.none))) (.chain .LtE .LtE (.glob 0 (.int 1)) (.loc 2) (.glob 0 (.int 3)))) [.fail] [],
   .ite (.bop true [(.cmp .IsNot (.loc 3) (.lit (.none))), (.not (.chain .LtE .LtE (.glob 0 (.int 2)) (.attr (.loc 3) 0) (.glob 0 (.int 4))))]) [.fail] [],
   .assign false [.attr (.loc 0) 10] (.loc 1),
   .assign false [.attr (.loc 0) 9] (.loc 2),
   .assign false [.attr (.loc 0) 11] (.loc 3)]⟩
noncomputable def f48 : MFn := -- Penalty.__init__
  ⟨["self", "value"], 2, false, [
   .assign false [.attr (.loc 0) 12] (.call 14 [(.loc 1)] [] [])]⟩
noncomputable def f49 : MFn := -- Mark.__init__
  ⟨["self", "tokens"], 2, false, [
   .assign false [.attr (.loc 0) 13] (.tuple (.loc 1))]⟩
noncomputable def f50 : MFn := -- Column.__init__
  ⟨["self"], 1, false, [
   .assign false [.attr (.loc 0) 2] (.lit (.int 0)),
   .assign false [.attr (.loc 0) 3] (.lit (.int 0)),
   .assign false [.attr (.loc 0) 14] (.lst true [(.lit (.int 0)), (.lit (.int 0)), (.lit (.int 0)), (.lit (.int 0))]),
   .assign false [.attr (.loc 0) 16] (.lit (.int 0))]⟩
noncomputable def f51 : MFn := -- Column.stand
  ⟨["self", "node"], 2, false, [
   .assign false [.attr (.loc 0) 2] (.bin .Add (.bin .Add (.attr (.loc 0) 2) (.attr (.loc 0) 3)) (.ite (.cmp .Is (.attr (.loc 1) 2) (.lit (.none))) (.lit (.int 0)) (.attr (.loc 1) 2))),
   .assign false [.attr (.loc 0) 3] (.ite (.cmp .Is (.attr (.loc 1) 3) (.lit (.none))) (.lit (.int 0)) (.attr (.loc 1) 3))]⟩
noncomputable def f52 : MFn := -- Column.keep
  ⟨["self", "most_depth"], 2, false, [
   .ite (.cmp .Gt (.attr (.loc 0) 3) (.loc 1)) [.assign false [.attr (.loc 0) 2] (.bin .Sub (.bin .Add (.attr (.loc 0) 2) (.attr (.loc 0) 3)) (.loc 1)), .assign false [.attr (.loc 0) 3] (.loc 1)] []]⟩
noncomputable def f53 : MFn := -- Column.flow
  ⟨["self", "node", "size"], 2, false, [
   .assign false [.var 2] (.ite (.cmp .Eq (.attr (.loc 1) 0) (.glob 0 (.int 5))) (.attr (.loc 1) 1) (.attr (.attr (.loc 1) 10) 1)),
   .ite (.cmp .Eq (.attr (.loc 1) 0) (.glob 0 (.int 6))) [.ite (.cmp .NotEq (.attr (.attr (.loc 1) 10) 17) (.glob 0 (.int 0))) [.fail] [], .aug (.idx (.attr (.loc 0) 14) (.attr (.attr (.loc 1) 10) 15)) .Add (.attr (.attr (.loc 1) 10) 14), .assign false [.attr (.loc 0) 16] (.bin .Add (.attr (.loc 0) 16) (.attr (.attr (.loc 1) 10) 16))] [],
   .assign false [.attr (.loc 0) 2] (.bin .Add (.bin .Add (.attr (.loc 0) 2) (.attr (.loc 0) 3)) (.loc 2)),
   .assign false [.attr (.loc 0) 3] (.lit (.int 0))]⟩
noncomputable def f54 : MFn := -- Column.cost
  ⟨["self", "goal"], 2, false, [
   .ite (.cmp .Lt (.attr (.loc 0) 2) (.loc 1)) [.ite (.bop false [(.cmp .NotEq (.idx (.attr (.loc 0) 14) (.lit (.int 1))) (.lit (.int 0))), (.cmp .NotEq (.idx (.attr (.loc 0) 14) (.lit (.int 2))) (.lit (.int 0))), (.cmp .NotEq (.idx (.attr (.loc 0) 14) (.lit (.int 3))) (.lit (.int 0)))]) [.ret (.lit (.int 0))] [], .ret (.call 16 [(.bin .Sub (.loc 1) (.attr (.loc 0) 2)), (.idx (.attr (.loc 0) 14) (.lit (.int 0)))] [] [])] [],
   .ite (.cmp .Gt (.bin .Sub (.attr (.loc 0) 2) (.loc 1)) (.attr (.loc 0) 16)) [.ret (.glob 0 (.int 1073741823))] [],
   .ret (.call 16 [(.bin .Sub (.attr (.loc 0) 2) (.loc 1)), (.attr (.loc 0) 16)] [] [])]⟩
noncomputable def allFns : List MFn := [f0, f1, f2, f3, f4, f5, f6, f7, f8, f9, f10, f11, f12, f13, f14, f15, f16, f17, f18, f19, f20, f21, f22, f23, f24, f25, f26, f27, f28, f29, f30, f31, f32, f33, f34, f35, f36, f37, f38, f39, f40, f41, f42, f43, f44, f45, f46, f47, f48, f49, f50, f51, f52, f53, f54]
noncomputable def allAddrs : List Addr := [729, 664, 671, 676, 683, 690, 697, 702, 709, 714, 719, 724, 93, 100, 107, 114, 156, 249, 457, 462, 467, 488, 495, 510, 517, 524, 531, 538, 545, 552, 560, 617, 624, 631, 638, 645, 650, 657, 185, 263, 270, 277, 284, 291, 339, 360, 381, 403, 424, 445, 575, 582, 589, 596, 603]
noncomputable def attrNames : List Str := [Str.ofString "kind", Str.ofString "width", Str.ofString "height", Str.ofString "depth", Str.ofString "items", Str.ofString "shift", Str.ofString "sign", Str.ofString "order", Str.ofString "ratio", Str.ofString "sort", Str.ofString "glue", Str.ofString "leader", Str.ofString "value", Str.ofString "tokens", Str.ofString "stretch", Str.ofString "stretch_order", Str.ofString "shrink", Str.ofString "shrink_order", Str.ofString "natural", Str.ofString "add", Str.ofString "cost", Str.ofString "flow", Str.ofString "keep", Str.ofString "shrink_top", Str.ofString "stand", Str.ofString "stretch_top", Str.ofString "widen"]
noncomputable def okPairs : List (Nat × Nat) := [(342, 0), (342, 1), (342, 2), (342, 3), (342, 4), (342, 5), (342, 6), (342, 7), (342, 8), (363, 1), (363, 2), (363, 3), (384, 1), (384, 9), (406, 10), (406, 9), (406, 11), (427, 12), (448, 13), (238, 1), (238, 14), (238, 15), (238, 16), (238, 17), (301, 18), (301, 14), (301, 16), (606, 2), (606, 3), (606, 14), (606, 16)]
noncomputable def classInts : List (Nat × Nat × Int) := [(363, 0, 4), (384, 0, 5), (406, 0, 6), (427, 0, 7), (448, 0, 9)]
noncomputable def methods : List (Nat × Nat × Nat) := [(301, 19, 40), (301, 26, 41), (301, 25, 42), (301, 23, 43), (606, 24, 51), (606, 22, 52), (606, 21, 53), (606, 20, 54)]
noncomputable def inits : List (Nat × Nat) := [(238, 38), (301, 39), (342, 44), (363, 45), (384, 46), (406, 47), (427, 48), (448, 49), (606, 50)]
noncomputable def frozens : List Nat := [238, 384, 406, 427, 448, 363]
noncomputable def allRefs : List (Str × Addr) := [(Str.ofString "law", 729), (Str.ofString "_law_jar", 664), (Str.ofString "_law_take", 671), (Str.ofString "_law_gap", 676), (Str.ofString "_law_column", 683), (Str.ofString "_law_node", 690), (Str.ofString "_law_told", 697), (Str.ofString "_law_due", 702), (Str.ofString "_law_high", 709), (Str.ofString "_law_ways", 714), (Str.ofString "_law_pieces", 719), (Str.ofString "_law_right", 724), (Str.ofString "is_whole", 93), (Str.ofString "check_whole", 100), (Str.ofString "check_number", 107), (Str.ofString "check_dimen", 114), (Str.ofString "badness", 156), (Str.ofString "top_order", 249), (Str.ofString "width_of", 457), (Str.ofString "height_of", 462), (Str.ofString "depth_of", 467), (Str.ofString "is_discardable", 488), (Str.ofString "is_breakable_ahead", 495), (Str.ofString "across", 510), (Str.ofString "check_column", 517), (Str.ofString "natural_column", 524), (Str.ofString "quotient", 531), (Str.ofString "set_glue", 538), (Str.ofString "goal_size", 545), (Str.ofString "set_box", 552), (Str.ofString "vpack", 560), (Str.ofString "break_penalty", 617), (Str.ofString "cost_here", 624), (Str.ofString "best_break", 631), (Str.ofString "vert_break", 638), (Str.ofString "pruned", 645), (Str.ofString "edge_marks", 650), (Str.ofString "vsplit", 657), (Str.ofString "Glue", 238), (Str.ofString "Totals", 301), (Str.ofString "Box", 342), (Str.ofString "Rule", 363), (Str.ofString "Kern", 384), (Str.ofString "Skip", 406), (Str.ofString "Penalty", 427), (Str.ofString "Mark", 448), (Str.ofString "Column", 606)]
noncomputable def allGlos : List (Str × D) := [(Str.ofString "HBOX", .int 2), (Str.ofString "VBOX", .int 3), (Str.ofString "GLUE", .int 6), (Str.ofString "KERN", .int 5), (Str.ofString "MARK", .int 9), (Str.ofString "PENALTY", .int 7), (Str.ofString "RULE", .int 4), (Str.ofString "MAX_NUMBER", .int 2147483647), (Str.ofString "MAX_DIMEN", .int 1073741823), (Str.ofString "INF_BAD", .int 10000), (Str.ofString "FILLL", .int 3), (Str.ofString "FILL", .int 2), (Str.ofString "FIL", .int 1), (Str.ofString "NORMAL", .int 0), (Str.ofString "CHAR", .int 0), (Str.ofString "LIGATURE", .int 1), (Str.ofString "MATH", .int 12), (Str.ofString "UNSET", .int 14), (Str.ofString "DISC", .int 8), (Str.ofString "NATURAL", .int 0), (Str.ofString "FINE", .int 0), (Str.ofString "LOOSE", .int 1), (Str.ofString "TIGHT", .int 2), (Str.ofString "OVERFULL", .int 3), (Str.ofString "SHRUNK", .int 2), (Str.ofString "STRETCHED", .int 1), (Str.ofString "EXACTLY", .int 0), (Str.ofString "SPREAD", .int 1), (Str.ofString "EJECT", .int (-10000)), (Str.ofString "AWFUL", .int 1073741823), (Str.ofString "DEPLORABLE", .int 100000), (Str.ofString "INF_PENALTY", .int 10000), (Str.ofString "STANDING", .tup [.int 2, .int 3, .int 4, .int 14]), (Str.ofString "NAMED", .int 100), (Str.ofString "SPLIT_TOP_SKIP", .int 8), (Str.ofString "INSERT", .int 10), (Str.ofString "SPECIAL", .int 13), (Str.ofString "FONT_KERN", .int 0), (Str.ofString "MU_KERN", .int 3), (Str.ofString "PLAIN", .int 0), (Str.ofString "NONSCRIPT", .int 5), (Str.ofString "ALEADERS", .int 1), (Str.ofString "XLEADERS", .int 3)]
noncomputable def allNones : List Str := [Str.ofString "len", Str.ofString "abs", Str.ofString "min", Str.ofString "max", Str.ofString "tuple", Str.ofString "isinstance", Str.ofString "int", Str.ofString "bool", Str.ofString "list", Str.ofString "range", Str.ofString "enumerate"]
noncomputable def allKept : List Addr := [238, 301, 342, 363, 384, 406, 427, 448, 606]
noncomputable def allPlains : List (Addr × Nat) := [(729, 1), (664, 1), (671, 2), (676, 2), (683, 4), (690, 1), (697, 1), (702, 2), (709, 4), (714, 3), (719, 5), (724, 4), (93, 3), (100, 1), (107, 1), (114, 1), (156, 2), (249, 1), (457, 1), (462, 1), (467, 1), (488, 1), (495, 1), (510, 1), (517, 1), (524, 1), (531, 2), (538, 2), (545, 3), (552, 3), (617, 2), (624, 3), (631, 3), (638, 3), (645, 2), (650, 1), (657, 5), (263, 1), (270, 2), (277, 2), (284, 1), (291, 1), (339, 6), (360, 4), (381, 3), (424, 2), (445, 2), (575, 1), (582, 2), (589, 2), (596, 2), (603, 2)]
noncomputable def fnPlaces : List (List Nat × Nat) := [([], 86), ([], 75), ([], 76), ([], 77), ([], 78), ([], 79), ([], 80), ([], 81), ([], 82), ([], 83), ([], 84), ([], 85), ([], 13), ([], 14), ([], 15), ([], 16), ([], 24), ([], 28), ([], 42), ([], 43), ([], 44), ([], 47), ([], 48), ([], 52), ([], 53), ([], 54), ([], 55), ([], 56), ([], 57), ([], 58), ([], 59), ([], 67), ([], 68), ([], 69), ([], 70), ([], 71), ([], 72), ([], 73), ([27], 0), ([29], 0), ([29], 1), ([29], 2), ([29], 3), ([29], 4), ([36], 0), ([37], 1), ([38], 1), ([39], 1), ([40], 1), ([41], 1), ([66], 0), ([66], 1), ([66], 2), ([66], 3), ([66], 4)]
noncomputable def theShapes : List (Addr × Nat × List D × List Str) := [(185, 2, [.int 0, .int 0, .int 0, .int 0], []), (185, 6, [], []), (403, 3, [.none], []), (560, 1, [.int 1, .int 0, .int 1073741823], []), (560, 1, [.int 1, .int 0], [Str.ofString "most_depth"]), (560, 4, [], [])]
noncomputable def cx0 : Cx := ⟨[], attrNames, allAddrs, theShapes, okPairs, classInts, methods, inits, frozens, allRefs, allGlos, allNones, allKept, allPlains⟩
noncomputable def LawPlain : Prop := ∀ ns : List Int, ns.length ≤ 63 → ∃ σ', cx0.fnAt allFns 12 0 [.d (.lst (ns.map .int))] [] = some (.d (.bool true), σ')
open PySem PySem.W PySem.Calls PyProof.Rows

noncomputable def topQ (p : Program) (w : World) (n₀ : Nat) (ann : Option Value) : Nat → SharedT → Thread → Option SharedT
  | 0, _, _ => none
  | n + 1, s, t => match through t with
    | true => some s
    | false => match Fast.tw6613529449190102663 n₀ ann t with
      | false => none
      | true => match Fast.tw10156331382660048174 (Fast.tw11892475500146522536 Fast.tw14364793385576792824) p w s t with
        | some r => topQ p w n₀ ann n r.1 r.2
        | none => none
theorem topQ_of {p : Program} {w : World} {n₀ : Nat} {ann : Option Value} : ∀ {n : Nat} {s s' : SharedT} {t : Thread}, topQ p w n₀ ann n s t = some s' → topRun treeTable p w n₀ ann n s.abs t = some s'.abs
  | 0, _, _, _, h => by cases h
  | n + 1, s, s', t, h => by
    unfold topQ at h
    rw [← Fast.te6613529449190102663, ← Fast.te10156331382660048174, ← Fast.te11892475500146522536, ← Fast.te14364793385576792824] at h
    unfold topRun
    cases ht : through t with
    | true => rw [ht] at h; cases h; rfl
    | false =>
      rw [ht] at h
      cases hk : stepOk n₀ ann t with
      | false => rw [hk] at h; cases h
      | true =>
        rw [hk] at h
        cases hs : stepT (denote treeTable) p w s t with
        | none => rw [hs] at h; cases h
        | some r => rw [hs] at h; obtain ⟨s2, t2⟩ := r; rw [stepT_spec hs]; exact topQ_of h

noncomputable def treeGo : Nat → List Obj → Nat → Nat → BT
  | 0, _, _, _ => .nil
  | k + 1, os, a, b => match os[b]? with
    | some o => .node o (treeGo k os (2 * a) (a + b)) (treeGo k os (2 * a) (2 * a + b))
    | none => .nil
noncomputable def boot0 (w : World) (os : OsState) : SharedT := ⟨treeGo 8 (boot_heap w.params).objs.toList 1 0, 11, {}, #[], boot_drawn, boot_toks, os⟩
theorem boot0_abs (w : World) (os : OsState) : (boot0 w os).abs = ⟨boot_heap w.params, #[], boot_drawn, boot_toks, os⟩ := by kernel_rfl
theorem size0 (w : World) : ((boot_heap w.params).isNs mainGlobals && (#[] : Array GenState).size == 0, (boot_heap w.params).objs.size, (boot_heap w.params).nsMap mainGlobals "__annotations__") = (true, 11, some (Value.ref 6)) := by kernel_rfl
noncomputable abbrev thePw : Program := Challenge.pw_xm0377_01
theorem plain0 : opening thePw = plainProg thePw.main.scope.names := by kernel_rfl
theorem fence0 (s : Shared) : fenceModules? thePw s = some s := by kernel_rfl
noncomputable def fragOf (as : List Addr) (h : Heap) : Frag := as.filterMap fun a => (h.get? a).map fun o => (a, o)
theorem look_mem {a : Addr} {o : Obj} : ∀ (l : Frag), l.lookup a = some o → (a, o) ∈ l
  | [], e => nomatch e
  | (b, x) :: r, e => by
    rw [List.lookup_cons] at e
    cases q : a == b with
    | true => rw [q] at e; cases e; rw [eq_of_beq q]; exact List.mem_cons_self
    | false => rw [q] at e; exact List.mem_cons_of_mem _ (look_mem r e)
theorem fragOf_in (as : List Addr) (h : Heap) : (fragOf as h).In h := fun a o e => (List.mem_filterMap.mp (look_mem _ e)).elim fun b q => (Option.map_eq_some_iff.mp q.2).elim fun x r => by
  cases r.2
  exact r.1
noncomputable def lawAs : List Addr := [2, 3] ++ allAddrs.flatMap (fun a => [a, a - 1]) ++ ([238, 301, 342, 363, 384, 406, 427, 448, 606].flatMap fun c => [c, c - 1]) ++ [561, 178, 396, 553]
noncomputable def cxK (K : Frag) : Cx := { cx0 with K := K }
noncomputable def chkA (K : Frag) : Bool := tabB (cxK K) && (factsB (cxK K) && (plainB K 729 1 && nsIn K mainGlobals (Str.ofString "law") == some (some (.ref 729))))

noncomputable def fdOf (c : Stmt) : List (Str × NameKind) × List Stmt := if h : c.ctorIdx = 0 then @PySem.Stmt.FunctionDef.elim (fun _ => List (Str × NameKind) × List Stmt) c h (fun _ _ b _ _ _ s _ _ _ => (s.names, b)) else ([], [])
noncomputable def cdOf (c : Stmt) : List Stmt := if h : c.ctorIdx = 2 then @PySem.Stmt.ClassDef.elim (fun _ => List Stmt) c h (fun _ _ _ b _ _ _ _ _ _ _ => b) else []
noncomputable def stmtAt (l : List Stmt) (i : Nat) : Stmt := l.getD i (.Pass default)
noncomputable def theDefs : List (List (Str × NameKind) × List Stmt) := fnPlaces.map fun p => fdOf (stmtAt (p.1.foldl (fun l i => cdOf (stmtAt l i)) thePw.main.body) p.2)
noncomputable def bodyOk (mf : MFn) (d : List (Str × NameKind) × List Stmt) : Bool := varsB (mf.vars.map Str.ofString) d.1 && okB cx0 mf.body d.1 (mf.vars.map Str.ofString) d.2
noncomputable def bodiesOk (lo n : Nat) : Bool := (((allFns.zip theDefs).drop lo).take n).all fun q => bodyOk q.1 q.2
theorem names_ok : namesB cx0 = true := by kernel_rfl
theorem bodies0 : bodiesOk 0 4 = true := by kernel_rfl
theorem bodies1 : bodiesOk 4 6 = true := by kernel_rfl
theorem bodies2 : bodiesOk 10 2 = true := by kernel_rfl
theorem bodies3 : bodiesOk 12 18 = true := by kernel_rfl
theorem bodies4 : bodiesOk 30 8 = true := by kernel_rfl
theorem bodies5 : bodiesOk 38 100 = true := by kernel_rfl

noncomputable def getObj (K : Frag) (a : Addr) : Obj := (K.lookup a).getD default
noncomputable def getFd (K : Frag) (a : Addr) : FuncData := match (getObj K a).data with | .func fd => fd | _ => default
noncomputable def fnB (K : Frag) (a : Addr) : Bool := keepIn K (.ref a) && optB (K.lookup a) fun o => dtfunc o.data fun _ => true
noncomputable def namesAt (K : Frag) (a : Addr) : List Str := (getFd K a).params.args.map (·.arg)
noncomputable def bindAt (K : Frag) (S : Setting) (a : Addr) (vs : List Value) (kw : List (Str × Value)) : Option (List (Str × Value)) := peek K S (bindArgs (getFd K a) ⟨vs, kw⟩)
noncomputable def n185 : List Str := ["self", "width", "stretch", "stretch_order", "shrink", "shrink_order"].map Str.ofString
noncomputable def n403 : List Str := ["self", "glue", "sort", "leader"].map Str.ofString
noncomputable def n560 : List Str := ["items", "mode", "amount", "most_depth"].map Str.ofString
noncomputable def d185 : List Value := [.int 0 428, .int 0 429, .int 0 430, .int 0 431]
noncomputable def d560 : List Value := [.int 1 903, .int 0 978]
noncomputable def d560' : List Value := [.int 1 903, .int 0 978, .int 1073741823 292]
noncomputable def obsA (K : Frag) := (chkA K && (fnB K 185 && (fnB K 403 && fnB K 560)), (namesAt K 185, namesAt K 403, namesAt K 560),
  (fun (a b : Value) (S : Setting) => bindAt K S 185 [a, b] []), (fun (a b c d e f : Value) (S : Setting) => bindAt K S 185 [a, b, c, d, e, f] []), (fun (a b c : Value) (S : Setting) => bindAt K S 403 [a, b, c] []),
  (fun (a : Value) (S : Setting) => bindAt K S 560 [a] []), (fun (a b : Value) (S : Setting) => bindAt K S 560 [a] [(Str.ofString "most_depth", b)]), (fun (a b c d : Value) (S : Setting) => bindAt K S 560 [a, b, c, d] []))
noncomputable def valA := (true, (n185, n403, n560),
  (fun (a b : Value) (S : Setting) => some (n185.zip ([a, b] ++ d185))), (fun (a b c d e f : Value) (S : Setting) => some (n185.zip [a, b, c, d, e, f])), (fun (a b c : Value) (S : Setting) => some (n403.zip ([a, b, c] ++ [.none]))),
  (fun (a : Value) (S : Setting) => some (n560.zip ([a] ++ d560'))), (fun (a b : Value) (S : Setting) => some (n560.zip ([a] ++ d560 ++ [b]))), (fun (a b c d : Value) (S : Setting) => some (n560.zip [a, b, c, d])))

noncomputable def theQ : Program := view thePw [86]
noncomputable def theLoose : List Str := thePw.boundNames.filter fun n => n != Str.ofString "law"
noncomputable def theXt (s : Shared) : Bool := xlAt theQ [] s && recOk [] s
noncomputable def topLook (w : World) (s : Shared) : Bool := staticsOk (importedModules thePw.main.body) (boot_heap w.params) s.heap && namesBound thePw s.heap && gensDone s && laidKept (boot_heap w.params) s.heap
noncomputable def theRun (w : World) (os : OsState) : Option SharedT := topQ thePw w 11 (some (Value.ref 6)) 7000 (boot0 w os) (topStub thePw)
noncomputable def frames (K : Frag) : Bool := allFns.zipIdx.all fun q => fnB K (cx0.addr q.2) && frameB (cxK K) q.1 (q.1.vars.map Str.ofString) (getFd K (cx0.addr q.2))
noncomputable def defAt (i : Nat) : List (Str × NameKind) × List Stmt := theDefs.getD i ([], [])
noncomputable def obsF (K : Frag) := (frames K, (allFns.zipIdx.map fun q => (getFd K (cx0.addr q.2)).scope.names), (allFns.zipIdx.map fun q => (getFd K (cx0.addr q.2)).body))
noncomputable def valF := (true, (allFns.zipIdx.map fun q => (defAt q.2).1), (allFns.zipIdx.map fun q => FuncBody.stmts (defAt q.2).2))
noncomputable def obsK (K : Frag) := (obsF K, obsA K)
noncomputable def valK := (valF, valA)
noncomputable def looksF (w : World) (s : Shared) := (topLook w s, Fast.tw4187177175401517315 theQ theLoose (importedModules thePw.main.body) theXt true s, obsF (fragOf lawAs s.heap))
noncomputable abbrev LookedF (w : World) : Prop := (fun os => (theRun w os).map fun s => looksF w s.abs) = fun _ => some (true, openGood theQ theLoose, valF)
noncomputable abbrev LookedA (w : World) : Prop := (fun os => (theRun w os).map fun s => obsA (fragOf lawAs s.abs.heap)) = fun _ => some valA
noncomputable def allLooks (w : World) (s : Shared) := (topLook w s, Fast.tw4187177175401517315 theQ theLoose (importedModules thePw.main.body) theXt true s, obsK (fragOf lawAs s.heap))
noncomputable abbrev Looked (w : World) : Prop := (fun os => (theRun w os).map fun s => allLooks w s.abs) = fun _ => some (true, openGood theQ theLoose, valK)
theorem two_looks {α β γ δ ε : Type} {x : Option α} {f : α → β} {g : α → γ} {h : α → δ} {k : α → ε} {b : β} {c : γ} {d : δ} {e : ε} (h1 : x.map (fun s => (f s, g s, h s)) = some (b, c, d)) (h2 : x.map k = some e) : x.map (fun s => (f s, g s, h s, k s)) = some (b, c, d, e) := by
  cases x with
  | none => cases h1
  | some s => cases h1; cases h2; rfl
theorem looked_of {w : World} (h1 : LookedF w) (h2 : LookedA w) : Looked w := funext fun os => two_looks (congrFun h1 os) (congrFun h2 os)
theorem looked_fF (w : World) : LookedF (w.withFollow "special-get-raises" false) := by kernel_rfl
theorem looked_fA (w : World) : LookedA (w.withFollow "special-get-raises" false) := by kernel_rfl
theorem looked_f (w : World) : Looked (w.withFollow "special-get-raises" false) := looked_of (looked_fF w) (looked_fA w)
theorem looked_tF (w : World) : LookedF (w.withFollow "special-get-raises" true) := by kernel_rfl
theorem looked_tA (w : World) : LookedA (w.withFollow "special-get-raises" true) := by kernel_rfl
theorem looked (w : World) : Looked w := byRow2 "special-get-raises" looked_f (fun w => looked_of (looked_tF w) (looked_tA w)) w
theorem said : OpenLaw.wellSaid Challenge.rw_xm0377_01 = true := by
  rw [Fast.te9446332074065402090]
  delta Fast.tw9446332074065402090
  repeat' (with_reducible refine look_both ?_ ?_)
  delta Fast.tw17960256430627541270
  repeat' (with_reducible refine look_both ?_ ?_)
  delta Fast.tw2436336058641802641
  repeat' (with_reducible refine look_both ?_ ?_)
  delta Fast.tw12908688711261696721
  repeat' (with_reducible refine look_both ?_ ?_)
  all_goals (as_aux_lemma => kernel_rfl)

theorem left_own : LeftO thePw theQ theLoose theXt (fun s => obsK (fragOf lawAs s.heap)) (fun _ => valK) 7000 true := fun w => by
  obtain ⟨⟨h, gs, d, k, os⟩, e, e'⟩ := Option.map_eq_some_iff.mp (boot_open plain0 (by decide) fence0 w : (fencedOpening treeTable thePw w 7000).map (fun s => (s.heap, s.gens, s.drawn, s.toks)) = some (boot_heap w.params, Array.mk [], boot_drawn, boot_toks))
  obtain ⟨rfl, rfl, rfl, rfl⟩ : h = boot_heap w.params ∧ gs = Array.mk [] ∧ d = boot_drawn ∧ k = boot_toks := by simpa using e'
  obtain ⟨s, hs, hv⟩ := Option.map_eq_some_iff.mp (congrFun (looked w) os)
  have r := topQ_of hs
  rw [boot0_abs] at r
  have v1 : topLook w s.abs = true := congrArg (·.1) hv
  have v2 : openSeen theQ theLoose (importedModules thePw.main.body) theXt true s.abs = openGood theQ theLoose := by rw [Fast.te4187177175401517315]; exact congrArg (·.2.1) hv
  have v3 : obsK (fragOf lawAs s.abs.heap) = valK := congrArg (·.2.2) hv
  have z := size0 w
  have z1 : ((boot_heap w.params).isNs mainGlobals && (#[] : Array GenState).size == 0) = true := congrArg (·.1) z
  have z2 : (boot_heap w.params).objs.size = 11 := congrArg (·.2.1) z
  have z3 : (boot_heap w.params).nsMap mainGlobals "__annotations__" = some (Value.ref 6) := congrArg (·.2.2) z
  have t : topFrom treeTable thePw w 7000 ⟨boot_heap w.params, Array.mk [], boot_drawn, boot_toks, os⟩ = some s.abs := by
    unfold topFrom
    dsimp only
    rw [show ((boot_heap w.params).isNs mainGlobals && (Array.mk [] : Array GenState).size == 0) = true from z1, z2, z3]
    show (topRun treeTable thePw w 11 (some (Value.ref 6)) 7000 ⟨boot_heap w.params, #[], boot_drawn, boot_toks, os⟩ (topStub thePw)).bind _ = _
    rw [r]
    show (match topLook w s.abs with | true => some s.abs | false => none) = _
    rw [v1]
  unfold openEnds
  rw [e]
  show (topFrom treeTable thePw w 7000 _).map _ = _
  rw [t]
  exact congrArg some (Prod.ext v2 v3)
noncomputable def ownHook : Hook where
  α := _
  obs := fun s => obsK (fragOf lawAs s.heap)
  val := fun _ => valK
  says := fun _ h => ∃ K : Frag, K.In h ∧ obsK K = valK
  of := fun _ s e => ⟨_, fragOf_in _ _, e⟩
  keeps := fun _ _ _ x k => let ⟨K, a, b⟩ := x; ⟨K, a.keeps k, b⟩
open PySem PySem.W

theorem bind_r {α β : Type} {x : Option α} {a : α} {f : α → Option β} {r : Option β} (h : x = some a) (h2 : f a = r) : x.bind f = r := (congrArg (Option.bind · f) h).trans h2
theorem map_r {α β : Type} {x : Option α} {a : α} {f : α → β} {b : β} (h : x = some a) (h2 : f a = b) : x.map f = some b := (congrArg (Option.map f) h).trans (congrArg some h2)
section
variable {α : Type} {f g : Sto → Option (V × Sto)} {σ σ1 σ2 : Sto} {v u : V} {r : Option α}
theorem den1_r {F : V → Sto → Option α} (h1 : f σ = some (v, σ1)) (h2 : F v σ1 = r) : den1 f F σ = r := bind_r h1 h2
theorem den2_r {F : V → V → Sto → Option α} (h1 : f σ = some (v, σ1)) (h2 : g σ1 = some (u, σ2)) (h3 : F v u σ2 = r) : den2 f g F σ = r := bind_r h1 (bind_r h2 h3)
theorem denS_r {f : Sto → Option (List V × Sto)} {vs : List V} {F : List V → Sto → Option α} (h1 : f σ = some (vs, σ1)) (h2 : F vs σ1 = r) : denS f F σ = r := bind_r h1 h2
end

theorem freeze_obj {n i c : Nat} {σ : Sto} {ks : List Nat} {vs : List V} {ds : List D} (h1 : n ≤ i) (h2 : σ[i]? = some (.obj c ks vs)) (h3 : allD vs = some ds) : freezeV n σ (.ref i) = some (.obj c ks ds) :=
  (if_pos h1).trans (by rw [h2]; exact map_r h3 rfl)
theorem freeze_lst {n i : Nat} {σ : Sto} {l : List D} (h1 : n ≤ i) (h2 : σ[i]? = some (.lst l)) : freezeV n σ (.ref i) = some (.lst l) := (if_pos h1).trans (by rw [h2])
theorem freeze_two {n : Nat} {σ : Sto} {u v : V} {d e : D} (h1 : freezeV n σ u = some d) (h2 : freezeV n σ v = some e) : freezeV n σ (.tup [u, v]) = some (.tup [d, e]) := map_r (bind_r h1 (map_r (bind_r h2 rfl) rfl)) rfl
section
variable {Φ : Tab} {m : Mem} {σ σ' σ1 σ2 : Sto}
theorem loc_d {i : Nat} {v : V} (h : m[i]? = some (some v)) : E.den Φ m (.loc i) σ = some (v, σ) := map_r (x := m.getD i none) (List.getD_eq_getElem?_getD.trans (congrArg (Option.getD · none) h)) rfl
theorem idx_v {a i : E} {va v : V} {j : Int} (h1 : E.den Φ m a σ = some (va, σ1)) (h2 : E.den Φ m i σ1 = some (.d (.int j), σ2)) (h3 : idxV σ2 va j = some v) : E.den Φ m (.idx a i) σ = some (v, σ2) := den2_r h1 h2 (congrArg (retV · σ2) h3)
theorem idx_d {a i : E} {va v : V} {j : Int} (h1 : E.den Φ m a σ = some (va, σ)) (h2 : E.den Φ m i σ = some (.d (.int j), σ)) (h3 : idxV σ va j = some v) : E.den Φ m (.idx a i) σ = some (v, σ) := idx_v h1 h2 h3
theorem idx_s {a i : E} {l : List D} {d : Int} {x : D} (h1 : E.den Φ m a σ = some (.d (.lst l), σ1)) (h2 : E.den Φ m i σ1 = some (.d (.int d), σ2)) (h3 : getIdx l d = some x) : E.den Φ m (.idx a i) σ = some (.d x, σ2) := idx_v h1 h2 (map_r h3 rfl)
theorem bin_s {op : Operator} {a b : E} {x y : V} {z : D} (h1 : E.den Φ m a σ = some (x, σ1)) (h2 : E.den Φ m b σ1 = some (y, σ2)) (h3 : binD op x y = some z) : E.den Φ m (.bin op a b) σ = some (.d z, σ2) := den2_r h1 h2 (congrArg (fun q => retD (orElse q (catD σ2 op x y)) σ2) h3)
theorem bin_d {op : Operator} {a b : E} {x y : V} {z : D} (h1 : E.den Φ m a σ = some (x, σ)) (h2 : E.den Φ m b σ = some (y, σ)) (h3 : binD op x y = some z) : E.den Φ m (.bin op a b) σ = some (.d z, σ) := bin_s h1 h2 h3
theorem cmp_d {op : CmpOp} {a b : E} {x y : V} {c : Bool} (h1 : E.den Φ m a σ = some (x, σ1)) (h2 : E.den Φ m b σ1 = some (y, σ2)) (h3 : cmpD op x y = some c) : E.den Φ m (.cmp op a b) σ = some (.d (.bool c), σ2) := den2_r h1 h2 (congrArg (fun q => retD (Option.map D.bool q) σ2) h3)
theorem ite_d {c a b : E} {t : Bool} {r : Option (V × Sto)} (h1 : E.den Φ m c σ = some (.d (.bool t), σ1)) (h2 : (if t then E.den Φ m a σ1 else E.den Φ m b σ1) = r) : E.den Φ m (.ite c a b) σ = r := den1_r h1 h2
theorem not_d {a : E} {b : Bool} (h : E.den Φ m a σ = some (.d (.bool b), σ1)) : E.den Φ m (.not a) σ = some (.d (.bool !b), σ1) := den1_r h rfl
theorem call_d {f : Nat} {es : List E} {dfl : List D} {vs : List V} {r : Option (V × Sto)} (h1 : E.dens Φ m es σ = some (vs, σ')) (h2 : Φ.fn f (vs ++ dfl.map .d) σ' = r) : E.den Φ m (.call f es dfl []) σ = r :=
  denS_r h1 ((congrArg (Φ.fn f · σ') (List.append_nil _)).trans h2)
theorem call_0 {f : Nat} {es : List E} {vs : List V} {r : Option (V × Sto)} (h1 : E.dens Φ m es σ = some (vs, σ')) (h2 : Φ.fn f vs σ' = r) : E.den Φ m (.call f es [] []) σ = r :=
  call_d h1 ((congrArg (Φ.fn f · σ') (List.append_nil _)).trans h2)
theorem dens_cons {e : E} {es : List E} {v : V} {vs : List V} {σ'' : Sto} (h1 : E.den Φ m e σ = some (v, σ')) (h2 : E.dens Φ m es σ' = some (vs, σ'')) : E.dens Φ m (e :: es) σ = some (v :: vs, σ'') := den1_r h1 (map_r h2 rfl)
theorem or_d {e : E} {es : List E} {b c : Bool} (h1 : E.den Φ m e σ = some (.d (.bool b), σ)) (h2 : E.dens? Φ m false es σ = some (c, σ)) : E.dens? Φ m false (e :: es) σ = some (b || c, σ) :=
  den1_r h1 (by cases b with | true => rfl | false => exact h2)
theorem and_d {e : E} {es : List E} {b c : Bool} (h1 : E.den Φ m e σ = some (.d (.bool b), σ)) (h2 : E.dens? Φ m true es σ = some (c, σ)) : E.dens? Φ m true (e :: es) σ = some (b && c, σ) :=
  den1_r h1 (by cases b with | true => exact h2 | false => rfl)
theorem bop_d {k : Bool} {es : List E} {c : Bool} (h : E.dens? Φ m k es σ = some (c, σ)) : E.den Φ m (.bop k es) σ = some (.d (.bool c), σ) := map_r h rfl
theorem cutF_d {a i : E} {va : V} {j : Int} {d : D} (h1 : E.den Φ m a σ = some (va, σ1)) (h2 : E.den Φ m i σ1 = some (.d (.int j), σ2)) (h3 : cutV σ2 va false j = some d) : E.den Φ m (.cutFrom a i) σ = some (.d d, σ2) := den2_r h1 h2 (congrArg (retD · σ2) h3)
theorem cutT_d {a i : E} {va : V} {j : Int} {d : D} (h1 : E.den Φ m a σ = some (va, σ1)) (h2 : E.den Φ m i σ1 = some (.d (.int j), σ2)) (h3 : cutV σ2 va true j = some d) : E.den Φ m (.cutTo a i) σ = some (.d d, σ2) := den2_r h1 h2 (congrArg (retD · σ2) h3)
theorem cat_d {a b : E} {x y : V} {l r : List D} (h1 : E.den Φ m a σ = some (x, σ1)) (h2 : E.den Φ m b σ1 = some (y, σ2)) (hb : binD .Add x y = none) (hl : listOf σ2 x = some l) (hr : listOf σ2 y = some r) (hz : l.length + r.length ≤ 2 ^ 24) : E.den Φ m (.bin .Add a b) σ = some (.d (.lst (l ++ r)), σ2) :=
  den2_r h1 h2 ((congrArg (fun q => retD (orElse q (catD σ2 .Add x y)) σ2) hb).trans (map_r (x := catD σ2 .Add x y) ((bind_r hl (bind_r hr (if_pos (decide_eq_true hz))) : ((listOf σ2 x).bind fun l => (listOf σ2 y).bind fun r => whenB (decide (l.length + r.length ≤ 2 ^ 24)) (D.lst (l ++ r))) = _)) rfl))
theorem lst0_d {es : List E} {vs : List V} {l : List D} (h : E.dens Φ m es σ = some (vs, σ1)) (hd : allD vs = some l) : E.den Φ m (.lst false es) σ = some (.d (.lst l), σ1) := denS_r h (map_r hd rfl)
theorem call_k {f : Nat} {es kw : List E} {dfl : List D} {vs ks : List V} {r : Option (V × Sto)} (h1 : E.dens Φ m es σ = some (vs, σ1)) (h2 : E.dens Φ m kw σ1 = some (ks, σ2)) (h3 : Φ.fn f (vs ++ dfl.map .d ++ ks) σ2 = r) : E.den Φ m (.call f es dfl kw) σ = r := denS_r h1 (denS_r h2 h3)
theorem tup_d {es : List E} {vs : List V} (h : E.dens Φ m es σ = some (vs, σ1)) : E.den Φ m (.tup es) σ = some (mkTup vs, σ1) := denS_r h rfl
theorem len_d {a : E} {v : V} {n : Nat} (h1 : E.den Φ m a σ = some (v, σ1)) (h2 : lenV σ1 v = some n) : E.den Φ m (.len a) σ = some (.d (.int (n : Int)), σ1) := den1_r h1 (congrArg (fun q => retD (Option.map (fun (n : Nat) => D.int (n : Int)) q) σ1) h2)
theorem attr_d {a : E} {v u : V} {k : Nat} (h1 : E.den Φ m a σ = some (v, σ1)) (h2 : attrV Φ σ1 v k = some u) : E.den Φ m (.attr a k) σ = some (u, σ1) := den1_r h1 (congrArg (retV · σ1) h2)
theorem max_d {a b : E} {i j : Int} (h1 : E.den Φ m a σ = some (.d (.int i), σ1)) (h2 : E.den Φ m b σ1 = some (.d (.int j), σ2)) : E.den Φ m (.max2 a b) σ = some (.d (.int (if i < j then j else i)), σ2) := den2_r h1 h2 rfl
theorem app_d {a b : E} {n : Nat} {l : List D} {x : D} (h1 : E.den Φ m a σ = some (.ref n, σ)) (h2 : σ[n]? = some (.lst l)) (h3 : E.den Φ m b σ = some (.d x, σ')) (h4 : σ'[n]? = some (.lst l)) (h5 : l.length < 2 ^ 24) : E.den Φ m (.append a b) σ = some (.d .none, σ'.set n (.lst (l ++ [x]))) :=
  den1_r h1 (bind_r (bind_r (a := MObj.lst l) h2 rfl) (den1_r h3 (bind_r h4 (if_pos (decide_eq_true h5)))))
theorem meth_den {e : E} {mi n c f : Nat} {args : List E} {τ τ' : Sto} {ks : List Nat} {fs vs : List V} {r : Option (V × Sto)} (h1 : E.den Φ m e τ = some (.ref n, τ)) (h2 : τ[n]? = some (.obj c ks fs)) (h3 : ks.contains mi = false) (h4 : Φ.meth c mi = some f)
    (h5 : E.dens Φ m args τ = some (vs, τ')) (h6 : Φ.fn f (.ref n :: vs) τ' = r) : E.den Φ m (.meth e mi args) τ = r :=
  den1_r h1 (bind_r (a := f) (bind_r (a := MObj.obj c ks fs) h2 (((congrArg (fun b => if b = true then none else Φ.meth c mi) h3).trans h4 : (if ks.contains mi = true then none else Φ.meth c mi) = some f))) (denS_r h5 h6))
theorem abs_d {a : E} {i : Int} (h : E.den Φ m a σ = some (.d (.int i), σ)) : ∃ v, E.den Φ m (.abs a) σ = some (.d (.int v), σ) := ⟨_, den1_r h rfl⟩
theorem lrange_d {a b : E} {i j : Int} {l : List D} (h1 : E.den Φ m a σ = some (.d (.int i), σ)) (h2 : E.den Φ m b σ = some (.d (.int j), σ)) (h3 : itemsOf σ 3 (.d (.tup [.int i, .int j])) = some l) : E.den Φ m (.lrange a b) σ = some (.d (.lst l), σ) :=
  den2_r h1 h2 (congrArg (fun q => retD (Option.map D.lst q) σ) h3)
theorem new_frz {c f : Nat} {es : List E} {dfl : List D} {τ τ' : Sto} {vs vs' : List V} {ks : List Nat} {ds : List D} (he : E.dens Φ m es τ = some (vs, τ')) (hi : Φ.init c = some f) (hf : Φ.fn f (.ref τ'.length :: (vs ++ dfl.map .d)) (τ' ++ [.obj c [] []]) = some (.d .none, τ' ++ [.obj c ks vs']))
    (hz : Φ.frz c = true) (hl : lists τ' = true) (hd : allD vs' = some ds) : E.den Φ m (.new c es dfl) τ = some (.d (.obj c ks ds), τ') := by
  refine denS_r he (bind_r hi (den1_r hf ?_))
  show newRes Φ c τ'.length (τ' ++ [.obj c ks vs']) = _
  unfold newRes
  rw [if_pos hz, List.take_left]
  exact (if_pos hl).trans (map_r (freeze_obj (Nat.le_refl _) (by rw [List.getElem?_append_right (Nat.le_refl _), Nat.sub_self]; rfl) hd) rfl)
theorem new_ref {c f : Nat} {es : List E} {dfl : List D} {τ τ' τ'' : Sto} {vs : List V} (he : E.dens Φ m es τ = some (vs, τ')) (hi : Φ.init c = some f) (hf : Φ.fn f (.ref τ'.length :: (vs ++ dfl.map .d)) (τ' ++ [.obj c [] []]) = some (.d .none, τ''))
    (hz : Φ.frz c = false) : E.den Φ m (.new c es dfl) τ = some (.ref τ'.length, τ'') :=
  denS_r he (bind_r hi (den1_r hf (if_neg (by rw [hz]; decide))))
end

section
variable {Φ : Tab}
theorem dens_nil {s : Mem × Sto} : S.dens Φ [] s = some (.next, s) := rfl
theorem dens_next {c : S} {r : List S} {s s1 : Mem × Sto} {p : Option (Flw × Mem × Sto)} (h1 : S.den Φ c s = some (.next, s1)) (h2 : S.dens Φ r s1 = p) : S.dens Φ (c :: r) s = p := bind_r h1 h2
theorem dens_ret {c : S} {r : List S} {s s1 : Mem × Sto} {v : V} (h1 : S.den Φ c s = some (.ret v, s1)) : S.dens Φ (c :: r) s = some (.ret v, s1) := bind_r h1 rfl
noncomputable def stepOf (Φ : Tab) (many : Bool) (ts : List Nat) (kind : Nat) (body : List S) : Nat → D → Mem × Sto → Option (Flw × Mem × Sto) :=
  fun k x s => (bindItem many ts kind k x s.1).bind fun m => S.dens Φ body (m, s.2)
theorem den_for {many : Bool} {ts : List Nat} {kind : Nat} {src : E} {body : List S} {s : Mem × Sto} {v : V} {σ1 : Sto} {items : List D} {p : Option (Flw × Mem × Sto)} (h1 : E.den Φ s.1 src s.2 = some (v, σ1)) (h2 : itemsOf σ1 kind v = some items)
    (h3 : forGo (stepOf Φ many ts kind body) 0 items (s.1, σ1) = p) : S.den Φ (.for_ many ts kind src body) s = p :=
  (den1_r h1 (bind_r h2 h3) : den1 (E.den Φ s.1 src) (fun v σ => (itemsOf σ kind v).bind fun items => forGo (stepOf Φ many ts kind body) 0 items (s.1, σ)) s.2 = p)
theorem run_is {f : MFn} {args : List V} {σ : Sto} {m' : Mem} {σ' : Sto} {w : Flw} {r : Option (V × Sto)} (hl : args.length = f.nargs) (h : S.dens Φ f.body (args.map some ++ List.replicate (f.vars.length - f.nargs) none, σ) = some (w, m', σ')) (h2 : ending f.frz σ.length w.val σ' = r) : f.run Φ args σ = r :=
  (if_pos (decide_eq_true hl)).trans (bind_r h h2)
theorem run_next {f : MFn} {args : List V} {σ : Sto} {m' : Mem} {σ' : Sto} (hl : args.length = f.nargs) (hf : f.frz = false) (h : S.dens Φ f.body (args.map some ++ List.replicate (f.vars.length - f.nargs) none, σ) = some (.next, m', σ')) : f.run Φ args σ = some (.d .none, σ') :=
  run_is hl h (if_neg (by rw [hf]; decide))
theorem run_ret {f : MFn} {args : List V} {σ : Sto} {m' : Mem} {σ' : Sto} {v : V} (hl : args.length = f.nargs) (hf : f.frz = false) (h : S.dens Φ f.body (args.map some ++ List.replicate (f.vars.length - f.nargs) none, σ) = some (.ret v, m', σ')) : f.run Φ args σ = some (v, σ') :=
  run_is hl h (if_neg (by rw [hf]; decide))
theorem run_frz {f : MFn} {args : List V} {σ : Sto} {m' : Mem} {σ' : Sto} {v : V} {d : D} (hl : args.length = f.nargs) (hf : f.frz = true) (h : S.dens Φ f.body (args.map some ++ List.replicate (f.vars.length - f.nargs) none, σ) = some (.ret v, m', σ'))
    (hli : lists (σ'.take σ.length) = true) (hz : freezeV σ.length σ' v = some d) : f.run Φ args σ = some (.d d, σ'.take σ.length) :=
  run_is hl h ((if_pos hf).trans ((if_pos hli).trans (map_r hz rfl)))
variable {m : Mem} {τ τ' : Sto}
theorem expr_den {e : E} {v : V} (h : E.den Φ m e τ = some (v, τ')) : S.den Φ (.expr e) (m, τ) = some (.next, m, τ') := (den1_r h rfl : den1 (E.den Φ m e) (fun _ σ => some (Flw.next, m, σ)) τ = _)
theorem if_den {c : E} {a b : List S} {t : Bool} {r : Option (Flw × Mem × Sto)} (h1 : E.den Φ m c τ = some (.d (.bool t), τ')) (h2 : (if t then S.dens Φ a (m, τ') else S.dens Φ b (m, τ')) = r) : S.den Φ (.ite c a b) (m, τ) = r := (den1_r h1 h2 : den1 (E.den Φ m c) (fun v σ => v.onB fun t => if t then S.dens Φ a (m, σ) else S.dens Φ b (m, σ)) τ = r)
theorem ite_true {c : E} {a b : List S} {r : Option (Flw × Mem × Sto)} (h : E.den Φ m c τ = some (.d (.bool true), τ')) (h2 : S.dens Φ a (m, τ') = r) : S.den Φ (.ite c a b) (m, τ) = r := (den1_r h h2 : den1 (E.den Φ m c) (fun v σ => v.onB fun t => if t then S.dens Φ a (m, σ) else S.dens Φ b (m, σ)) τ = r)
theorem ite_false {c : E} {a b : List S} {r : Option (Flw × Mem × Sto)} (h : E.den Φ m c τ = some (.d (.bool false), τ')) (h2 : S.dens Φ b (m, τ') = r) : S.den Φ (.ite c a b) (m, τ) = r := (den1_r h h2 : den1 (E.den Φ m c) (fun v σ => v.onB fun t => if t then S.dens Φ a (m, σ) else S.dens Φ b (m, σ)) τ = r)
theorem ite_tt {c : E} {a b : List S} {r : Option (Flw × Mem × Sto)} (h : E.den Φ m c τ = some (.d (.bool true), τ)) (h2 : S.dens Φ a (m, τ) = r) : S.den Φ (.ite c a b) (m, τ) = r := (den1_r h h2 : den1 (E.den Φ m c) (fun v σ => v.onB fun t => if t then S.dens Φ a (m, σ) else S.dens Φ b (m, σ)) τ = r)
theorem ite_ff {c : E} {a b : List S} {r : Option (Flw × Mem × Sto)} (h : E.den Φ m c τ = some (.d (.bool false), τ)) (h2 : S.dens Φ b (m, τ) = r) : S.den Φ (.ite c a b) (m, τ) = r := (den1_r h h2 : den1 (E.den Φ m c) (fun v σ => v.onB fun t => if t then S.dens Φ a (m, σ) else S.dens Φ b (m, σ)) τ = r)
theorem set_den {isT : Bool} {ts : List Tgt} {e : E} {v : V} {r : Option (Flw × Mem × Sto)} (h1 : E.den Φ m e τ = some (v, τ')) (h2 : ((if isT then tupOf v else some [v]).bind fun vs => (putAll Φ ts vs (m, τ')).map fun r => (Flw.next, r)) = r) : S.den Φ (.assign isT ts e) (m, τ) = r :=
  (den1_r h1 h2 : den1 (E.den Φ m e) (fun v σ => (if isT then tupOf v else some [v]).bind fun vs => nexts (putAll Φ ts vs (m, σ))) τ = r)
theorem asg_den {i : Nat} {e : E} {v : V} (h : E.den Φ m e τ = some (v, τ')) : S.den Φ (.assign false [.var i] e) (m, τ) = some (.next, m.set i (some v), τ') := set_den h rfl
theorem ret_den {e : E} {v : V} (h : E.den Φ m e τ = some (v, τ')) : S.den Φ (.ret e) (m, τ) = some (.ret v, m, τ') := (den1_r h rfl : den1 (E.den Φ m e) (fun v σ => some (Flw.ret v, m, σ)) τ = _)
theorem attr_asg {e : E} {k c : Nat} {T : Sto} {v : V} {ks : List Nat} {vs : List V} (hm : m[0]? = some (some (.ref T.length))) (h : E.den Φ m e (T ++ [.obj c ks vs]) = some (v, T ++ [.obj c ks vs])) (hok : Φ.ok c k = true) (hz : ks.length ≤ 100) :
    S.den Φ (.assign false [.attr (.loc 0) k] e) (m, T ++ [.obj c ks vs]) = some (.next, m, T ++ [.obj c (putK ks vs k v).1 (putK ks vs k v).2]) := by
  refine set_den h ?_
  refine map_r (a := (m, T ++ [.obj c (putK ks vs k v).1 (putK ks vs k v).2])) (bind_r (den1_r (loc_d hm) (bind_r (a := MObj.obj c ks vs) ?_ ?_)) rfl) rfl
  · rw [List.getElem?_append_right (Nat.le_refl _), Nat.sub_self]; rfl
  · refine (if_pos (by rw [hok, decide_eq_true hz]; rfl)).trans ?_
    rw [List.set_append_right _ _ (Nat.le_refl _), Nat.sub_self]; rfl
end
theorem cut_from {α : Type} {σ : Sto} (l : List α) (f : α → D) (p : Nat) : cutV σ (.d (.lst (l.map f))) false (p : Int) = some (.lst ((l.drop p).map f)) := (if_pos (e := none) (decide_eq_true (Int.natCast_nonneg p))).trans (congrArg (fun q => some (D.lst q)) List.map_drop.symm)
theorem cut_to {α : Type} {σ : Sto} (l : List α) (f : α → D) (p : Nat) : cutV σ (.d (.lst (l.map f))) true (p : Int) = some (.lst ((l.take p).map f)) := (if_pos (e := none) (decide_eq_true (Int.natCast_nonneg p))).trans (congrArg (fun q => some (D.lst q)) List.map_take.symm)
theorem el_if {Φ : Tab} {m' : Mem} {σ : Sto} {ifs : List E} {elt : E} {c : Bool} {x : D} (h1 : E.dens? Φ m' true ifs σ = some (c, σ)) (h2 : E.den Φ m' elt σ = some (.d x, σ)) : compEl (fun m σ => E.dens? Φ m true ifs σ) (fun m σ => E.den Φ m elt σ) m' σ = some (if c then some x else none, σ) :=
  bind_r h1 (by cases c with | true => exact (den1_r h2 rfl : den1 (E.den Φ m' elt) (fun v σ => v.onD fun x => some (some x, σ)) σ = _) | false => rfl)
theorem while_t {test : Mem × Sto → Option (Bool × Mem × Sto)} {body : Mem × Sto → Option (Flw × Mem × Sto)} {n : Nat} {s s1 s2 : Mem × Sto} {r : Option (Flw × Mem × Sto)} (h1 : test s = some (true, s1)) (h2 : body s1 = some (.next, s2)) (h3 : whileGo test body n s2 = r) : whileGo test body (n + 1) s = r := by
  rw [whileGo, h1]
  show (body s1).bind _ = r
  rw [h2]
  exact h3
theorem while_f {test : Mem × Sto → Option (Bool × Mem × Sto)} {body : Mem × Sto → Option (Flw × Mem × Sto)} {n : Nat} {s s1 : Mem × Sto} (h1 : test s = some (false, s1)) : whileGo test body (n + 1) s = some (.next, s1) := by
  rw [whileGo, h1]
  rfl
theorem el_t {Φ : Tab} {m' : Mem} {σ σ1 σ2 : Sto} {ifs : List E} {elt : E} {x : D} (h1 : E.dens? Φ m' true ifs σ = some (true, σ1)) (h2 : E.den Φ m' elt σ1 = some (.d x, σ2)) : compEl (fun m σ => E.dens? Φ m true ifs σ) (fun m σ => E.den Φ m elt σ) m' σ = some (some x, σ2) :=
  bind_r h1 (den1_r h2 rfl : den1 (E.den Φ m' elt) (fun v σ => v.onD fun x => some (some x, σ)) σ1 = _)
theorem go_r {el : Mem → Sto → Option (Option D × Sto)} {bi : Nat → D → Mem → Option Mem} {m m' : Mem} {k : Nat} {x : D} {o : Option D} {r acc : List D} {σ σ1 : Sto} {q : Option (List D × Sto)} (h1 : bi k x m = some m') (h2 : el m' σ = some (o, σ1)) (h3 : compGo el bi m (k + 1) r (accD acc o) σ1 = q) : compGo el bi m k (x :: r) acc σ = q :=
  bind_r h1 (bind_r h2 h3)
theorem comp_r {Φ : Tab} {m : Mem} {caps : List (Option Nat)} {many : Bool} {ts : List Nat} {kind : Nat} {src elt : E} {ifs : List E} {τ τ' τ'' : Sto} {v : V} {items l : List D} (h1 : E.den Φ m src τ = some (v, τ')) (h2 : itemsOf τ' kind v = some items)
    (h3 : compGo (compEl (fun m' => E.dens? Φ m' true ifs) (fun m' => E.den Φ m' elt)) (bindItem many ts kind) (caps.map fun c => c.bind fun i => m.getD i none) 0 items [] τ' = some (l, τ'')) : E.den Φ m (.comp caps many ts kind src ifs elt) τ = some (.d (.lst l), τ'') :=
  den1_r h1 (bind_r h2 (map_r h3 rfl))

noncomputable def F (k : Nat) : Nat → List V → Sto → Option (V × Sto) := cx0.fnAt allFns k
noncomputable def Ph (k : Nat) : Tab := cx0.tab (F k)
@[simp] theorem Ph_fn (k : Nat) : (Ph k).fn = F k := rfl
-- printed by wip/tabs.py: what the tables say
@[simp] theorem ok_342_0 (k : Nat) : (Ph k).ok 342 0 = true := rfl
@[simp] theorem ok_342_1 (k : Nat) : (Ph k).ok 342 1 = true := rfl
@[simp] theorem ok_342_2 (k : Nat) : (Ph k).ok 342 2 = true := rfl
@[simp] theorem ok_342_3 (k : Nat) : (Ph k).ok 342 3 = true := rfl
@[simp] theorem ok_342_4 (k : Nat) : (Ph k).ok 342 4 = true := rfl
@[simp] theorem ok_342_5 (k : Nat) : (Ph k).ok 342 5 = true := rfl
@[simp] theorem ok_342_6 (k : Nat) : (Ph k).ok 342 6 = true := rfl
@[simp] theorem ok_342_7 (k : Nat) : (Ph k).ok 342 7 = true := rfl
@[simp] theorem ok_342_8 (k : Nat) : (Ph k).ok 342 8 = true := rfl
@[simp] theorem ok_363_1 (k : Nat) : (Ph k).ok 363 1 = true := rfl
@[simp] theorem ok_363_2 (k : Nat) : (Ph k).ok 363 2 = true := rfl
@[simp] theorem ok_363_3 (k : Nat) : (Ph k).ok 363 3 = true := rfl
@[simp] theorem ok_384_1 (k : Nat) : (Ph k).ok 384 1 = true := rfl
@[simp] theorem ok_384_9 (k : Nat) : (Ph k).ok 384 9 = true := rfl
@[simp] theorem ok_406_10 (k : Nat) : (Ph k).ok 406 10 = true := rfl
@[simp] theorem ok_406_9 (k : Nat) : (Ph k).ok 406 9 = true := rfl
@[simp] theorem ok_406_11 (k : Nat) : (Ph k).ok 406 11 = true := rfl
@[simp] theorem ok_427_12 (k : Nat) : (Ph k).ok 427 12 = true := rfl
@[simp] theorem ok_448_13 (k : Nat) : (Ph k).ok 448 13 = true := rfl
@[simp] theorem ok_238_1 (k : Nat) : (Ph k).ok 238 1 = true := rfl
@[simp] theorem ok_238_14 (k : Nat) : (Ph k).ok 238 14 = true := rfl
@[simp] theorem ok_238_15 (k : Nat) : (Ph k).ok 238 15 = true := rfl
@[simp] theorem ok_238_16 (k : Nat) : (Ph k).ok 238 16 = true := rfl
@[simp] theorem ok_238_17 (k : Nat) : (Ph k).ok 238 17 = true := rfl
@[simp] theorem ok_301_18 (k : Nat) : (Ph k).ok 301 18 = true := rfl
@[simp] theorem ok_301_14 (k : Nat) : (Ph k).ok 301 14 = true := rfl
@[simp] theorem ok_301_16 (k : Nat) : (Ph k).ok 301 16 = true := rfl
@[simp] theorem ok_606_2 (k : Nat) : (Ph k).ok 606 2 = true := rfl
@[simp] theorem ok_606_3 (k : Nat) : (Ph k).ok 606 3 = true := rfl
@[simp] theorem ok_606_14 (k : Nat) : (Ph k).ok 606 14 = true := rfl
@[simp] theorem ok_606_16 (k : Nat) : (Ph k).ok 606 16 = true := rfl
@[simp] theorem ca_363_0 (k : Nat) : (Ph k).cattr 363 0 = some (.int 4) := rfl
@[simp] theorem ca_384_0 (k : Nat) : (Ph k).cattr 384 0 = some (.int 5) := rfl
@[simp] theorem ca_406_0 (k : Nat) : (Ph k).cattr 406 0 = some (.int 6) := rfl
@[simp] theorem ca_427_0 (k : Nat) : (Ph k).cattr 427 0 = some (.int 7) := rfl
@[simp] theorem ca_448_0 (k : Nat) : (Ph k).cattr 448 0 = some (.int 9) := rfl
@[simp] theorem me_301_19 (k : Nat) : (Ph k).meth 301 19 = some 40 := rfl
@[simp] theorem me_301_26 (k : Nat) : (Ph k).meth 301 26 = some 41 := rfl
@[simp] theorem me_301_25 (k : Nat) : (Ph k).meth 301 25 = some 42 := rfl
@[simp] theorem me_301_23 (k : Nat) : (Ph k).meth 301 23 = some 43 := rfl
@[simp] theorem me_606_24 (k : Nat) : (Ph k).meth 606 24 = some 51 := rfl
@[simp] theorem me_606_22 (k : Nat) : (Ph k).meth 606 22 = some 52 := rfl
@[simp] theorem me_606_21 (k : Nat) : (Ph k).meth 606 21 = some 53 := rfl
@[simp] theorem me_606_20 (k : Nat) : (Ph k).meth 606 20 = some 54 := rfl
@[simp] theorem in_238 (k : Nat) : (Ph k).init 238 = some 38 := rfl
@[simp] theorem in_301 (k : Nat) : (Ph k).init 301 = some 39 := rfl
@[simp] theorem in_342 (k : Nat) : (Ph k).init 342 = some 44 := rfl
@[simp] theorem in_363 (k : Nat) : (Ph k).init 363 = some 45 := rfl
@[simp] theorem in_384 (k : Nat) : (Ph k).init 384 = some 46 := rfl
@[simp] theorem in_406 (k : Nat) : (Ph k).init 406 = some 47 := rfl
@[simp] theorem in_427 (k : Nat) : (Ph k).init 427 = some 48 := rfl
@[simp] theorem in_448 (k : Nat) : (Ph k).init 448 = some 49 := rfl
@[simp] theorem in_606 (k : Nat) : (Ph k).init 606 = some 50 := rfl
@[simp] theorem fz_238 (k : Nat) : (Ph k).frz 238 = true := rfl
@[simp] theorem fz_301 (k : Nat) : (Ph k).frz 301 = false := rfl
@[simp] theorem fz_342 (k : Nat) : (Ph k).frz 342 = false := rfl
@[simp] theorem fz_363 (k : Nat) : (Ph k).frz 363 = true := rfl
@[simp] theorem fz_384 (k : Nat) : (Ph k).frz 384 = true := rfl
@[simp] theorem fz_406 (k : Nat) : (Ph k).frz 406 = true := rfl
@[simp] theorem fz_427 (k : Nat) : (Ph k).frz 427 = true := rfl
@[simp] theorem fz_448 (k : Nat) : (Ph k).frz 448 = true := rfl
@[simp] theorem fz_606 (k : Nat) : (Ph k).frz 606 = false := rfl
theorem F0 (k : Nat) (args : List V) (σ : Sto) : F (k + 1) 0 args σ = f0.run (Ph k) args σ := rfl
theorem F1 (k : Nat) (args : List V) (σ : Sto) : F (k + 1) 1 args σ = f1.run (Ph k) args σ := rfl
theorem F2 (k : Nat) (args : List V) (σ : Sto) : F (k + 1) 2 args σ = f2.run (Ph k) args σ := rfl
theorem F3 (k : Nat) (args : List V) (σ : Sto) : F (k + 1) 3 args σ = f3.run (Ph k) args σ := rfl
theorem F4 (k : Nat) (args : List V) (σ : Sto) : F (k + 1) 4 args σ = f4.run (Ph k) args σ := rfl
theorem F5 (k : Nat) (args : List V) (σ : Sto) : F (k + 1) 5 args σ = f5.run (Ph k) args σ := rfl
theorem F6 (k : Nat) (args : List V) (σ : Sto) : F (k + 1) 6 args σ = f6.run (Ph k) args σ := rfl
theorem F7 (k : Nat) (args : List V) (σ : Sto) : F (k + 1) 7 args σ = f7.run (Ph k) args σ := rfl
theorem F8 (k : Nat) (args : List V) (σ : Sto) : F (k + 1) 8 args σ = f8.run (Ph k) args σ := rfl
theorem F9 (k : Nat) (args : List V) (σ : Sto) : F (k + 1) 9 args σ = f9.run (Ph k) args σ := rfl
theorem F10 (k : Nat) (args : List V) (σ : Sto) : F (k + 1) 10 args σ = f10.run (Ph k) args σ := rfl
theorem F11 (k : Nat) (args : List V) (σ : Sto) : F (k + 1) 11 args σ = f11.run (Ph k) args σ := rfl
theorem F12 (k : Nat) (args : List V) (σ : Sto) : F (k + 1) 12 args σ = f12.run (Ph k) args σ := rfl
theorem F13 (k : Nat) (args : List V) (σ : Sto) : F (k + 1) 13 args σ = f13.run (Ph k) args σ := rfl
theorem F14 (k : Nat) (args : List V) (σ : Sto) : F (k + 1) 14 args σ = f14.run (Ph k) args σ := rfl
theorem F15 (k : Nat) (args : List V) (σ : Sto) : F (k + 1) 15 args σ = f15.run (Ph k) args σ := rfl
theorem F16 (k : Nat) (args : List V) (σ : Sto) : F (k + 1) 16 args σ = f16.run (Ph k) args σ := rfl
theorem F17 (k : Nat) (args : List V) (σ : Sto) : F (k + 1) 17 args σ = f17.run (Ph k) args σ := rfl
theorem F18 (k : Nat) (args : List V) (σ : Sto) : F (k + 1) 18 args σ = f18.run (Ph k) args σ := rfl
theorem F19 (k : Nat) (args : List V) (σ : Sto) : F (k + 1) 19 args σ = f19.run (Ph k) args σ := rfl
theorem F20 (k : Nat) (args : List V) (σ : Sto) : F (k + 1) 20 args σ = f20.run (Ph k) args σ := rfl
theorem F21 (k : Nat) (args : List V) (σ : Sto) : F (k + 1) 21 args σ = f21.run (Ph k) args σ := rfl
theorem F22 (k : Nat) (args : List V) (σ : Sto) : F (k + 1) 22 args σ = f22.run (Ph k) args σ := rfl
theorem F23 (k : Nat) (args : List V) (σ : Sto) : F (k + 1) 23 args σ = f23.run (Ph k) args σ := rfl
theorem F24 (k : Nat) (args : List V) (σ : Sto) : F (k + 1) 24 args σ = f24.run (Ph k) args σ := rfl
theorem F25 (k : Nat) (args : List V) (σ : Sto) : F (k + 1) 25 args σ = f25.run (Ph k) args σ := rfl
theorem F26 (k : Nat) (args : List V) (σ : Sto) : F (k + 1) 26 args σ = f26.run (Ph k) args σ := rfl
theorem F27 (k : Nat) (args : List V) (σ : Sto) : F (k + 1) 27 args σ = f27.run (Ph k) args σ := rfl
theorem F28 (k : Nat) (args : List V) (σ : Sto) : F (k + 1) 28 args σ = f28.run (Ph k) args σ := rfl
theorem F29 (k : Nat) (args : List V) (σ : Sto) : F (k + 1) 29 args σ = f29.run (Ph k) args σ := rfl
theorem F30 (k : Nat) (args : List V) (σ : Sto) : F (k + 1) 30 args σ = f30.run (Ph k) args σ := rfl
theorem F31 (k : Nat) (args : List V) (σ : Sto) : F (k + 1) 31 args σ = f31.run (Ph k) args σ := rfl
theorem F32 (k : Nat) (args : List V) (σ : Sto) : F (k + 1) 32 args σ = f32.run (Ph k) args σ := rfl
theorem F33 (k : Nat) (args : List V) (σ : Sto) : F (k + 1) 33 args σ = f33.run (Ph k) args σ := rfl
theorem F34 (k : Nat) (args : List V) (σ : Sto) : F (k + 1) 34 args σ = f34.run (Ph k) args σ := rfl
theorem F35 (k : Nat) (args : List V) (σ : Sto) : F (k + 1) 35 args σ = f35.run (Ph k) args σ := rfl
theorem F36 (k : Nat) (args : List V) (σ : Sto) : F (k + 1) 36 args σ = f36.run (Ph k) args σ := rfl
theorem F37 (k : Nat) (args : List V) (σ : Sto) : F (k + 1) 37 args σ = f37.run (Ph k) args σ := rfl
theorem F38 (k : Nat) (args : List V) (σ : Sto) : F (k + 1) 38 args σ = f38.run (Ph k) args σ := rfl
theorem F39 (k : Nat) (args : List V) (σ : Sto) : F (k + 1) 39 args σ = f39.run (Ph k) args σ := rfl
theorem F40 (k : Nat) (args : List V) (σ : Sto) : F (k + 1) 40 args σ = f40.run (Ph k) args σ := rfl
theorem F41 (k : Nat) (args : List V) (σ : Sto) : F (k + 1) 41 args σ = f41.run (Ph k) args σ := rfl
theorem F42 (k : Nat) (args : List V) (σ : Sto) : F (k + 1) 42 args σ = f42.run (Ph k) args σ := rfl
theorem F43 (k : Nat) (args : List V) (σ : Sto) : F (k + 1) 43 args σ = f43.run (Ph k) args σ := rfl
theorem F44 (k : Nat) (args : List V) (σ : Sto) : F (k + 1) 44 args σ = f44.run (Ph k) args σ := rfl
theorem F45 (k : Nat) (args : List V) (σ : Sto) : F (k + 1) 45 args σ = f45.run (Ph k) args σ := rfl
theorem F46 (k : Nat) (args : List V) (σ : Sto) : F (k + 1) 46 args σ = f46.run (Ph k) args σ := rfl
theorem F47 (k : Nat) (args : List V) (σ : Sto) : F (k + 1) 47 args σ = f47.run (Ph k) args σ := rfl
theorem F48 (k : Nat) (args : List V) (σ : Sto) : F (k + 1) 48 args σ = f48.run (Ph k) args σ := rfl
theorem F49 (k : Nat) (args : List V) (σ : Sto) : F (k + 1) 49 args σ = f49.run (Ph k) args σ := rfl
theorem F50 (k : Nat) (args : List V) (σ : Sto) : F (k + 1) 50 args σ = f50.run (Ph k) args σ := rfl
theorem F51 (k : Nat) (args : List V) (σ : Sto) : F (k + 1) 51 args σ = f51.run (Ph k) args σ := rfl
theorem F52 (k : Nat) (args : List V) (σ : Sto) : F (k + 1) 52 args σ = f52.run (Ph k) args σ := rfl
theorem F53 (k : Nat) (args : List V) (σ : Sto) : F (k + 1) 53 args σ = f53.run (Ph k) args σ := rfl
theorem F54 (k : Nat) (args : List V) (σ : Sto) : F (k + 1) 54 args σ = f54.run (Ph k) args σ := rfl

theorem b_add (i j : Int) : binD .Add (.d (.int i)) (.d (.int j)) = some (.int (i + j)) := rfl
theorem b_sub (i j : Int) : binD .Sub (.d (.int i)) (.d (.int j)) = some (.int (i - j)) := rfl
theorem b_mul (i j : Int) (h : small i = true ∨ small j = true) : binD .Mult (.d (.int i)) (.d (.int j)) = some (.int (i * j)) := by
  exact congrArg (Option.map D.int) (if_pos (Bool.or_eq_true_iff.mpr h))
theorem b_div (i j : Int) (h : 0 < j) (h2 : j < 2 ^ 64) : binD .FloorDiv (.d (.int i)) (.d (.int j)) = some (.int (i / j)) := by
  exact congrArg (Option.map D.int) (if_pos (by rw [Bool.and_eq_true, decide_eq_true_eq, decide_eq_true_eq]; exact ⟨h, Int.lt_trans h2 (by decide +kernel)⟩))
theorem b_mod (i j : Int) (h : 0 < j) : binD .Mod (.d (.int i)) (.d (.int j)) = some (.int (i % j)) := by
  exact congrArg (Option.map D.int) (if_pos (decide_eq_true h))
theorem b_pow (i j : Int) (h : small i = true) (h1 : 0 ≤ j) (h2 : j ≤ 1000) : binD .Pow (.d (.int i)) (.d (.int j)) = some (.int (i ^ j.toNat)) := by
  exact congrArg (Option.map D.int) (if_pos (by rw [h, decide_eq_true h1, decide_eq_true h2]; rfl))
theorem small_of {i : Int} (h1 : -(2 ^ 64) < i) (h2 : i < 2 ^ 64) : small i = true := by simp [small]; omega
theorem c_eq (i j : Int) : cmpD .Eq (.d (.int i)) (.d (.int j)) = some (i == j) := rfl
theorem c_ne (i j : Int) : cmpD .NotEq (.d (.int i)) (.d (.int j)) = some (!(i == j)) := rfl
theorem c_eqb (i j : Bool) : cmpD .Eq (.d (.bool i)) (.d (.bool j)) = some (i == j) := rfl
theorem c_eqs (i j : Str) : cmpD .Eq (.d (.str i)) (.d (.str j)) = some (i == j) := rfl
theorem c_eql (l : List D) : cmpD .Eq (.d (.lst l)) (.d (.lst [])) = some l.isEmpty := rfl
theorem c_nel (l : List D) : cmpD .NotEq (.d (.lst l)) (.d (.lst [])) = some (!l.isEmpty) := rfl
theorem c_lt (i j : Int) : cmpD .Lt (.d (.int i)) (.d (.int j)) = some (decide (i < j)) := rfl
theorem c_le (i j : Int) : cmpD .LtE (.d (.int i)) (.d (.int j)) = some (decide (i ≤ j)) := rfl
theorem c_gt (i j : Int) : cmpD .Gt (.d (.int i)) (.d (.int j)) = some (decide (j < i)) := rfl
theorem c_ge (i j : Int) : cmpD .GtE (.d (.int i)) (.d (.int j)) = some (decide (j ≤ i)) := rfl
theorem c_is (x : D) : cmpD .Is (.d x) (.d .none) = some x.isNone := rfl
theorem c_isnot (x : D) : cmpD .IsNot (.d x) (.d .none) = some (!x.isNone) := rfl
theorem c_in (i : Int) (l : List D) : cmpD .In (.d (.int i)) (.d (.tup l)) = (ints? l).map (·.contains i) := rfl
theorem c_lt_t {i j : Int} (h : i < j) : cmpD .Lt (.d (.int i)) (.d (.int j)) = some true := congrArg some (decide_eq_true h)
theorem c_lt_f {i j : Int} (h : ¬ i < j) : cmpD .Lt (.d (.int i)) (.d (.int j)) = some false := congrArg some (decide_eq_false h)
theorem c_le_t {i j : Int} (h : i ≤ j) : cmpD .LtE (.d (.int i)) (.d (.int j)) = some true := congrArg some (decide_eq_true h)
theorem c_le_f {i j : Int} (h : ¬ i ≤ j) : cmpD .LtE (.d (.int i)) (.d (.int j)) = some false := congrArg some (decide_eq_false h)
theorem c_gt_t {i j : Int} (h : j < i) : cmpD .Gt (.d (.int i)) (.d (.int j)) = some true := congrArg some (decide_eq_true h)
theorem c_gt_f {i j : Int} (h : ¬ j < i) : cmpD .Gt (.d (.int i)) (.d (.int j)) = some false := congrArg some (decide_eq_false h)
theorem c_eq_t {i j : Int} (h : i = j) : cmpD .Eq (.d (.int i)) (.d (.int j)) = some true := congrArg some (beq_iff_eq.mpr h)
theorem c_eq_f {i j : Int} (h : ¬ i = j) : cmpD .Eq (.d (.int i)) (.d (.int j)) = some false := congrArg some (beq_eq_false_iff_ne.mpr h)
theorem call_p {k f : Nat} {m : Mem} {σ σ' : Sto} {es : List E} {vs : List V} {r : Option (V × Sto)} (h1 : E.dens (Ph k) m es σ = some (vs, σ')) (h2 : F k f vs σ' = r) : E.den (Ph k) m (.call f es [] []) σ = r := call_0 h1 h2
section
variable {Φ : Tab} {m : Mem} {σ σ1 σ2 σ3 : Sto}
theorem and_1 {e : E} {b : Bool} (h : E.den Φ m e σ = some (.d (.bool b), σ)) : E.dens? Φ m true [e] σ = some (b, σ) := den1_r h (by cases b <;> rfl)
theorem or_1 {e : E} {b : Bool} (h : E.den Φ m e σ = some (.d (.bool b), σ)) : E.dens? Φ m false [e] σ = some (b, σ) := den1_r h (by cases b <;> rfl)
theorem and_f {e : E} {es : List E} (h : E.den Φ m e σ = some (.d (.bool false), σ)) : E.dens? Φ m true (e :: es) σ = some (false, σ) := den1_r h rfl
theorem or_t {e : E} {es : List E} (h : E.den Φ m e σ = some (.d (.bool true), σ)) : E.dens? Φ m false (e :: es) σ = some (true, σ) := den1_r h rfl
theorem chain_d {op op' : CmpOp} {a b c : E} {x y z : V} {t u : Bool} (h1 : E.den Φ m a σ = some (x, σ1)) (h2 : E.den Φ m b σ1 = some (y, σ2)) (h3 : cmpD op x y = some t) (h4 : E.den Φ m c σ2 = some (z, σ2)) (h5 : cmpD op' y z = some u) : E.den Φ m (.chain op op' a b c) σ = some (.d (.bool (t && u)), σ2) :=
  den2_r h1 h2 (bind_r h3 (by cases t with | true => exact (den1_r h4 (congrArg (fun q => retD (Option.map D.bool q) σ2) h5) : den1 (E.den Φ m c) (fun r => retD ((cmpD op' y r).map .bool)) σ2 = _) | false => rfl))
end
theorem len_lst {α : Type} {σ : Sto} (l : List α) (f : α → D) : lenV σ (.d (.lst (l.map f))) = some l.length := congrArg some (List.length_map _)
theorem mk_d (l : List D) : mkTup (l.map .d) = .d (.tup l) := by
  have : ∀ l : List D, allD (l.map .d) = some l := by
    intro l
    induction l with
    | nil => rfl
    | cons x l ih => rw [List.map_cons, allD, ih]; rfl
  rw [mkTup, this]

@[simp] theorem getA0 {α : Type} (σ l : List α) : (σ ++ l)[σ.length]? = l[0]? := by rw [List.getElem?_append_right (Nat.le_refl _), Nat.sub_self]
@[simp] theorem getA {α : Type} (σ l : List α) (i : Nat) : (σ ++ l)[σ.length + i]? = l[i]? := by rw [List.getElem?_append_right (by omega)]; congr 1; omega
@[simp] theorem setA0 {α : Type} (σ l : List α) (x : α) : (σ ++ l).set σ.length x = σ ++ l.set 0 x := by rw [List.set_append_right _ _ (Nat.le_refl _), Nat.sub_self]
@[simp] theorem setA {α : Type} (σ l : List α) (i : Nat) (x : α) : (σ ++ l).set (σ.length + i) x = σ ++ l.set i x := by rw [List.set_append_right _ _ (by omega)]; congr 2; omega

theorem forGo_ok {step : Nat → D → Mem × Sto → Option (Flw × Mem × Sto)} {items : List D} (I : Nat → Mem × Sto → Prop) (R : Flw × Mem × Sto → Prop)
    (hs : ∀ k x s, items[k]? = some x → I k s → ∃ p, step k x s = some p ∧ (match p.1 with | .next => I (k + 1) p.2 | .ret v => R (.ret v, p.2))) (he : ∀ s, I items.length s → R (.next, s)) :
    ∀ (i : Nat) (s : Mem × Sto), i ≤ items.length → I i s → ∃ p, forGo step i (items.drop i) s = some p ∧ R p := by
  intro i
  induction h : items.length - i generalizing i with
  | zero =>
    intro s hi hI
    have : i = items.length := by omega
    subst this
    exact ⟨_, by rw [List.drop_length, forGo], he s hI⟩
  | succ n ih =>
    intro s hi hI
    have hlt : i < items.length := by omega
    obtain ⟨p, h1, h2⟩ := hs i items[i] s (by simp [hlt]) hI
    rw [List.drop_eq_getElem_cons hlt]
    simp only [forGo, h1, Option.bind_some]
    obtain ⟨f, s'⟩ := p
    cases f with
    | next => exact ih (i + 1) (by omega) s' hlt h2
    | ret v => exact ⟨_, rfl, h2⟩

inductive Nd where
  | box (v : Bool) (w h d : Int) | rule (w h d : Int) | kern (w : Int) | glue (w s : Int) | pen (v : Int) | mark (x : Int)
noncomputable def optD (h : Int) : D := if h = 0 then .none else .int h
noncomputable def glueD (w : Int) : D := .obj 238 [1, 14, 15, 16, 17] [.int w, .int 0, .int 0, .int 0, .int 0]
noncomputable def Nd.toD : Nd → D
  | .box v w h d => .obj 342 [0, 1, 2, 3, 4, 5, 6, 7, 8] [.int (if v then 3 else 2), .int w, .int h, .int d, .lst [], .int 0, .int 0, .int 0, .tup [.int 0, .int 1]]
  | .rule w h d => .obj 363 [1, 2, 3] [.int w, optD h, optD d]
  | .kern w => .obj 384 [1, 9] [.int w, .int 1]
  | .glue w s => .obj 406 [10, 9, 11] [glueD w, .int s, .none]
  | .pen v => .obj 427 [12] [.int v]
  | .mark x => .obj 448 [13] [.tup [.tup [.int 0, .int x]]]
noncomputable def Nd.kind : Nd → Int
  | .box v .. => if v then 3 else 2
  | .rule .. => 4 | .kern _ => 5 | .glue .. => 6 | .pen _ => 7 | .mark _ => 9
noncomputable def Nd.hgt : Nd → Int
  | .box _ _ h _ => h | .rule _ h _ => h | .kern _ => 0 | .glue .. => 0 | .pen _ => 0 | .mark _ => 0
noncomputable def Nd.dep : Nd → Int
  | .box _ _ _ d => d | .rule _ _ d => d | .kern _ => 0 | .glue .. => 0 | .pen _ => 0 | .mark _ => 0
noncomputable def Nd.across : Nd → Int
  | .box _ w _ _ => w | .rule w _ _ => w | .kern _ => 0 | .glue .. => 0 | .pen _ => 0 | .mark _ => 0
noncomputable def Nd.disc : Nd → Bool
  | .kern _ => true | .glue .. => true | .pen _ => true | .box .. => false | .rule .. => false | .mark _ => false
noncomputable def Nd.stands : Nd → Bool
  | .box .. => true | .rule .. => true | .kern _ => false | .glue .. => false | .pen _ => false | .mark _ => false

theorem is_whole_eq (k : Nat) (v l h : Int) (σ : Sto) : F (k + 1) 12 [.d (.int v), .d (.int l), .d (.int h)] σ = some (.d (.bool (decide (l ≤ v) && decide (v ≤ h))), σ) :=
  (F12 k _ σ).trans (run_ret rfl rfl (dens_ret (ret_den (bop_d (and_d (b := true) rfl (and_d (b := true) rfl (and_1 (chain_d rfl rfl (c_le l v) rfl (c_le v h)))))))))
theorem check_whole_eq (k : Nat) (v : Int) (σ : Sto) : F (k + 1) 13 [.d (.int v)] σ = some (.d (.int v), σ) := by kernel_rfl
theorem check_number_eq (k : Nat) (v : Int) (σ : Sto) (h1 : -2147483647 ≤ v) (h2 : v ≤ 2147483647) : F (k + 2) 14 [.d (.int v)] σ = some (.d (.int v), σ) :=
  (F14 (k + 1) _ σ).trans (run_ret rfl rfl (dens_next (ite_ff (not_d (b := true) (chain_d (x := .d (.int (-2147483647))) (z := .d (.int 2147483647)) rfl (call_p rfl (check_whole_eq k v σ)) (c_le_t h1) rfl (c_le_t h2))) dens_nil) (dens_ret (ret_den rfl))))
theorem check_dimen_eq (k : Nat) (v : Int) (σ : Sto) (h1 : -1073741823 ≤ v) (h2 : v ≤ 1073741823) : F (k + 2) 15 [.d (.int v)] σ = some (.d (.int v), σ) :=
  (F15 (k + 1) _ σ).trans (run_ret rfl rfl (dens_next (ite_ff (not_d (b := true) (chain_d (x := .d (.int (-1073741823))) (z := .d (.int 1073741823)) rfl (call_p rfl (check_whole_eq k v σ)) (c_le_t h1) rfl (c_le_t h2))) dens_nil) (dens_ret (ret_den rfl))))
theorem take_ok (k : Nat) (g b c n many : Int) (rest : Sto) (hg : 0 ≤ g) (hb : 0 ≤ b) (hb2 : b < 2 ^ 32) (hc : 0 ≤ c) (hcn : c ≤ n) (hn : n < 10 ^ 6) (hm : 0 < many) (hm2 : many < 1000) :
    ∃ d g' c', 0 ≤ d ∧ d < many ∧ 0 ≤ g' ∧ 0 ≤ c' ∧ c' ≤ n + 1 ∧ F (k + 1) 2 [.ref 0, .d (.int many)] (.lst [.int g, .int b, .int c] :: rest) = some (.d (.int d), .lst [.int g', .int b, .int c'] :: rest) := by
  by_cases h : 0 < g
  · refine ⟨g % many, g / many, c, Int.emod_nonneg _ (Int.ne_of_gt hm), Int.emod_lt_of_pos _ hm, Int.ediv_nonneg hg (Int.le_of_lt hm), hc, Int.le_trans hcn (Int.le_add_one (Int.le_refl n)), ?_⟩
    exact (F2 k _ _).trans (run_ret rfl rfl (dens_ret (ite_true (cmp_d (x := .d (.int g)) (y := .d (.int 0)) rfl rfl (c_gt_t h)) (dens_next (asg_den (bin_s (x := .d (.int g)) (y := .d (.int many)) rfl rfl (b_mod _ _ hm))) (dens_next (set_den (bin_s (x := .d (.int g)) (y := .d (.int many)) rfl rfl (b_div _ _ hm (Int.lt_trans hm2 (by decide)))) rfl) (dens_ret (ret_den rfl)))))))
  · refine ⟨(b + 40093 * (c + 1)) ^ 3 % 2147483647 / 64 % many, g, c + 1, Int.emod_nonneg _ (Int.ne_of_gt hm), Int.emod_lt_of_pos _ hm, hg, Int.le_add_one hc, Int.add_le_add_right hcn 1, ?_⟩
    have h3 : small (b + 40093 * (c + 1)) = true := small_of (by omega) (by omega)
    refine (F2 k _ _).trans (run_ret rfl rfl (dens_next (ite_false (cmp_d (x := .d (.int g)) (y := .d (.int 0)) rfl rfl (c_gt_f h)) dens_nil) (dens_next (s1 := ([some (.ref 0), some (.d (.int many)), none], .lst [.int g, .int b, .int (c + 1)] :: rest)) (set_den (v := .d (.int (c + 1))) rfl rfl) (dens_ret (ret_den ?_)))))
    exact bin_s (y := .d (.int many)) (bin_s (y := .d (.int 64)) (bin_s (y := .d (.int 2147483647)) (bin_s (y := .d (.int 3)) (bin_s (x := .d (.int b)) rfl (bin_s (x := .d (.int 40093)) (y := .d (.int (c + 1))) rfl rfl (b_mul 40093 _ (.inl rfl))) (b_add _ _)) rfl (b_pow _ 3 h3 (by decide) (by decide))) rfl (b_mod _ 2147483647 (by decide))) rfl (b_div _ 64 (by decide) (by decide))) rfl (b_mod _ _ hm)
theorem badness0_eq (k : Nat) (e : Int) (σ : Sto) (h : 0 ≤ e) : F (k + 1) 16 [.d (.int e), .d (.int 0)] σ = some (.d (.int (if e = 0 then 0 else 10000)), σ) := by
  by_cases h2 : e = 0
  · subst h2; kernel_rfl
  · rw [if_neg h2]
    exact (F16 k _ σ).trans (run_ret rfl rfl (dens_next (ite_false (cmp_d (x := .d (.int e)) (y := .d (.int 0)) rfl rfl (c_lt_f (Int.not_lt.mpr h))) dens_nil) (dens_next (ite_false (cmp_d (x := .d (.int e)) (y := .d (.int 0)) rfl rfl (c_eq_f h2)) dens_nil) (dens_ret (ite_true (τ' := σ) rfl (dens_ret (ret_den rfl)))))))

theorem height_of_eq (k : Nat) (x : Nd) (σ : Sto) : F (k + 1) 19 [.d x.toD] σ = some (.d (.int x.hgt), σ) := by
  cases x with
  | box v w h d => cases v <;> kernel_rfl
  | rule w h d =>
    by_cases q : h = 0
    · subst q; kernel_rfl
    · show F (k + 1) 19 [.d (.obj 363 [1, 2, 3] [.int w, optD h, optD d])] σ = _
      rw [show optD h = .int h from if_neg q]; kernel_rfl
  | _ => kernel_rfl
theorem depth_of_eq (k : Nat) (x : Nd) (σ : Sto) : F (k + 1) 20 [.d x.toD] σ = some (.d (.int x.dep), σ) := by
  cases x with
  | box v w h d => cases v <;> kernel_rfl
  | rule w h d =>
    by_cases q : d = 0
    · subst q; kernel_rfl
    · show F (k + 1) 20 [.d (.obj 363 [1, 2, 3] [.int w, optD h, optD d])] σ = _
      rw [show optD d = .int d from if_neg q]; kernel_rfl
  | _ => kernel_rfl
theorem disc_eq (k : Nat) (x : Nd) (σ : Sto) : F (k + 1) 21 [.d x.toD] σ = some (.d (.bool x.disc), σ) := by
  cases x with
  | box v w h d => cases v <;> kernel_rfl
  | _ => kernel_rfl
theorem ahead_eq (k : Nat) (x : Nd) (σ : Sto) : F (k + 2) 22 [.d x.toD] σ = some (.d (.bool (!x.disc)), σ) := by
  cases x with
  | box v w h d => cases v <;> kernel_rfl
  | _ => kernel_rfl
theorem across_eq (k : Nat) (x : Nd) (σ : Sto) : F (k + 2) 23 [.d x.toD] σ = some (.d (.int x.across), σ) := by
  cases x with
  | box v w h d => cases v <;> (show some (V.d (.int (w + 0)), σ) = _; rw [Int.add_zero]; rfl)
  | _ => kernel_rfl

noncomputable def ns (l : List Nd) : V := .d (.lst (l.map Nd.toD))
noncomputable def loopBody : S → List S
  | .for_ _ _ _ _ b => b
  | .while_ _ b => b
  | _ => []

theorem check_column_eq (k : Nat) (l : List Nd) (σ : Sto) : F (k + 1) 24 [ns l] σ = some (.d .none, σ) := by
  have loop : ∀ (l : List Nd) (j : Nat) (its o : Option V) (σ : Sto), ∃ o', forGo (stepOf (Ph k) false [1] 0 (loopBody (f24.body.getD 0 .fail))) j (l.map Nd.toD) ([its, o], σ) = some (.next, [its, o'], σ) := by
    intro l
    induction l with
    | nil => intro j its o σ; exact ⟨o, rfl⟩
    | cons x l ih =>
      intro j its o σ
      obtain ⟨o', h⟩ := ih (j + 1) its (some (.d x.toD)) σ
      refine ⟨o', ?_⟩
      have h1 : stepOf (Ph k) false [1] 0 (loopBody (f24.body.getD 0 .fail)) j x.toD ([its, o], σ) = some (.next, [its, some (.d x.toD)], σ) := by
        cases x with
        | box v w h d => cases v <;> kernel_rfl
        | _ => kernel_rfl
      rw [List.map_cons, forGo, h1]
      exact h
  obtain ⟨o', h⟩ := loop l 0 (some (ns l)) none σ
  rw [F24]
  exact run_next rfl rfl (dens_next (den_for (items := l.map Nd.toD) rfl rfl h) dens_nil)

noncomputable def isGlue : Nd → Bool
  | .glue .. => true | .box .. => false | .rule .. => false | .kern _ => false | .pen _ => false | .mark _ => false
noncomputable def penOf (l : List Nd) (p : Nat) : Nd → Option Int
  | .pen v => some v
  | .glue .. => if p = 0 then none else (l[p - 1]?).bind fun x => if x.disc then none else some 0
  | .kern _ => (l[p + 1]?).bind fun x => if isGlue x then some 0 else none
  | .box .. => none
  | .rule .. => none
  | .mark _ => none
noncomputable def penAt (l : List Nd) (p : Nat) : Option Int := if p = l.length then some (-10000) else (l[p]?).bind (penOf l p)
noncomputable def optI : Option Int → D
  | some i => .int i
  | none => .none

theorem idx_nodes {l : List Nd} {i : Int} {x : Nd} (h0 : 0 ≤ i) (h : l[i.toNat]? = some x) : getIdx (l.map Nd.toD) i = some x.toD := by
  unfold getIdx
  rw [if_pos h0, List.getElem?_map, h]; rfl

theorem idx_ns {Φ : Tab} {m : Mem} {a i : E} {σ : Sto} {l : List Nd} {j : Int} {x : Nd} (h1 : E.den Φ m a σ = some (ns l, σ)) (h2 : E.den Φ m i σ = some (.d (.int j), σ)) (h0 : 0 ≤ j) (h : l[j.toNat]? = some x) : E.den Φ m (.idx a i) σ = some (.d x.toD, σ) := idx_d h1 h2 (map_r (idx_nodes h0 h) rfl)
theorem kind_at (k : Nat) (x : Nd) (σ : Sto) : attrV (Ph k) σ (.d x.toD) 0 = some (.d (.int x.kind)) := by
  cases x with
  | box v => cases v <;> kernel_rfl
  | _ => kernel_rfl
theorem kind_glue (x : Nd) : (x.kind == 6) = isGlue x := by
  cases x with
  | box v => cases v <;> rfl
  | _ => rfl
noncomputable abbrev bpMem (l : List Nd) (p : Nat) (o2 o3 : Option V) : Mem := [some (ns l), some (.d (.int p)), o2, o3]
theorem bp_st (k : Nat) (l : List Nd) (p : Nat) (σ : Sto) {x : Nd} (hl : ¬ p = l.length) (hx : l[p]? = some x) {r : Option (Flw × Mem × Sto)} (h : S.dens (Ph (k + 2)) (f31.body.drop 2) (bpMem l p (some (.d x.toD)) none, σ) = r) : S.dens (Ph (k + 2)) f31.body (bpMem l p none none, σ) = r :=
  dens_next (ite_false (cmp_d (x := .d (.int p)) (y := .d (.int l.length)) rfl (len_d (v := ns l) rfl (len_lst l Nd.toD)) (c_eq_f fun e => hl (Int.ofNat.inj e))) dens_nil) (dens_next (asg_den (idx_ns (j := p) rfl rfl (Int.natCast_nonneg p) hx)) h)
theorem break_penalty_eq (k : Nat) (l : List Nd) (p : Nat) (hp : p ≤ l.length) (σ : Sto) : F (k + 3) 31 [ns l, .d (.int p)] σ = some (.d (optI (penAt l p)), σ) := by
  by_cases hl : p = l.length
  · rw [penAt, if_pos hl, hl]
    exact (F31 _ _ σ).trans (run_ret (m' := bpMem l l.length none none) rfl rfl (dens_ret (ite_true (cmp_d (x := .d (.int l.length)) (y := .d (.int l.length)) rfl (len_d (v := ns l) rfl (len_lst l Nd.toD)) (c_eq_t rfl)) (dens_ret (ret_den rfl)))))
  · have hx : l[p]? = some l[p] := List.getElem?_eq_getElem (Nat.lt_of_le_of_ne hp hl)
    generalize l[p] = x at hx
    suffices hs : ∃ m', S.dens (Ph (k + 2)) (f31.body.drop 2) (bpMem l p (some (.d x.toD)) none, σ) = some (.ret (.d (optI (penAt l p))), m', σ) from
      hs.elim fun m' h => (F31 _ _ σ).trans (run_ret (m' := m') rfl rfl (bp_st k l p σ hl hx h))
    rw [penAt, if_neg hl, hx]
    have g1 : (Int.toNat ((p : Int) + 1)) = p + 1 := rfl
    cases x with
    | box v w h d => exact ⟨bpMem l p (some (.d (Nd.box v w h d).toD)) none, by cases v <;> kernel_rfl⟩
    | rule w h d => exact ⟨bpMem l p (some (.d (Nd.rule w h d).toD)) none, by kernel_rfl⟩
    | pen v => exact ⟨bpMem l p (some (.d (Nd.pen v).toD)) none, by kernel_rfl⟩
    | mark v => exact ⟨bpMem l p (some (.d (Nd.mark v).toD)) none, by kernel_rfl⟩
    | glue w s =>
      refine ⟨bpMem l p (some (.d (Nd.glue w s).toD)) none, dens_next (s1 := (bpMem l p (some (.d (Nd.glue w s).toD)) none, σ)) (by kernel_rfl) (dens_ret (ite_true (τ' := σ) (by kernel_rfl) (dens_ret (ret_den ?_))))⟩
      rw [show (some (Nd.glue w s)).bind (penOf l p) = if p = 0 then none else (l[p - 1]?).bind (fun x => if x.disc then none else some 0) from rfl]
      by_cases hp0 : p = 0
      · subst hp0
        kernel_rfl
      · rw [if_neg hp0]
        have hy : l[p - 1]? = some l[p - 1] := List.getElem?_eq_getElem (Nat.lt_of_lt_of_le (Nat.sub_lt (Nat.pos_of_ne_zero hp0) Nat.one_pos) hp)
        generalize l[p - 1] = y at hy
        rw [hy, Option.bind_some]
        have e1 : ((p : Int) - 1).toNat = p - 1 := by omega
        refine ite_d (bop_d (and_d (cmp_d (x := .d (.int p)) (y := .d (.int 0)) rfl rfl (c_gt_t (by omega))) (and_1 (call_p (dens_cons (idx_ns (l := l) (j := (p : Int) - 1) rfl (bin_d (x := .d (.int p)) (y := .d (.int 1)) rfl rfl rfl) (by omega) (by rw [e1]; exact hy)) rfl) (ahead_eq k y σ))))) ?_
        cases y.disc <;> rfl
    | kern w =>
      refine ⟨bpMem l p (some (.d (Nd.kern w).toD)) (some (.d (.bool ((p : Int) + 1 == (l.length : Int))))), dens_next (s1 := (bpMem l p (some (.d (Nd.kern w).toD)) none, σ)) (by kernel_rfl) (dens_next (s1 := (bpMem l p (some (.d (Nd.kern w).toD)) none, σ)) (by kernel_rfl) (dens_ret (ite_true (τ' := σ) (by kernel_rfl) (dens_next (asg_den (cmp_d (x := .d (.int ((p : Int) + 1))) (y := .d (.int l.length)) (bin_d (x := .d (.int p)) (y := .d (.int 1)) rfl rfl rfl) (len_d (v := ns l) rfl (len_lst l Nd.toD)) rfl)) (dens_ret (ret_den ?_))))))⟩
      rw [show (some (Nd.kern w)).bind (penOf l p) = (l[p + 1]?).bind (fun x => if isGlue x then some 0 else none) from rfl]
      by_cases hla : p + 1 = l.length
      · rw [List.getElem?_eq_none (Nat.le_of_eq hla.symm)]
        rw [show ((p : Int) + 1 == (l.length : Int)) = true from beq_iff_eq.mpr (congrArg Int.ofNat hla)]
        exact ite_d (bop_d (and_f (not_d (b := true) rfl))) rfl
      · have hy : l[p + 1]? = some l[p + 1] := List.getElem?_eq_getElem (Nat.lt_of_le_of_ne (Nat.lt_of_le_of_ne hp hl) hla)
        generalize l[p + 1] = y at hy
        rw [hy, Option.bind_some]
        rw [show ((p : Int) + 1 == (l.length : Int)) = false from beq_eq_false_iff_ne.mpr fun e => hla (Int.ofNat.inj e)]
        refine ite_d (bop_d (and_d (not_d (b := false) rfl) (and_1 (cmp_d (x := .d (.int y.kind)) (y := .d (.int 6)) (attr_d (idx_ns (l := l) (j := (p : Int) + 1) rfl (bin_d (x := .d (.int p)) (y := .d (.int 1)) rfl rfl rfl) (Int.natCast_nonneg (p + 1)) hy) (kind_at _ y σ)) rfl rfl)))) ?_
        rw [kind_glue]
        cases isGlue y <;> rfl

noncomputable def colO (n : Nat) (h d : Int) : MObj := .obj 606 [2, 3, 14, 16] [.d (.int h), .d (.int d), .ref (n + 1), .d (.int 0)]
noncomputable def zer : MObj := .lst [.int 0, .int 0, .int 0, .int 0]
noncomputable def col (n : Nat) (h d : Int) : Sto := [colO n h d, zer]
inductive Pre : Sto → Prop where
  | one (a : MObj) : Pre [a]
  | two (a b : MObj) : Pre [a, b]

noncomputable def stood (c : Int × Int) (x : Nd) : Int × Int := (c.1 + c.2 + x.hgt, x.dep)
noncomputable def flowed (c : Int × Int) (w : Int) : Int × Int := (c.1 + c.2 + w, 0)
noncomputable def kept (cap : Int) (c : Int × Int) : Int × Int := if cap < c.2 then (c.1 + c.2 - cap, cap) else c

theorem col_new (k : Nat) {σ : Sto} (hσ : Pre σ) (m : Mem) : E.den (Ph (k + 1)) m (.new 606 [] []) σ = some (.ref σ.length, σ ++ col σ.length 0 0) := by
  cases hσ <;> kernel_rfl
theorem stand_eq (k : Nat) {σ : Sto} (hσ : Pre σ) (h d : Int) (x : Nd) (hx : x.stands = true) : F (k + 1) 51 [.ref σ.length, .d x.toD] (σ ++ col σ.length h d) = some (.d .none, σ ++ col σ.length (stood (h, d) x).1 (stood (h, d) x).2) := by
  cases x <;> first | (simp [Nd.stands] at hx; done) | skip
  · cases hσ <;> kernel_rfl
  · rename_i w a b
    by_cases qa : a = 0 <;> by_cases qb : b = 0
    · subst qa qb; cases hσ <;> kernel_rfl
    · subst qa
      show F (k + 1) 51 [_, .d (.obj 363 [1, 2, 3] [.int w, optD 0, optD b])] _ = _
      rw [show optD b = .int b from if_neg qb]; cases hσ <;> kernel_rfl
    · subst qb
      show F (k + 1) 51 [_, .d (.obj 363 [1, 2, 3] [.int w, optD a, optD 0])] _ = _
      rw [show optD a = .int a from if_neg qa]; cases hσ <;> kernel_rfl
    · show F (k + 1) 51 [_, .d (.obj 363 [1, 2, 3] [.int w, optD a, optD b])] _ = _
      rw [show optD a = .int a from if_neg qa, show optD b = .int b from if_neg qb]; cases hσ <;> kernel_rfl
theorem flow_kern (k : Nat) {σ : Sto} (hσ : Pre σ) (h d w : Int) : F (k + 1) 53 [.ref σ.length, .d (Nd.kern w).toD] (σ ++ col σ.length h d) = some (.d .none, σ ++ col σ.length (flowed (h, d) w).1 (flowed (h, d) w).2) := by
  cases hσ <;> kernel_rfl
theorem flow_glue (k : Nat) {σ : Sto} (hσ : Pre σ) (h d w s : Int) : F (k + 1) 53 [.ref σ.length, .d (Nd.glue w s).toD] (σ ++ col σ.length h d) = some (.d .none, σ ++ col σ.length (flowed (h, d) w).1 (flowed (h, d) w).2) := by
  cases hσ <;> kernel_rfl
theorem keep_eq (k : Nat) {σ : Sto} (hσ : Pre σ) (h d cap : Int) : F (k + 1) 52 [.ref σ.length, .d (.int cap)] (σ ++ col σ.length h d) = some (.d .none, σ ++ col σ.length (kept cap (h, d)).1 (kept cap (h, d)).2) := by
  have hc : E.den (Ph k) [some (.ref σ.length), some (.d (.int cap))] (.attr (.loc 0) 3) (σ ++ col σ.length h d) = some (.d (.int d), σ ++ col σ.length h d) := by cases hσ <;> kernel_rfl
  by_cases q : cap < d
  · rw [kept, if_pos q]
    exact (F52 k _ _).trans (run_next (m' := [some (.ref σ.length), some (.d (.int cap))]) rfl rfl (dens_next (ite_true (cmp_d (y := .d (.int cap)) hc rfl (c_gt_t q)) (by cases hσ <;> kernel_rfl)) dens_nil))
  · rw [kept, if_neg q]
    exact (F52 k _ _).trans (run_next (m' := [some (.ref σ.length), some (.d (.int cap))]) rfl rfl (dens_next (ite_false (cmp_d (y := .d (.int cap)) hc rfl (c_gt_f q)) dens_nil) dens_nil))
noncomputable def costAt (h goal : Int) : Int := if h < goal then 10000 else if goal < h then 1073741823 else 0
theorem cost_eq (k : Nat) {σ : Sto} (hσ : Pre σ) (h d goal : Int) : F (k + 2) 54 [.ref σ.length, .d (.int goal)] (σ ++ col σ.length h d) = some (.d (.int (costAt h goal)), σ ++ col σ.length h d) := by
  have hh : E.den (Ph (k + 1)) [some (.ref σ.length), some (.d (.int goal))] (.attr (.loc 0) 2) (σ ++ col σ.length h d) = some (.d (.int h), σ ++ col σ.length h d) := by cases hσ <;> kernel_rfl
  have hz : E.den (Ph (k + 1)) [some (.ref σ.length), some (.d (.int goal))] (.attr (.loc 0) 16) (σ ++ col σ.length h d) = some (.d (.int 0), σ ++ col σ.length h d) := by cases hσ <;> kernel_rfl
  refine (F54 (k + 1) _ _).trans (run_ret (m' := [some (.ref σ.length), some (.d (.int goal))]) rfl rfl ?_)
  by_cases q : h < goal
  · have e : costAt h goal = if goal - h = 0 then 0 else 10000 := by rw [costAt, if_pos q, if_neg (by omega)]
    rw [e]
    refine dens_ret (ite_true (cmp_d (y := .d (.int goal)) hh rfl (c_lt_t q)) (dens_next (s1 := ([some (.ref σ.length), some (.d (.int goal))], σ ++ col σ.length h d)) (by cases hσ <;> kernel_rfl) (dens_ret (ret_den (call_p (dens_cons (bin_d (x := .d (.int goal)) rfl hh rfl) (dens_cons (v := .d (.int 0)) (by cases hσ <;> kernel_rfl) rfl)) (badness0_eq k (goal - h) _ (by omega)))))))
  · refine dens_next (ite_false (cmp_d (y := .d (.int goal)) hh rfl (c_lt_f q)) dens_nil) ?_
    have hsub : E.den (Ph (k + 1)) [some (.ref σ.length), some (.d (.int goal))] (.bin .Sub (.attr (.loc 0) 2) (.loc 1)) (σ ++ col σ.length h d) = some (.d (.int (h - goal)), σ ++ col σ.length h d) := bin_d (y := .d (.int goal)) hh rfl rfl
    by_cases q2 : goal < h
    · rw [costAt, if_neg q, if_pos q2]
      exact dens_ret (ite_true (cmp_d hsub hz (c_gt_t (Int.sub_pos_of_lt q2))) (dens_ret (ret_den rfl)))
    · have e : costAt h goal = if h - goal = 0 then 0 else 10000 := by rw [costAt, if_neg q, if_neg q2, if_pos (by omega)]
      rw [e]
      exact dens_next (ite_false (cmp_d hsub hz (c_gt_f (by omega))) dens_nil) (dens_ret (ret_den (call_p (dens_cons hsub (dens_cons hz rfl)) (badness0_eq k (h - goal) _ (by omega)))))
noncomputable def costHere (h goal pen : Int) : Int := if goal < h then 1073741823 else if pen ≤ -10000 then pen else if h = goal then pen else 100000
theorem cost_here_eq (k : Nat) {σ : Sto} (hσ : Pre σ) (h d goal pen : Int) : F (k + 3) 32 [.ref σ.length, .d (.int goal), .d (.int pen)] (σ ++ col σ.length h d) = some (.d (.int (costHere h goal pen)), σ ++ col σ.length h d) := by
  have hc : S.den (Ph (k + 2)) (f32.body.getD 0 .fail) ([some (.ref σ.length), some (.d (.int goal)), some (.d (.int pen)), none], σ ++ col σ.length h d) = some (.next, [some (.ref σ.length), some (.d (.int goal)), some (.d (.int pen)), some (.d (.int (costAt h goal)))], σ ++ col σ.length h d) :=
    asg_den (meth_den (n := σ.length) (c := 606) (ks := [2, 3, 14, 16]) (f := 54) (fs := [.d (.int h), .d (.int d), .ref (σ.length + 1), .d (.int 0)]) (vs := [.d (.int goal)]) rfl (getA0 σ _) rfl rfl rfl (cost_eq k hσ h d goal))
  refine (F32 (k + 2) _ _).trans (run_ret (m' := [some (.ref σ.length), some (.d (.int goal)), some (.d (.int pen)), some (.d (.int (costAt h goal)))]) rfl rfl (dens_next hc ?_))
  generalize σ ++ col σ.length h d = T
  by_cases q : goal < h
  · rw [costHere, if_pos q, show costAt h goal = 1073741823 by rw [costAt, if_neg (by omega), if_pos q]]
    exact dens_ret (ite_true (τ' := T) (cmp_d (x := .d (.int 1073741823)) (y := .d (.int 1073741823)) rfl rfl (c_eq_t rfl)) (dens_ret (ret_den rfl)))
  · have n1 : ¬ costAt h goal = 1073741823 := by
      rw [costAt, if_neg q]
      split <;> decide
    rw [costHere, if_neg q]
    refine dens_next (ite_false (τ' := T) (cmp_d (x := .d (.int (costAt h goal))) (y := .d (.int 1073741823)) rfl rfl (c_eq_f n1)) dens_nil) ?_
    by_cases q3 : pen ≤ -10000
    · rw [if_pos q3]
      exact dens_ret (ite_true (τ' := T) (cmp_d (x := .d (.int pen)) (y := .d (.int (-10000))) rfl rfl (c_le_t q3)) (dens_ret (ret_den rfl)))
    · rw [if_neg q3]
      refine dens_next (ite_false (τ' := T) (cmp_d (x := .d (.int pen)) (y := .d (.int (-10000))) rfl rfl (c_le_f q3)) dens_nil) (dens_ret (ret_den ?_))
      by_cases q2 : h = goal
      · rw [if_pos q2, show costAt h goal = 0 by rw [costAt, if_neg (by omega), if_neg q]]
        exact ite_d (t := true) rfl (bin_d (x := .d (.int 0)) (y := .d (.int pen)) rfl rfl ((b_add 0 pen).trans (by rw [Int.zero_add])))
      · rw [if_neg q2, show costAt h goal = 10000 by rw [costAt, if_pos (by omega)]]
        exact ite_d (t := false) rfl rfl

noncomputable def penN (prev : Option Nd) (r : List Nd) : Nd → Option Int
  | .pen v => some v
  | .glue .. => prev.bind fun y => if y.disc then none else some 0
  | .kern _ => r.head?.bind fun y => if isGlue y then some 0 else none
  | .box .. => none
  | .rule .. => none
  | .mark _ => none
noncomputable def penL (prev : Option Nd) : List Nd → Option Int
  | [] => some (-10000)
  | x :: r => penN prev r x
noncomputable def prevAt (l : List Nd) (p : Nat) : Option Nd := if p = 0 then none else l[p - 1]?
theorem penAt_L (l : List Nd) (p : Nat) (hp : p ≤ l.length) : penAt l p = penL (prevAt l p) (l.drop p) := by
  by_cases hl : p = l.length
  · rw [penAt, if_pos hl, hl, List.drop_length]; rfl
  · have hlt : p < l.length := Nat.lt_of_le_of_ne hp hl
    rw [List.drop_eq_getElem_cons hlt, penAt, if_neg hl, List.getElem?_eq_getElem hlt]
    show penOf l p l[p] = penN (prevAt l p) (l.drop (p + 1)) l[p]
    generalize l[p] = x
    cases x with
    | glue w s =>
      by_cases h0 : p = 0
      · rw [penOf, if_pos h0, prevAt, if_pos h0]; rfl
      · rw [penOf, if_neg h0, prevAt, if_neg h0]; rfl
    | kern w =>
      show (l[p + 1]?).bind _ = ((l.drop (p + 1)).head?).bind _
      rw [List.head?_drop]
    | _ => rfl

noncomputable def colStep (cap : Int) (c : Int × Int) (x : Nd) : Int × Int := kept cap (match x with
  | .box .. => stood c x
  | .rule .. => stood c x
  | .kern w => flowed c w
  | .glue w _ => flowed c w
  | .pen _ => c
  | .mark _ => c)
noncomputable def brk (o : Option Int) : Option Int := o.bind fun v => if v < 10000 then some v else none
noncomputable def upd (goal : Int) (c : Int × Int) (p : Nat) (v : Int) (cur : Int × Int × Int) : Int × Int × Int := if costHere c.1 goal v ≤ cur.2.1 then (p, costHere c.1 goal v, c.1 + c.2) else cur
noncomputable def stops (goal : Int) (c : Int × Int) (v : Int) : Bool := decide (costHere c.1 goal v = 1073741823) || decide (v ≤ -10000)
noncomputable def bbGo (goal cap : Int) : List Nd → Option Nd → Int × Int → Nat → Int × Int × Int → Int × Int × Int
  | [], prev, c, p, cur => upd goal c p (-10000) cur
  | x :: r, prev, c, p, cur => match brk (penL prev (x :: r)) with
    | some v => if stops goal c v then upd goal c p v cur else bbGo goal cap r (some x) (colStep cap c x) (p + 1) (upd goal c p v cur)
    | none => bbGo goal cap r (some x) (colStep cap c x) (p + 1) cur

noncomputable def tri (t : Int × Int × Int) : D := .tup [.int t.1, .int t.2.1, .int t.2.2]
noncomputable abbrev bbMem (l : List Nd) (goal cap : Int) (n : Nat) (cur : Int × Int × Int) (o7 o8 o9 o10 : Option V) : Mem :=
  [some (ns l), some (.d (.int goal)), some (.d (.int cap)), some (.ref n), some (.d (.int cur.1)), some (.d (.int cur.2.1)), some (.d (.int cur.2.2)), o7, o8, o9, o10]

noncomputable def bbIf : E := .bop true [.cmp .IsNot (.loc 8) (.lit .none), .cmp .Lt (.loc 8) (.glob 0 (.int 10000))]
theorem bbB_none (k : Nat) (l : List Nd) (goal cap : Int) (n : Nat) (cur : Int × Int × Int) (o7 o9 o10 : Option V) (τ : Sto) (o : Option Int) (h : brk o = none) :
    S.den (Ph (k + 3)) ((loopBody (f33.body.getD 5 .fail)).getD 1 .fail) (bbMem l goal cap n cur o7 (some (.d (optI o))) o9 o10, τ) = some (.next, bbMem l goal cap n cur o7 (some (.d (optI o))) o9 o10, τ) := by
  cases o with
  | none => kernel_rfl
  | some v =>
    have hv : ¬ v < 10000 := fun q => by have h : (if v < 10000 then some v else none) = none := h; rw [if_pos q] at h; cases h
    exact ite_ff (c := bbIf) (bop_d (and_d (b := true) rfl (and_1 (cmp_d (x := .d (.int v)) (y := .d (.int 10000)) rfl rfl (c_lt_f hv))))) dens_nil
theorem or_dec {p q : Prop} [Decidable p] [Decidable q] (h : p ∨ q) : (decide p || decide q) = true := Bool.or_eq_true_iff.mpr (h.imp decide_eq_true decide_eq_true)
theorem bbB_some (k : Nat) (l : List Nd) (goal cap : Int) (n : Nat) (cur : Int × Int × Int) (p : Nat) (o9 o10 : Option V) (τ : Sto) (c : Int × Int) (v : Int) (hv : v < 10000) (h0 : τ[n]? = some (colO n c.1 c.2))
    (hc : F (k + 3) 32 [.ref n, .d (.int goal), .d (.int v)] τ = some (.d (.int (costHere c.1 goal v)), τ)) :
    S.den (Ph (k + 3)) ((loopBody (f33.body.getD 5 .fail)).getD 1 .fail) (bbMem l goal cap n cur (some (.d (.int p))) (some (.d (optI (some v)))) o9 o10, τ) =
      some (if stops goal c v then .ret (.d (tri (upd goal c p v cur))) else .next, bbMem l goal cap n (upd goal c p v cur) (some (.d (.int p))) (some (.d (optI (some v)))) (some (.d (.int (costHere c.1 goal v)))) o10, τ) := by
  have a2 : attrV (Ph (k + 3)) τ (.ref n) 2 = some (.d (.int c.1)) := bind_r h0 rfl
  have a3 : attrV (Ph (k + 3)) τ (.ref n) 3 = some (.d (.int c.2)) := bind_r h0 rfl
  refine ite_tt (c := bbIf) (bop_d (and_d (b := true) rfl (and_1 (cmp_d (x := .d (.int v)) (y := .d (.int 10000)) rfl rfl (c_lt_t hv))))) ?_
  refine dens_next (asg_den (call_p (dens_cons rfl (dens_cons (v := .d (.int goal)) rfl (dens_cons (v := .d (.int v)) rfl rfl))) hc)) ?_
  refine dens_next (s1 := (bbMem l goal cap n (upd goal c p v cur) (some (.d (.int p))) (some (.d (optI (some v)))) (some (.d (.int (costHere c.1 goal v)))) o10, τ)) ?_ ?_
  · by_cases q : costHere c.1 goal v ≤ cur.2.1
    · rw [upd, if_pos q]
      exact ite_tt (cmp_d (x := .d (.int (costHere c.1 goal v))) (y := .d (.int cur.2.1)) rfl rfl (c_le_t q)) (dens_next (set_den (tup_d (dens_cons (v := .d (.int p)) rfl (dens_cons (v := .d (.int (costHere c.1 goal v))) rfl (dens_cons (bin_d (attr_d rfl a2) (attr_d rfl a3) (b_add _ _)) rfl)))) rfl) dens_nil)
    · rw [upd, if_neg q]
      exact ite_ff (cmp_d (x := .d (.int (costHere c.1 goal v))) (y := .d (.int cur.2.1)) rfl rfl (c_le_f q)) dens_nil
  generalize upd goal c p v cur = cur'
  have ht : E.den (Ph (k + 3)) (bbMem l goal cap n cur' (some (.d (.int p))) (some (.d (optI (some v)))) (some (.d (.int (costHere c.1 goal v)))) o10) (.bop false [(.cmp .Eq (.loc 9) (.glob 0 (.int 1073741823))), (.cmp .LtE (.loc 8) (.glob 0 (.int (-10000))))]) τ = some (.d (.bool (stops goal c v)), τ) :=
    bop_d (or_d (cmp_d (x := .d (.int (costHere c.1 goal v))) (y := .d (.int 1073741823)) rfl rfl rfl) (or_1 (cmp_d (x := .d (.int v)) (y := .d (.int (-10000))) rfl rfl rfl)))
  cases hs : stops goal c v with
  | true => rw [hs] at ht; exact dens_ret (ite_tt ht (dens_ret (ret_den rfl)))
  | false => rw [hs] at ht; exact dens_next (ite_ff ht dens_nil) dens_nil

theorem bbCDE (k : Nat) (l : List Nd) (goal cap : Int) {σ : Sto} (hσ : Pre σ) (cur : Int × Int × Int) (p : Nat) (x : Nd) (hx : l[p]? = some x) (o8 o9 o10 : Option V) (c : Int × Int) :
    S.dens (Ph (k + 3)) ((loopBody (f33.body.getD 5 .fail)).drop 2) (bbMem l goal cap σ.length cur (some (.d (.int p))) o8 o9 o10, σ ++ col σ.length c.1 c.2) =
      some (.next, bbMem l goal cap σ.length cur (some (.d (.int p))) o8 o9 (some (.d x.toD)), σ ++ col σ.length (colStep cap c x).1 (colStep cap c x).2) := by
  have e : (loopBody (f33.body.getD 5 .fail)).drop 2 = [.assign false [.var 10] (.idx (.loc 0) (.loc 7)), .ite (.cmp .In (.attr (.loc 10) 0) (.glob 0 (.tup [.int 2, .int 3, .int 4, .int 14]))) [.expr (.meth (.loc 3) 24 [(.loc 10)])] [.ite (.bop false [(.cmp .Eq (.attr (.loc 10) 0) (.glob 0 (.int 6))), (.cmp .Eq (.attr (.loc 10) 0) (.glob 0 (.int 5)))]) [.expr (.meth (.loc 3) 21 [(.loc 10)])] []],
    .expr (.meth (.loc 3) 22 [(.loc 2)])] := rfl
  rw [e]
  have h0 := idx_nodes (l := l) (i := p) (by omega) (by simpa using hx)
  refine dens_next (s1 := (bbMem l goal cap σ.length cur (some (.d (.int p))) o8 o9 (some (.d x.toD)), σ ++ col σ.length c.1 c.2)) ?_ ?_
  · exact asg_den (idx_ns (l := l) (j := (p : Int)) rfl rfl (Int.natCast_nonneg p) hx)
  have hm : ∀ h d, (σ ++ col σ.length h d)[σ.length]? = some (colO σ.length h d) := fun h d => by rw [getA0]; rfl
  have meth : ∀ (m : Mem) (mi f : Nat) (h d : Int) (args : List E) (vs : List V) (r : Option (V × Sto)), m[3]? = some (some (.ref σ.length)) → (Ph (k + 3)).meth 606 mi = some f → ([2, 3, 14, 16] : List Nat).contains mi = false → E.dens (Ph (k + 3)) m args (σ ++ col σ.length h d) = some (vs, σ ++ col σ.length h d) →
      F (k + 3) f (.ref σ.length :: vs) (σ ++ col σ.length h d) = r → E.den (Ph (k + 3)) m (.meth (.loc 3) mi args) (σ ++ col σ.length h d) = r := by
    exact fun m mi f h d args vs r hm3 hmeth hc ha hr => meth_den (loc_d hm3) (hm h d) hc hmeth ha hr
  have keepS : ∀ (c' : Int × Int), S.dens (Ph (k + 3)) [.expr (.meth (.loc 3) 22 [(.loc 2)])] (bbMem l goal cap σ.length cur (some (.d (.int p))) o8 o9 (some (.d x.toD)), σ ++ col σ.length c'.1 c'.2) =
      some (.next, bbMem l goal cap σ.length cur (some (.d (.int p))) o8 o9 (some (.d x.toD)), σ ++ col σ.length (kept cap c').1 (kept cap c').2) := by
    intro c'
    refine dens_next ?_ dens_nil
    exact expr_den (meth _ 22 52 c'.1 c'.2 [.loc 2] [.d (.int cap)] _ rfl rfl rfl rfl (keep_eq (k + 2) hσ c'.1 c'.2 cap))
  cases x with
  | box v w h d =>
    refine dens_next (s1 := (bbMem l goal cap σ.length cur (some (.d (.int p))) o8 o9 (some (.d (Nd.box v w h d).toD)), σ ++ col σ.length (stood c (.box v w h d)).1 (stood c (.box v w h d)).2)) ?_ (keepS _)
    have t : E.den (Ph (k + 3)) (bbMem l goal cap σ.length cur (some (.d (.int p))) o8 o9 (some (.d (Nd.box v w h d).toD))) (.cmp .In (.attr (.loc 10) 0) (.glob 0 (.tup [.int 2, .int 3, .int 4, .int 14]))) (σ ++ col σ.length c.1 c.2) = some (.d (.bool true), σ ++ col σ.length c.1 c.2) := by cases v <;> kernel_rfl
    exact ite_tt t (dens_next (expr_den (meth _ 24 51 c.1 c.2 [.loc 10] [.d (Nd.box v w h d).toD] _ rfl rfl rfl rfl (stand_eq (k + 2) hσ c.1 c.2 (.box v w h d) rfl))) dens_nil)
  | rule w h d =>
    refine dens_next (s1 := (bbMem l goal cap σ.length cur (some (.d (.int p))) o8 o9 (some (.d (Nd.rule w h d).toD)), σ ++ col σ.length (stood c (.rule w h d)).1 (stood c (.rule w h d)).2)) ?_ (keepS _)
    have t : E.den (Ph (k + 3)) (bbMem l goal cap σ.length cur (some (.d (.int p))) o8 o9 (some (.d (Nd.rule w h d).toD))) (.cmp .In (.attr (.loc 10) 0) (.glob 0 (.tup [.int 2, .int 3, .int 4, .int 14]))) (σ ++ col σ.length c.1 c.2) = some (.d (.bool true), σ ++ col σ.length c.1 c.2) := by kernel_rfl
    exact ite_tt t (dens_next (expr_den (meth _ 24 51 c.1 c.2 [.loc 10] [.d (Nd.rule w h d).toD] _ rfl rfl rfl rfl (stand_eq (k + 2) hσ c.1 c.2 (.rule w h d) rfl))) dens_nil)
  | kern w =>
    refine dens_next (s1 := (bbMem l goal cap σ.length cur (some (.d (.int p))) o8 o9 (some (.d (Nd.kern w).toD)), σ ++ col σ.length (flowed c w).1 (flowed c w).2)) ?_ (keepS _)
    have t : E.den (Ph (k + 3)) (bbMem l goal cap σ.length cur (some (.d (.int p))) o8 o9 (some (.d (Nd.kern w).toD))) (.cmp .In (.attr (.loc 10) 0) (.glob 0 (.tup [.int 2, .int 3, .int 4, .int 14]))) (σ ++ col σ.length c.1 c.2) = some (.d (.bool false), σ ++ col σ.length c.1 c.2) := by kernel_rfl
    have t2 : E.den (Ph (k + 3)) (bbMem l goal cap σ.length cur (some (.d (.int p))) o8 o9 (some (.d (Nd.kern w).toD))) (.bop false [(.cmp .Eq (.attr (.loc 10) 0) (.glob 0 (.int 6))), (.cmp .Eq (.attr (.loc 10) 0) (.glob 0 (.int 5)))]) (σ ++ col σ.length c.1 c.2) = some (.d (.bool true), σ ++ col σ.length c.1 c.2) := by kernel_rfl
    exact ite_ff t (dens_next (ite_tt t2 (dens_next (expr_den (meth _ 21 53 c.1 c.2 [.loc 10] [.d (Nd.kern w).toD] _ rfl rfl rfl rfl (flow_kern (k + 2) hσ c.1 c.2 w))) dens_nil)) dens_nil)
  | glue w s =>
    refine dens_next (s1 := (bbMem l goal cap σ.length cur (some (.d (.int p))) o8 o9 (some (.d (Nd.glue w s).toD)), σ ++ col σ.length (flowed c w).1 (flowed c w).2)) ?_ (keepS _)
    have t : E.den (Ph (k + 3)) (bbMem l goal cap σ.length cur (some (.d (.int p))) o8 o9 (some (.d (Nd.glue w s).toD))) (.cmp .In (.attr (.loc 10) 0) (.glob 0 (.tup [.int 2, .int 3, .int 4, .int 14]))) (σ ++ col σ.length c.1 c.2) = some (.d (.bool false), σ ++ col σ.length c.1 c.2) := by kernel_rfl
    have t2 : E.den (Ph (k + 3)) (bbMem l goal cap σ.length cur (some (.d (.int p))) o8 o9 (some (.d (Nd.glue w s).toD))) (.bop false [(.cmp .Eq (.attr (.loc 10) 0) (.glob 0 (.int 6))), (.cmp .Eq (.attr (.loc 10) 0) (.glob 0 (.int 5)))]) (σ ++ col σ.length c.1 c.2) = some (.d (.bool true), σ ++ col σ.length c.1 c.2) := by kernel_rfl
    exact ite_ff t (dens_next (ite_tt t2 (dens_next (expr_den (meth _ 21 53 c.1 c.2 [.loc 10] [.d (Nd.glue w s).toD] _ rfl rfl rfl rfl (flow_glue (k + 2) hσ c.1 c.2 w s))) dens_nil)) dens_nil)
  | pen v =>
    refine dens_next (s1 := (bbMem l goal cap σ.length cur (some (.d (.int p))) o8 o9 (some (.d (Nd.pen v).toD)), σ ++ col σ.length c.1 c.2)) ?_ (keepS _)
    kernel_rfl
  | mark v =>
    refine dens_next (s1 := (bbMem l goal cap σ.length cur (some (.d (.int p))) o8 o9 (some (.d (Nd.mark v).toD)), σ ++ col σ.length c.1 c.2)) ?_ (keepS _)
    kernel_rfl

theorem prevAt_succ {l : List Nd} {p : Nat} {x : Nd} (hx : l[p]? = some x) : prevAt l (p + 1) = some x := by simp [prevAt, hx]

theorem bb_loop (k : Nat) (l : List Nd) (goal cap : Int) {σ : Sto} (hσ : Pre σ) (R : Int × Int × Int) (hR : bbGo goal cap l none (0, 0) 0 (l.length, 1073741823, 0) = R) (o7 o8 o9 o10 : Option V) :
    ∃ m' τ, forGo (stepOf (Ph (k + 3)) false [7] 2 (loopBody (f33.body.getD 5 .fail))) 0 ((List.range (l.length + 1)).map fun (i : Nat) => .int (i : Int)) (bbMem l goal cap σ.length (l.length, 1073741823, 0) o7 o8 o9 o10, σ ++ col σ.length 0 0) = some (.ret (.d (tri R)), m', σ ++ τ) := by
  refine Exists.elim (forGo_ok (step := stepOf (Ph (k + 3)) false [7] 2 (loopBody (f33.body.getD 5 .fail))) (items := (List.range (l.length + 1)).map fun (i : Nat) => .int (i : Int))
    (fun p s => p ≤ l.length ∧ ∃ c cur o7 o8 o9 o10, s = (bbMem l goal cap σ.length cur o7 o8 o9 o10, σ ++ col σ.length c.1 c.2) ∧ bbGo goal cap (l.drop p) (prevAt l p) c p cur = R)
    (fun q => ∃ m' τ, q = (.ret (.d (tri R)), m', σ ++ τ)) ?_ ?_ 0 (bbMem l goal cap σ.length (l.length, 1073741823, 0) o7 o8 o9 o10, σ ++ col σ.length 0 0) (Nat.zero_le _) ⟨Nat.zero_le _, (0, 0), _, _, _, _, _, rfl, by simpa [prevAt] using hR⟩) fun q hq => ?_
  rotate_left 2
  · obtain ⟨h1, m', τ, rfl⟩ := hq
    exact ⟨m', τ, by simpa using h1⟩
  · rintro p x s hx ⟨hp, c, cur, p7, p8, p9, p10, rfl, hgo⟩
    have hxp : x = .int (p : Int) := by
      rw [List.getElem?_map, List.getElem?_range (by omega)] at hx
      cases hx; rfl
    subst hxp
    have hpen := break_penalty_eq k l p hp (σ ++ col σ.length c.1 c.2)
    rw [penAt_L l p hp] at hpen
    have stA : ∀ r q, S.dens (Ph (k + 3)) r (bbMem l goal cap σ.length cur (some (.d (.int p))) (some (.d (optI (penL (prevAt l p) (l.drop p))))) p9 p10, σ ++ col σ.length c.1 c.2) = q →
        S.dens (Ph (k + 3)) (.assign false [.var 8] (.call 31 [(.loc 0), (.loc 7)] [] []) :: r) (bbMem l goal cap σ.length cur (some (.d (.int p))) p8 p9 p10, σ ++ col σ.length c.1 c.2) = q := by
      intro r q hq
      exact dens_next (asg_den (call_p (dens_cons (v := ns l) rfl (dens_cons (v := .d (.int p)) rfl rfl)) hpen)) hq
    have h0 : (σ ++ col σ.length c.1 c.2)[σ.length]? = some (colO σ.length c.1 c.2) := by rw [getA0]; rfl
    have go : stepOf (Ph (k + 3)) false [7] 2 (loopBody (f33.body.getD 5 .fail)) p (.int p) (bbMem l goal cap σ.length cur p7 p8 p9 p10, σ ++ col σ.length c.1 c.2) =
      S.dens (Ph (k + 3)) (.assign false [.var 8] (.call 31 [(.loc 0), (.loc 7)] [] []) :: (loopBody (f33.body.getD 5 .fail)).getD 1 .fail :: (loopBody (f33.body.getD 5 .fail)).drop 2) (bbMem l goal cap σ.length cur (some (.d (.int p))) p8 p9 p10, σ ++ col σ.length c.1 c.2) := rfl
    rw [go]
    rcases Nat.lt_or_ge p l.length with hlt | hge
    · have hxx : l[p]? = some l[p] := by simp [hlt]
      rw [List.drop_eq_getElem_cons hlt] at hgo hpen stA
      generalize l[p] = x at hxx hgo hpen stA
      rw [bbGo] at hgo
      cases hb : brk (penL (prevAt l p) (x :: l.drop (p + 1))) with
      | none =>
        rw [hb] at hgo
        refine ⟨_, stA _ _ (dens_next (bbB_none k l goal cap σ.length cur (some (.d (.int p))) p9 p10 _ _ hb) (bbCDE k l goal cap hσ cur p x hxx _ _ _ c)), hlt, _, cur, _, _, _, _, rfl, ?_⟩
        rw [prevAt_succ hxx]; exact hgo
      | some v =>
        rw [hb] at hgo
        obtain ⟨v', hv', hv⟩ := Option.bind_eq_some_iff.mp hb
        split at hv
        case isFalse => cases hv
        rename_i hlt10
        cases hv
        rw [hv'] at stA
        have hB := bbB_some k l goal cap σ.length cur p p9 p10 (σ ++ col σ.length c.1 c.2) c v hlt10 h0 (cost_here_eq k hσ c.1 c.2 goal v)
        dsimp only at hgo
        cases hs : stops goal c v with
        | true =>
          rw [hs, if_pos rfl] at hB hgo
          rw [hgo] at hB
          exact ⟨_, stA _ _ (dens_ret hB), _, _, rfl⟩
        | false =>
          rw [hs, if_neg (by decide)] at hB hgo
          refine ⟨_, stA _ _ (dens_next hB (bbCDE k l goal cap hσ _ p x hxx _ _ _ c)), hlt, _, _, _, _, _, _, rfl, ?_⟩
          rw [prevAt_succ hxx]; exact hgo
    · have he : p = l.length := by omega
      subst he
      rw [List.drop_length] at hgo hpen stA
      have hB := bbB_some k l goal cap σ.length cur l.length p9 p10 (σ ++ col σ.length c.1 c.2) c (-10000) (by decide) h0 (cost_here_eq k hσ c.1 c.2 goal (-10000))
      have hs : stops goal c (-10000) = true := by simp [stops]
      rw [hs, if_pos rfl] at hB
      rw [bbGo] at hgo
      rw [hgo] at hB
      exact ⟨_, stA _ _ (dens_ret hB), _, _, rfl⟩
  · rintro s ⟨hp, _⟩
    exfalso
    simp only [List.length_map, List.length_range] at hp
    omega

theorem items2 (σ : Sto) {i : Int} (h1 : -(2 ^ 60) ≤ i) (h2 : i ≤ 2 ^ 24) : itemsOf σ 2 (.d (.int i)) = some ((List.range i.toNat).map fun (k : Nat) => D.int (k : Int)) :=
  if_pos (Bool.and_eq_true_iff.mpr ⟨decide_eq_true h1, decide_eq_true h2⟩)

theorem best_break_eq (k : Nat) (l : List Nd) (goal cap : Int) {σ : Sto} (hσ : Pre σ) (hl : lists σ = true) (hln : l.length ≤ 2 ^ 20) (g1 : -1073741823 ≤ goal) (g2 : goal ≤ 1073741823) (c1 : -1073741823 ≤ cap) (c2 : cap ≤ 1073741823) :
    F (k + 4) 33 [ns l, .d (.int goal), .d (.int cap)] σ = some (.d (tri (bbGo goal cap l none (0, 0) 0 (l.length, 1073741823, 0))), σ) := by
  obtain ⟨m', τ, hloop⟩ := bb_loop k l goal cap hσ _ rfl none none none none
  generalize bbGo goal cap l none (0, 0) 0 (l.length, 1073741823, 0) = R at hloop ⊢
  rw [F33]
  have hcc := check_column_eq (k + 2) l σ
  have hd1 := check_dimen_eq (k + 1) goal σ g1 g2
  have hd2 := check_dimen_eq (k + 1) cap σ c1 c2
  have e : S.dens (Ph (k + 3)) f33.body ([ns l, .d (.int goal), .d (.int cap)].map some ++ List.replicate (f33.vars.length - f33.nargs) none, σ) = some (.ret (.d (tri R)), m', σ ++ τ) := by
    refine dens_next (expr_den (call_p (dens_cons (v := ns l) rfl rfl) hcc)) ?_
    refine dens_next (expr_den (call_p (dens_cons (v := .d (.int goal)) rfl rfl) hd1)) ?_
    refine dens_next (expr_den (call_p (dens_cons (v := .d (.int cap)) rfl rfl) hd2)) ?_
    refine dens_next (asg_den (col_new (k + 2) hσ _)) ?_
    refine dens_next (s1 := (bbMem l goal cap σ.length (l.length, 1073741823, 0) none none none none, σ ++ col σ.length 0 0)) (set_den (tup_d (dens_cons (len_d (v := ns l) rfl (len_lst l Nd.toD)) (dens_cons (v := .d (.int 1073741823)) rfl (dens_cons (v := .d (.int 0)) rfl rfl)))) rfl) ?_
    refine dens_ret (den_for (v := .d (.int ((l.length : Int) + 1))) (σ1 := σ ++ col σ.length 0 0) (items := (List.range (l.length + 1)).map fun (i : Nat) => .int (i : Int)) (bin_d (len_d (v := ns l) rfl (len_lst l Nd.toD)) (y := .d (.int 1)) rfl rfl) ?_ hloop)
    exact items2 _ (by omega) (by omega)
  have := run_frz (Φ := Ph (k + 3)) (f := f33) (d := tri R) rfl rfl e (by rw [List.take_left]; exact hl) rfl
  rw [List.take_left] at this
  exact this

noncomputable def tot (n : Nat) (nat : Int) : Sto := [.obj 301 [18, 14, 16] [.d (.int nat), .ref (n + 1), .ref (n + 2)], zer, zer]
theorem tot_new (k : Nat) {σ : Sto} (hσ : Pre σ) (m : Mem) : E.den (Ph (k + 1)) m (.new 301 [] []) σ = some (.ref σ.length, σ ++ tot σ.length 0) := by
  cases hσ <;> kernel_rfl
theorem widen_eq (k : Nat) {σ : Sto} (hσ : Pre σ) (nat x : Int) : F (k + 1) 41 [.ref σ.length, .d (.int x)] (σ ++ tot σ.length nat) = some (.d .none, σ ++ tot σ.length (nat + x)) := by
  cases hσ <;> kernel_rfl
theorem add_eq (k : Nat) {σ : Sto} (hσ : Pre σ) (nat w : Int) : F (k + 1) 40 [.ref σ.length, .d (glueD w)] (σ ++ tot σ.length nat) = some (.d .none, σ ++ tot σ.length (nat + w)) := by
  cases hσ <;> kernel_rfl

noncomputable def mx (a b : Int) : Int := if a < b then b else a
noncomputable def natStep (t : Int × Int × Int) (x : Nd) : Int × Int × Int := match x with
  | .glue w _ => (t.1 + t.2.2 + w, mx t.2.1 0, 0)
  | .kern w => (t.1 + (t.2.2 + w), mx t.2.1 0, 0)
  | .box _ w h d => (t.1 + (t.2.2 + h), mx t.2.1 w, d)
  | .rule w h d => (t.1 + (t.2.2 + h), mx t.2.1 w, d)
  | .pen _ => (t.1, mx t.2.1 0, t.2.2)
  | .mark _ => (t.1, mx t.2.1 0, t.2.2)
noncomputable abbrev ncMem (l : List Nd) (n : Nat) (t : Int × Int × Int) (o : Option V) : Mem := [some (ns l), some (.ref n), some (.d (.int t.2.1)), some (.d (.int t.2.2)), o]

theorem nc_step (k : Nat) (l : List Nd) {σ : Sto} (hσ : Pre σ) (t : Int × Int × Int) (x : Nd) (j : Nat) (o : Option V) :
    stepOf (Ph (k + 2)) false [4] 0 (loopBody (f25.body.getD 3 .fail)) j x.toD (ncMem l σ.length t o, σ ++ tot σ.length t.1) = some (.next, ncMem l σ.length (natStep t x) (some (.d x.toD)), σ ++ tot σ.length (natStep t x).1) := by
  have hac := across_eq k x (σ ++ tot σ.length t.1)
  have hm : ∀ nat, (σ ++ tot σ.length nat)[σ.length]? = some (.obj 301 [18, 14, 16] [.d (.int nat), .ref (σ.length + 1), .ref (σ.length + 2)]) := fun nat => by rw [getA0]; rfl
  have go : stepOf (Ph (k + 2)) false [4] 0 (loopBody (f25.body.getD 3 .fail)) j x.toD (ncMem l σ.length t o, σ ++ tot σ.length t.1) =
    S.dens (Ph (k + 2)) (loopBody (f25.body.getD 3 .fail)) (ncMem l σ.length t (some (.d x.toD)), σ ++ tot σ.length t.1) := rfl
  rw [go]
  have eA : loopBody (f25.body.getD 3 .fail) = .assign false [.var 2] (.max2 (.loc 2) (.call 23 [(.loc 4)] [] [])) :: (loopBody (f25.body.getD 3 .fail)).drop 1 := rfl
  have stA : ∀ r q, S.dens (Ph (k + 2)) r ([some (ns l), some (.ref σ.length), some (.d (.int (mx t.2.1 x.across))), some (.d (.int t.2.2)), some (.d x.toD)], σ ++ tot σ.length t.1) = q →
      S.dens (Ph (k + 2)) (.assign false [.var 2] (.max2 (.loc 2) (.call 23 [(.loc 4)] [] [])) :: r) (ncMem l σ.length t (some (.d x.toD)), σ ++ tot σ.length t.1) = q := by
    intro r q hq
    exact dens_next (asg_den (max_d (i := t.2.1) rfl (call_p (dens_cons (v := .d x.toD) rfl rfl) hac))) hq
  have M := fun (nat : Int) (m : Mem) (e : E) (mi f : Nat) (args : List E) (vs : List V) (r : Option (V × Sto)) h1 h3 h4 h5 h6 => meth_den (Φ := Ph (k + 2)) (m := m) (e := e) (mi := mi) (f := f) (args := args) (vs := vs) (r := r) (τ := σ ++ tot σ.length nat) (τ' := σ ++ tot σ.length nat) (n := σ.length) h1 (hm nat) h3 h4 h5 h6
  rw [eA]
  refine stA _ _ ?_
  cases x with
  | glue w s =>
    refine dens_next (s1 := (ncMem l σ.length (natStep t (.glue w s)) (some (.d (Nd.glue w s).toD)), σ ++ tot σ.length (t.1 + t.2.2 + w))) (ite_tt (by kernel_rfl) ?_) dens_nil
    refine dens_next (expr_den (M t.1 _ _ 26 41 [.loc 3] [.d (.int t.2.2)] _ rfl rfl rfl rfl (widen_eq (k + 1) hσ t.1 t.2.2))) ?_
    refine dens_next (expr_den (M (t.1 + t.2.2) _ _ 19 40 [.attr (.loc 4) 10] [.d (glueD w)] _ rfl rfl rfl (by kernel_rfl) (add_eq (k + 1) hσ (t.1 + t.2.2) w))) ?_
    exact dens_next (asg_den (v := .d (.int 0)) rfl) dens_nil
  | kern w =>
    refine dens_next (s1 := (ncMem l σ.length (natStep t (.kern w)) (some (.d (Nd.kern w).toD)), σ ++ tot σ.length (t.1 + (t.2.2 + w)))) (ite_ff (by kernel_rfl) ?_) dens_nil
    refine dens_next (s1 := (ncMem l σ.length (natStep t (.kern w)) (some (.d (Nd.kern w).toD)), σ ++ tot σ.length (t.1 + (t.2.2 + w)))) (ite_tt (by kernel_rfl) ?_) dens_nil
    refine dens_next (expr_den (M t.1 _ _ 26 41 [.bin .Add (.loc 3) (.attr (.loc 4) 1)] [.d (.int (t.2.2 + w))] _ rfl rfl rfl (by kernel_rfl) (widen_eq (k + 1) hσ t.1 (t.2.2 + w)))) ?_
    exact dens_next (asg_den (v := .d (.int 0)) rfl) dens_nil
  | box v w h d =>
    have hh := height_of_eq (k + 1) (.box v w h d) (σ ++ tot σ.length t.1)
    have hdp := depth_of_eq (k + 1) (.box v w h d) (σ ++ tot σ.length (t.1 + (t.2.2 + h)))
    refine dens_next (s1 := (ncMem l σ.length (natStep t (.box v w h d)) (some (.d (Nd.box v w h d).toD)), σ ++ tot σ.length (t.1 + (t.2.2 + h)))) (ite_ff (by cases v <;> kernel_rfl) ?_) dens_nil
    refine dens_next (s1 := (ncMem l σ.length (natStep t (.box v w h d)) (some (.d (Nd.box v w h d).toD)), σ ++ tot σ.length (t.1 + (t.2.2 + h)))) (ite_ff (by cases v <;> kernel_rfl) ?_) dens_nil
    refine dens_next (s1 := (ncMem l σ.length (natStep t (.box v w h d)) (some (.d (Nd.box v w h d).toD)), σ ++ tot σ.length (t.1 + (t.2.2 + h)))) (ite_tt (by cases v <;> kernel_rfl) ?_) dens_nil
    refine dens_next (expr_den (M t.1 _ _ 26 41 [.bin .Add (.loc 3) (.call 19 [(.loc 4)] [] [])] [.d (.int (t.2.2 + h))] _ rfl rfl rfl (dens_cons (bin_d (x := .d (.int t.2.2)) rfl (call_p (dens_cons rfl rfl) hh) rfl) rfl) (widen_eq (k + 1) hσ t.1 (t.2.2 + h)))) ?_
    exact dens_next (asg_den (v := .d (.int d)) (call_p (dens_cons rfl rfl) hdp)) dens_nil
  | rule w h d =>
    have hh := height_of_eq (k + 1) (.rule w h d) (σ ++ tot σ.length t.1)
    have hdp := depth_of_eq (k + 1) (.rule w h d) (σ ++ tot σ.length (t.1 + (t.2.2 + h)))
    refine dens_next (s1 := (ncMem l σ.length (natStep t (.rule w h d)) (some (.d (Nd.rule w h d).toD)), σ ++ tot σ.length (t.1 + (t.2.2 + h)))) (ite_ff (by kernel_rfl) ?_) dens_nil
    refine dens_next (s1 := (ncMem l σ.length (natStep t (.rule w h d)) (some (.d (Nd.rule w h d).toD)), σ ++ tot σ.length (t.1 + (t.2.2 + h)))) (ite_ff (by kernel_rfl) ?_) dens_nil
    refine dens_next (s1 := (ncMem l σ.length (natStep t (.rule w h d)) (some (.d (Nd.rule w h d).toD)), σ ++ tot σ.length (t.1 + (t.2.2 + h)))) (ite_tt (by kernel_rfl) ?_) dens_nil
    refine dens_next (expr_den (M t.1 _ _ 26 41 [.bin .Add (.loc 3) (.call 19 [(.loc 4)] [] [])] [.d (.int (t.2.2 + h))] _ rfl rfl rfl (dens_cons (bin_d (x := .d (.int t.2.2)) rfl (call_p (dens_cons rfl rfl) hh) rfl) rfl) (widen_eq (k + 1) hσ t.1 (t.2.2 + h)))) ?_
    exact dens_next (asg_den (v := .d (.int d)) (call_p (dens_cons rfl rfl) hdp)) dens_nil
  | pen v => exact dens_next (s1 := (ncMem l σ.length (natStep t (.pen v)) (some (.d (Nd.pen v).toD)), σ ++ tot σ.length t.1)) (by kernel_rfl) dens_nil
  | mark v => exact dens_next (s1 := (ncMem l σ.length (natStep t (.mark v)) (some (.d (Nd.mark v).toD)), σ ++ tot σ.length t.1)) (by kernel_rfl) dens_nil

theorem natural_eq (k : Nat) (l : List Nd) {σ : Sto} (hσ : Pre σ) : F (k + 3) 25 [ns l] σ =
    some (.tup [.ref σ.length, .d (.int (l.foldl natStep (0, 0, 0)).2.1), .d (.int (l.foldl natStep (0, 0, 0)).2.2)], σ ++ tot σ.length (l.foldl natStep (0, 0, 0)).1) := by
  have loop : ∀ (r : List Nd) (j : Nat) (t : Int × Int × Int) (o : Option V), ∃ o', forGo (stepOf (Ph (k + 2)) false [4] 0 (loopBody (f25.body.getD 3 .fail))) j (r.map Nd.toD) (ncMem l σ.length t o, σ ++ tot σ.length t.1) =
      some (.next, ncMem l σ.length (r.foldl natStep t) o', σ ++ tot σ.length (r.foldl natStep t).1) := by
    intro r
    induction r with
    | nil => intro j t o; exact ⟨o, rfl⟩
    | cons x r ih =>
      intro j t o
      obtain ⟨o', h⟩ := ih (j + 1) (natStep t x) (some (.d x.toD))
      refine ⟨o', ?_⟩
      rw [List.map_cons, forGo, nc_step k l hσ t x j o]
      exact h
  obtain ⟨o', h⟩ := loop l 0 (0, 0, 0) none
  have hcc := check_column_eq (k + 1) l σ
  rw [F25]
  refine run_ret (m' := ncMem l σ.length (l.foldl natStep (0, 0, 0)) o') rfl rfl ?_
  refine dens_next (s1 := ([some (ns l), none, none, none, none], σ)) (expr_den (call_p (dens_cons (v := ns l) rfl rfl) hcc)) ?_
  refine dens_next (asg_den (tot_new (k + 1) hσ _)) ?_
  refine dens_next (s1 := (ncMem l σ.length (0, 0, 0) none, σ ++ tot σ.length 0)) rfl ?_
  refine dens_next (den_for (items := l.map Nd.toD) rfl rfl h) ?_
  exact dens_ret rfl

noncomputable def rep (ex : Int) : D := if ex = 0 then .tup [.int 0, .int 0] else if 0 < ex then .tup [.int 1, .int 10000] else .tup [.int 3, .int (-ex)]
theorem top_st (k : Nat) {σ : Sto} (hσ : Pre σ) (nat : Int) (bx : MObj) : F (k + 2) 42 [.ref σ.length] (σ ++ (tot σ.length nat ++ [bx])) = some (.d (.int 0), σ ++ (tot σ.length nat ++ [bx])) := by
  cases hσ <;> kernel_rfl
theorem top_sh (k : Nat) {σ : Sto} (hσ : Pre σ) (nat : Int) (bx : MObj) : F (k + 2) 43 [.ref σ.length] (σ ++ (tot σ.length nat ++ [bx])) = some (.d (.int 0), σ ++ (tot σ.length nat ++ [bx])) := by
  cases hσ <;> kernel_rfl

theorem rep_pos {ex : Int} (e0 : ¬ ex = 0) (hp : 0 < ex) : rep ex = .tup [.int 1, .int 10000] := by rw [rep, if_neg e0, if_pos hp]
theorem rep_neg {ex : Int} (e0 : ¬ ex = 0) (hp : ¬ 0 < ex) : rep ex = .tup [.int 3, .int (-ex)] := by rw [rep, if_neg e0, if_neg hp]
noncomputable abbrev sgMem (n : Nat) (ex : Int) (o2 o3 o4 : Option V) : Mem := [some (.ref n), some (.d (.int ex)), o2, o3, o4]
theorem set_glue_eq (k : Nat) {σ : Sto} (hσ : Pre σ) (nat ex : Int) (bx : MObj) : F (k + 3) 27 [.ref σ.length, .d (.int ex)] (σ ++ (tot σ.length nat ++ [bx])) =
    some (.d (.tup [.int 0, .int 0, .tup [.int 0, .int 1], rep ex]), σ ++ (tot σ.length nat ++ [bx])) := by
  have t0 : (σ ++ (tot σ.length nat ++ [bx]))[σ.length]? = some (.obj 301 [18, 14, 16] [.d (.int nat), .ref (σ.length + 1), .ref (σ.length + 2)]) := getA0 _ _
  have t1 : (σ ++ (tot σ.length nat ++ [bx]))[σ.length + 1]? = some zer := getA _ _ 1
  have t2 : (σ ++ (tot σ.length nat ++ [bx]))[σ.length + 2]? = some zer := getA _ _ 2
  have h42 := top_st k hσ nat bx
  have h43 := top_sh k hσ nat bx
  generalize σ ++ (tot σ.length nat ++ [bx]) = T at *
  generalize σ.length = n at *
  have a14 : attrV (Ph (k + 2)) T (.ref n) 14 = some (.ref (n + 1)) := bind_r t0 rfl
  have a16 : attrV (Ph (k + 2)) T (.ref n) 16 = some (.ref (n + 2)) := bind_r t0 rfl
  have i14 : idxV T (.ref (n + 1)) 0 = some (.d (.int 0)) := bind_r t1 rfl
  have i16 : idxV T (.ref (n + 2)) 0 = some (.d (.int 0)) := bind_r t2 rfl
  by_cases e0 : ex = 0
  · subst e0
    exact (F27 _ _ _).trans (run_ret (m' := sgMem n 0 none none none) rfl rfl (dens_ret (by kernel_rfl)))
  have hb := badness0_eq (k + 1) (if ex < 0 then -ex else ex) T (by split <;> omega)
  rw [if_neg (show ¬ (if ex < 0 then -ex else ex) = 0 by split <;> omega)] at hb
  have hc : ∀ {o2 o3 o4 b}, decide (0 < ex) = b → E.den (Ph (k + 2)) (sgMem n ex o2 o3 o4) (.cmp .Gt (.loc 1) (.lit (.int 0))) T = some (.d (.bool b), T) := fun h => cmp_d (x := .d (.int ex)) (y := .d (.int 0)) rfl rfl (congrArg some h)
  have h0 : S.den (Ph (k + 2)) (f27.body.getD 0 .fail) (sgMem n ex none none none, T) = some (.next, sgMem n ex none none none, T) := ite_ff (cmp_d (x := .d (.int ex)) (y := .d (.int 0)) rfl rfl (c_eq_f e0)) dens_nil
  by_cases hp : 0 < ex
  · rw [rep_pos e0 hp]
    have hc := fun {o2 o3 o4} => hc (o2 := o2) (o3 := o3) (o4 := o4) (decide_eq_true hp)
    refine (F27 _ _ _).trans (run_ret (m' := sgMem n ex (some (.d (.int 0))) (some (.d (.int 0))) (some (.d (.tup [.int 1, .int 10000])))) rfl rfl (dens_next h0 ?_))
    refine dens_next (asg_den (τ' := T) (v := .d (.int 0)) (ite_d hc (meth_den (vs := []) rfl t0 rfl (me_301_25 _) rfl h42))) ?_
    refine dens_next (asg_den (τ' := T) (v := .d (.int 0)) (ite_d hc (idx_v (j := 0) (attr_d rfl a14) rfl i14))) ?_
    refine dens_next (asg_den (τ' := T) (v := .d (.tup [.int 0, .int 0])) rfl) ?_
    refine dens_next (ite_tt (τ := T) (cmp_d (x := .d (.int 0)) (y := .d (.int 0)) rfl rfl rfl) (dens_next (asg_den (τ' := T) (v := .d (.tup [.int 1, .int 10000])) (tup_d (vs := [.d (.int 1), .d (.int 10000)]) (dens_cons (ite_d hc rfl) (dens_cons (call_p rfl hb) rfl)))) dens_nil)) ?_
    refine dens_next (ite_ff (τ := T) (bop_d (and_d (b := true) rfl (and_f (cmp_d (x := .d (.int ex)) (y := .d (.int 0)) rfl rfl (c_lt_f (Int.lt_asymm hp)))))) dens_nil) ?_
    exact dens_ret (ite_tt (by kernel_rfl) (dens_ret (by kernel_rfl)))
  · rw [rep_neg e0 hp]
    have hn : ex < 0 := by omega
    have hc := fun {o2 o3 o4} => hc (o2 := o2) (o3 := o3) (o4 := o4) (decide_eq_false hp)
    refine (F27 _ _ _).trans (run_ret (m' := sgMem n ex (some (.d (.int 0))) (some (.d (.int 0))) (some (.d (.tup [.int 3, .int (-ex)])))) rfl rfl (dens_next h0 ?_))
    refine dens_next (asg_den (τ' := T) (v := .d (.int 0)) (ite_d hc (meth_den (vs := []) rfl t0 rfl (me_301_23 _) rfl h43))) ?_
    refine dens_next (asg_den (τ' := T) (v := .d (.int 0)) (ite_d hc (idx_v (j := 0) (attr_d rfl a16) rfl i16))) ?_
    refine dens_next (asg_den (τ' := T) (v := .d (.tup [.int 0, .int 0])) rfl) ?_
    refine dens_next (ite_tt (τ := T) (cmp_d (x := .d (.int 0)) (y := .d (.int 0)) rfl rfl rfl) (dens_next (asg_den (τ' := T) (v := .d (.tup [.int 2, .int 10000])) (tup_d (vs := [.d (.int 2), .d (.int 10000)]) (dens_cons (ite_d hc rfl) (dens_cons (call_p rfl hb) rfl)))) dens_nil)) ?_
    refine dens_next (ite_tt (τ := T) (bop_d (and_d (b := true) rfl (and_d (b := true) (cmp_d (x := .d (.int ex)) (y := .d (.int 0)) rfl rfl (c_lt_t hn)) (and_1 (b := true) (cmp_d (x := .d (.int 0)) (y := .d (.int (-ex))) rfl rfl (c_lt_t (Int.neg_pos_of_neg hn))))))) (dens_next (asg_den (τ' := T) (v := .d (.tup [.int 3, .int (-ex)])) (tup_d (vs := [.d (.int 3), .d (.int (-ex))]) (dens_cons (v := .d (.int 3)) rfl (dens_cons (v := .d (.int (-ex))) (bin_d (x := .d (.int (-ex))) (y := .d (.int 0)) rfl rfl ((b_sub (-ex) 0).trans (by rw [Int.sub_zero]))) rfl)))) dens_nil)) ?_
    exact dens_ret (ite_tt (by kernel_rfl) (dens_ret (by kernel_rfl)))

theorem goal_size_eq (k : Nat) (own mode amount : Int) (τ : Sto) (hm : mode = 0 ∨ mode = 1) (h1 : -1073741823 ≤ amount) (h2 : amount ≤ 1073741823) :
    F (k + 3) 28 [.d (.int own), .d (.int mode), .d (.int amount)] τ = some (.d (.int (if mode = 0 then amount else own + amount)), τ) := by
  have hd := check_dimen_eq k amount τ h1 h2
  rcases hm with rfl | rfl
  · exact (F28 _ _ _).trans (run_ret (m' := [some (.d (.int own)), some (.d (.int 0)), some (.d (.int amount))]) rfl rfl (dens_next (s1 := ([some (.d (.int own)), some (.d (.int 0)), some (.d (.int amount))], τ)) (by kernel_rfl) (dens_next (expr_den (call_p (dens_cons (v := .d (.int amount)) rfl rfl) hd)) (dens_ret (ret_den (by kernel_rfl))))))
  · exact (F28 _ _ _).trans (run_ret (m' := [some (.d (.int own)), some (.d (.int 1)), some (.d (.int amount))]) rfl rfl (dens_next (s1 := ([some (.d (.int own)), some (.d (.int 1)), some (.d (.int amount))], τ)) (by kernel_rfl) (dens_next (expr_den (call_p (dens_cons (v := .d (.int amount)) rfl rfl) hd)) (dens_ret (ret_den (by kernel_rfl))))))

noncomputable def boxV (kd w h d : Int) (its : D) : MObj := .obj 342 [0, 1, 2, 3, 4, 5, 6, 7, 8] [.d (.int kd), .d (.int w), .d (.int h), .d (.int d), .d its, .d (.int 0), .d (.int 0), .d (.int 0), .d (.tup [.int 0, .int 1])]
noncomputable def boxD (kd w h d : Int) (its : D) : D := .obj 342 [0, 1, 2, 3, 4, 5, 6, 7, 8] [.int kd, .int w, .int h, .int d, its, .int 0, .int 0, .int 0, .tup [.int 0, .int 1]]
theorem box_init (k : Nat) (T : Sto) (kd w h d : Int) (its : D) (hk : kd = 2 ∨ kd = 3) (w1 : -1073741823 ≤ w) (w2 : w ≤ 1073741823) (h1 : -1073741823 ≤ h) (h2 : h ≤ 1073741823) (d1 : -1073741823 ≤ d) (d2 : d ≤ 1073741823) :
    F (k + 3) 44 [.ref T.length, .d (.int kd), .d (.int w), .d (.int h), .d (.int d), .d its] (T ++ [.obj 342 [] []]) = some (.d .none, T ++ [boxV kd w h d its]) := by
  have hw := fun τ => check_dimen_eq k w τ w1 w2
  have hh := fun τ => check_dimen_eq k h τ h1 h2
  have hd := fun τ => check_dimen_eq k d τ d1 d2
  have hiw := fun τ => is_whole_eq (k + 1) kd 2 3 τ
  rw [F44]
  refine run_next (m' := [some (.ref T.length), some (.d (.int kd)), some (.d (.int w)), some (.d (.int h)), some (.d (.int d)), some (.d its)]) rfl rfl ?_
  refine dens_next (s1 := ([some (.ref T.length), some (.d (.int kd)), some (.d (.int w)), some (.d (.int h)), some (.d (.int d)), some (.d its)], T ++ [.obj 342 [] []])) (ite_ff ?_ rfl) ?_
  · exact not_d (b := true) (call_p (dens_cons (v := .d (.int kd)) rfl (dens_cons (v := .d (.int 2)) rfl (dens_cons (v := .d (.int 3)) rfl rfl))) ((hiw _).trans (by rcases hk with rfl | rfl <;> rfl)))
  refine dens_next (attr_asg (v := .d (.int kd)) rfl rfl rfl (Nat.le_of_ble_eq_true rfl)) ?_
  refine dens_next (attr_asg (v := .d (.int w)) rfl (call_p (dens_cons (v := .d (.int w)) rfl rfl) (hw _)) rfl (Nat.le_of_ble_eq_true rfl)) ?_
  refine dens_next (attr_asg (v := .d (.int h)) rfl (call_p (dens_cons (v := .d (.int h)) rfl rfl) (hh _)) rfl (Nat.le_of_ble_eq_true rfl)) ?_
  refine dens_next (attr_asg (v := .d (.int d)) rfl (call_p (dens_cons (v := .d (.int d)) rfl rfl) (hd _)) rfl (Nat.le_of_ble_eq_true rfl)) ?_
  refine dens_next (attr_asg (v := .d its) rfl rfl rfl (Nat.le_of_ble_eq_true rfl)) ?_
  refine dens_next (attr_asg (v := .d (.int 0)) rfl rfl rfl (Nat.le_of_ble_eq_true rfl)) ?_
  refine dens_next (attr_asg (v := .d (.int 0)) rfl rfl rfl (Nat.le_of_ble_eq_true rfl)) ?_
  refine dens_next (attr_asg (v := .d (.int 0)) rfl rfl rfl (Nat.le_of_ble_eq_true rfl)) ?_
  refine dens_next (attr_asg (v := .d (.tup [.int 0, .int 1])) rfl rfl rfl (Nat.le_of_ble_eq_true rfl)) ?_
  rfl

theorem set_box_eq (k : Nat) {σ : Sto} (hσ : Pre σ) (nat ex kd w h d : Int) (x : D) (l : List D) : F (k + 4) 29 [.ref (σ.length + 3), .ref σ.length, .d (.int ex)] (σ ++ (tot σ.length nat ++ [boxV kd w h d (.lst (x :: l))])) =
    some (.d (rep ex), σ ++ (tot σ.length nat ++ [boxV kd w h d (.lst (x :: l))])) := by
  have hg := set_glue_eq k hσ nat ex (boxV kd w h d (.lst (x :: l)))
  rw [F29]
  refine run_ret (m' := [some (.ref (σ.length + 3)), some (.ref σ.length), some (.d (.int ex)), some (.d (rep ex))]) rfl rfl ?_
  refine dens_next (s1 := ([some (.ref (σ.length + 3)), some (.ref σ.length), some (.d (.int ex)), some (.d (rep ex))], σ ++ (tot σ.length nat ++ [boxV kd w h d (.lst (x :: l))]))) ?_ ?_
  · exact set_den (call_p (dens_cons (v := .ref σ.length) rfl (dens_cons (v := .d (.int ex)) rfl rfl)) hg) (by cases hσ <;> kernel_rfl)
  · exact dens_ret (ret_den (by cases hσ <;> kernel_rfl))

theorem box_new (k : Nat) {m : Mem} {es : List E} {τ τ' : Sto} {kd w h d : Int} {its : D} (he : E.dens (Ph (k + 3)) m es τ = some ([.d (.int kd), .d (.int w), .d (.int h), .d (.int d), .d its], τ')) (hk : kd = 2 ∨ kd = 3) (w1 : -1073741823 ≤ w) (w2 : w ≤ 1073741823) (h1 : -1073741823 ≤ h) (h2 : h ≤ 1073741823) (d1 : -1073741823 ≤ d) (d2 : d ≤ 1073741823) :
    E.den (Ph (k + 3)) m (.new 342 es []) τ = some (.ref τ'.length, τ' ++ [boxV kd w h d its]) := by
  exact new_ref he (in_342 _) (by rw [Ph_fn]; exact box_init k τ' kd w h d its hk w1 w2 h1 h2 d1 d2) (fz_342 _)

structure Pk where
  nat : Int
  wd : Int
  dp : Int
noncomputable def natOf (l : List Nd) (most : Int) : Pk :=
  let t := l.foldl natStep (0, 0, 0)
  ⟨if most < t.2.2 then t.1 + (t.2.2 - most) else t.1, t.2.1, if most < t.2.2 then most else t.2.2⟩
theorem vpack_eq (k : Nat) (x : Nd) (r : List Nd) {σ : Sto} (hσ : Pre σ) (hl : lists σ = true) (mode amount most : Int) (hm : mode = 0 ∨ mode = 1) (a1 : -1073741823 ≤ amount) (a2 : amount ≤ 1073741823) (m1 : -1073741823 ≤ most) (m2 : most ≤ 1073741823)
    (P : Pk) (hP : natOf (x :: r) most = P) (ht : Int) (hht : ht = if mode = 0 then amount else P.nat + amount) (w1 : -1073741823 ≤ P.wd) (w2 : P.wd ≤ 1073741823) (h1 : -1073741823 ≤ ht) (h2 : ht ≤ 1073741823) (d1 : -1073741823 ≤ P.dp) (d2 : P.dp ≤ 1073741823) :
    F (k + 5) 30 [ns (x :: r), .d (.int mode), .d (.int amount), .d (.int most)] σ = some (.d (.tup [boxD 3 P.wd ht P.dp (.lst ((x :: r).map Nd.toD)), rep (ht - P.nat)]), σ) := by
  have hd := check_dimen_eq (k + 2) most σ m1 m2
  have hn := natural_eq (k + 1) (x :: r) hσ
  have e1 : P.nat = if most < ((x :: r).foldl natStep (0, 0, 0)).2.2 then ((x :: r).foldl natStep (0, 0, 0)).1 + (((x :: r).foldl natStep (0, 0, 0)).2.2 - most) else ((x :: r).foldl natStep (0, 0, 0)).1 := by rw [← hP]; rfl
  have e2 : P.wd = ((x :: r).foldl natStep (0, 0, 0)).2.1 := by rw [← hP]; rfl
  have e3 : P.dp = if most < ((x :: r).foldl natStep (0, 0, 0)).2.2 then most else ((x :: r).foldl natStep (0, 0, 0)).2.2 := by rw [← hP]; rfl
  rw [← e2] at hn
  generalize ((x :: r).foldl natStep (0, 0, 0)).1 = nat0 at *
  generalize ((x :: r).foldl natStep (0, 0, 0)).2.2 = dp0 at *
  have hgs := goal_size_eq (k + 1) P.nat mode amount (σ ++ tot σ.length P.nat) hm a1 a2
  rw [← hht] at hgs
  have tl : (σ ++ tot σ.length P.nat).length = σ.length + 3 := by simp [tot]
  have ta : (σ ++ tot σ.length P.nat) ++ [boxV 3 P.wd ht P.dp (.lst ((x :: r).map Nd.toD))] = σ ++ (tot σ.length P.nat ++ [boxV 3 P.wd ht P.dp (.lst ((x :: r).map Nd.toD))]) := List.append_assoc _ _ _
  have hsb := set_box_eq k hσ P.nat (ht - P.nat) 3 P.wd ht P.dp x.toD (r.map Nd.toD)
  have t0 : ∀ nat τ, (σ ++ (tot σ.length nat ++ τ))[σ.length]? = some (.obj 301 [18, 14, 16] [.d (.int nat), .ref (σ.length + 1), .ref (σ.length + 2)]) := fun nat τ => by rw [getA0]; rfl
  have t0' : ∀ nat, (σ ++ tot σ.length nat)[σ.length]? = some (.obj 301 [18, 14, 16] [.d (.int nat), .ref (σ.length + 1), .ref (σ.length + 2)]) := fun nat => by rw [getA0]; rfl
  rw [F30]
  have main : S.dens (Ph (k + 4)) f30.body ([ns (x :: r), .d (.int mode), .d (.int amount), .d (.int most)].map some ++ List.replicate (f30.vars.length - f30.nargs) none, σ) =
      some (.ret (.tup [.ref (σ.length + 3), .d (rep (ht - P.nat))]), [some (ns (x :: r)), some (.d (.int mode)), some (.d (.int amount)), some (.d (.int most)), some (.ref σ.length), some (.d (.int P.wd)), some (.d (.int P.dp)), some (.d (.int ht)), some (.ref (σ.length + 3))],
        σ ++ (tot σ.length P.nat ++ [boxV 3 P.wd ht P.dp (.lst ((x :: r).map Nd.toD))])) := by
    refine dens_next (s1 := ([some (ns (x :: r)), some (.d (.int mode)), some (.d (.int amount)), some (.d (.int most)), none, none, none, none, none], σ)) (expr_den (call_p (dens_cons (v := .d (.int most)) rfl rfl) hd)) ?_
    refine dens_next (s1 := ([some (ns (x :: r)), some (.d (.int mode)), some (.d (.int amount)), some (.d (.int most)), some (.ref σ.length), some (.d (.int P.wd)), some (.d (.int dp0)), none, none], σ ++ tot σ.length nat0)) ?_ ?_
    · exact set_den (call_p (dens_cons (v := ns (x :: r)) rfl rfl) hn) rfl
    refine dens_next (s1 := ([some (ns (x :: r)), some (.d (.int mode)), some (.d (.int amount)), some (.d (.int most)), some (.ref σ.length), some (.d (.int P.wd)), some (.d (.int P.dp)), none, none], σ ++ tot σ.length P.nat)) ?_ ?_
    · by_cases q : most < dp0
      · rw [if_pos q] at e1 e3
        rw [e1, e3]
        refine ite_tt (cmp_d (x := .d (.int dp0)) (y := .d (.int most)) rfl rfl (c_gt_t q)) ?_
        refine dens_next (expr_den (meth_den (n := σ.length) (τ' := σ ++ tot σ.length nat0) (vs := [.d (.int (dp0 - most))]) rfl (t0' nat0) rfl (me_301_26 _) (dens_cons (bin_d (x := .d (.int dp0)) (y := .d (.int most)) rfl rfl rfl) rfl) (widen_eq (k + 3) hσ nat0 (dp0 - most)))) ?_
        exact dens_next (asg_den (v := .d (.int most)) rfl) dens_nil
      · rw [if_neg q] at e1 e3
        rw [e1, e3]
        exact ite_ff (cmp_d (x := .d (.int dp0)) (y := .d (.int most)) rfl rfl (c_gt_f q)) rfl
    refine dens_next (asg_den (τ' := σ ++ tot σ.length P.nat) (v := .d (.int ht)) (call_p (dens_cons (v := .d (.int P.nat)) (attr_d rfl (bind_r (t0' P.nat) rfl)) (dens_cons (v := .d (.int mode)) rfl (dens_cons (v := .d (.int amount)) rfl rfl))) hgs)) ?_
    refine dens_next (s1 := ([some (ns (x :: r)), some (.d (.int mode)), some (.d (.int amount)), some (.d (.int most)), some (.ref σ.length), some (.d (.int P.wd)), some (.d (.int P.dp)), some (.d (.int ht)), some (.ref (σ.length + 3))], σ ++ (tot σ.length P.nat ++ [boxV 3 P.wd ht P.dp (.lst ((x :: r).map Nd.toD))]))) ?_ ?_
    · rw [← ta, ← tl]
      exact asg_den (box_new (k + 1) (τ' := σ ++ tot σ.length P.nat) (its := .lst ((x :: r).map Nd.toD)) rfl (.inr rfl) w1 w2 h1 h2 d1 d2)
    have t0T := t0 P.nat [boxV 3 P.wd ht P.dp (.lst (x.toD :: r.map Nd.toD))]
    rw [List.map_cons]
    generalize σ ++ (tot σ.length P.nat ++ [boxV 3 P.wd ht P.dp (.lst (x.toD :: r.map Nd.toD))]) = T at t0T hsb ⊢
    exact dens_ret (ret_den (tup_d (vs := [.ref (σ.length + 3), .d (rep (ht - P.nat))]) (dens_cons rfl (dens_cons (call_p (dens_cons (v := .ref (σ.length + 3)) rfl (dens_cons (v := .ref σ.length) rfl (dens_cons (bin_d (x := .d (.int ht)) (y := .d (.int P.nat)) rfl (attr_d rfl (bind_r t0T rfl)) rfl) rfl))) hsb) rfl))))
  have hz : freezeV σ.length (σ ++ (tot σ.length P.nat ++ [boxV 3 P.wd ht P.dp (.lst ((x :: r).map Nd.toD))])) (.tup [.ref (σ.length + 3), .d (rep (ht - P.nat))]) = some (.tup [boxD 3 P.wd ht P.dp (.lst ((x :: r).map Nd.toD)), rep (ht - P.nat)]) := by
    exact freeze_two (freeze_obj (Nat.le_add_right _ _) (getA _ _ 3) rfl) rfl
  have := run_frz (Φ := Ph (k + 4)) (f := f30) rfl rfl main (by rw [List.take_left]; exact hl) hz
  rw [List.take_left] at this
  exact this

theorem glue_init (k : Nat) (T : Sto) (w : Int) (w1 : -1073741823 ≤ w) (w2 : w ≤ 1073741823) :
    F (k + 3) 38 [.ref T.length, .d (.int w), .d (.int 0), .d (.int 0), .d (.int 0), .d (.int 0)] (T ++ [.obj 238 [] []]) = some (.d .none, T ++ [.obj 238 [1, 14, 15, 16, 17] [.d (.int w), .d (.int 0), .d (.int 0), .d (.int 0), .d (.int 0)]]) := by
  have hw := fun τ => check_dimen_eq k w τ w1 w2
  rw [F38]
  refine run_next (m' := [some (.ref T.length), some (.d (.int w)), some (.d (.int 0)), some (.d (.int 0)), some (.d (.int 0)), some (.d (.int 0))]) rfl rfl ?_
  refine dens_next (s1 := ([some (.ref T.length), some (.d (.int w)), some (.d (.int 0)), some (.d (.int 0)), some (.d (.int 0)), some (.d (.int 0))], T ++ [.obj 238 [] []])) (ite_ff (by kernel_rfl) rfl) ?_
  refine dens_next (attr_asg (v := .d (.int w)) rfl (call_p (dens_cons (v := .d (.int w)) rfl rfl) (hw _)) rfl (Nat.le_of_ble_eq_true rfl)) ?_
  refine dens_next (attr_asg (v := .d (.int 0)) rfl (by kernel_rfl) rfl (Nat.le_of_ble_eq_true rfl)) ?_
  refine dens_next (attr_asg (v := .d (.int 0)) rfl (by kernel_rfl) rfl (Nat.le_of_ble_eq_true rfl)) ?_
  refine dens_next (attr_asg (v := .d (.int 0)) rfl (by kernel_rfl) rfl (Nat.le_of_ble_eq_true rfl)) ?_
  refine dens_next (attr_asg (v := .d (.int 0)) rfl (by kernel_rfl) rfl (Nat.le_of_ble_eq_true rfl)) ?_
  rfl
theorem glue_new (k : Nat) {m : Mem} {es : List E} {dfl : List D} {τ τ' : Sto} {vs : List V} {w : Int} (he : E.dens (Ph (k + 3)) m es τ = some (vs, τ')) (hv : vs ++ dfl.map .d = [.d (.int w), .d (.int 0), .d (.int 0), .d (.int 0), .d (.int 0)]) (w1 : -1073741823 ≤ w) (w2 : w ≤ 1073741823) (hl : lists τ' = true) :
    E.den (Ph (k + 3)) m (.new 238 es dfl) τ = some (.d (glueD w), τ') :=
  new_frz (f := 38) (ks := [1, 14, 15, 16, 17]) (vs' := [.d (.int w), .d (.int 0), .d (.int 0), .d (.int 0), .d (.int 0)]) (ds := [.int w, .int 0, .int 0, .int 0, .int 0]) he (in_238 _) (by rw [hv, Ph_fn]; exact glue_init k τ' w w1 w2) (fz_238 _) hl rfl
theorem skip_init (k : Nat) (T : Sto) (g : D) (s : Int) (hs : s = 0 ∨ s = 108) :
    F (k + 2) 47 [.ref T.length, .d g, .d (.int s), .d .none] (T ++ [.obj 406 [] []]) = some (.d .none, T ++ [.obj 406 [10, 9, 11] [.d g, .d (.int s), .d .none]]) := by
  rw [F47]
  refine run_next (m' := [some (.ref T.length), some (.d g), some (.d (.int s)), some (.d .none)]) rfl rfl ?_
  refine dens_next (s1 := ([some (.ref T.length), some (.d g), some (.d (.int s)), some (.d .none)], T ++ [.obj 406 [] []])) (by rcases hs with rfl | rfl <;> kernel_rfl) ?_
  refine dens_next (s1 := ([some (.ref T.length), some (.d g), some (.d (.int s)), some (.d .none)], T ++ [.obj 406 [] []])) (by rcases hs with rfl | rfl <;> kernel_rfl) ?_
  refine dens_next (s1 := ([some (.ref T.length), some (.d g), some (.d (.int s)), some (.d .none)], T ++ [.obj 406 [] []])) (by kernel_rfl) ?_
  refine dens_next (attr_asg (v := .d g) rfl rfl rfl (Nat.le_of_ble_eq_true rfl)) ?_
  refine dens_next (attr_asg (v := .d (.int s)) rfl rfl rfl (Nat.le_of_ble_eq_true rfl)) ?_
  refine dens_next (attr_asg (v := .d .none) rfl rfl rfl (Nat.le_of_ble_eq_true rfl)) ?_
  rfl
theorem skip_new (k : Nat) {m : Mem} {es : List E} {τ τ' : Sto} {w s : Int} (he : E.dens (Ph (k + 2)) m es τ = some ([.d (glueD w), .d (.int s)], τ')) (hs : s = 0 ∨ s = 108) (hl : lists τ' = true) :
    E.den (Ph (k + 2)) m (.new 406 es [.none]) τ = some (.d (Nd.glue w s).toD, τ') :=
  new_frz (f := 47) (ks := [10, 9, 11]) (vs' := [.d (glueD w), .d (.int s), .d .none]) (ds := [glueD w, .int s, .none]) he (in_406 _) (by rw [Ph_fn]; exact skip_init k τ' (glueD w) s hs) (fz_406 _) hl rfl

noncomputable def pruneOf (tw : Int) (r : List Nd) : List Nd := match r with
  | [] => []
  | x :: r' => .glue (mx 0 (tw - x.hgt)) 108 :: x :: r'
noncomputable abbrev prMem (l : List Nd) (tw : Int) (n : Nat) (o3 o4 o5 o6 : Option V) : Mem := [some (ns l), some (.d (glueD tw)), some (.ref n), o3, o4, o5, o6]
theorem pruned_eq (k : Nat) (dl r : List Nd) (tw : Int) {σ : Sto} (hσ : Pre σ) (hl : lists σ = true) (hd : ∀ x ∈ dl, x.disc = true) (hr : ∀ x ∈ r.head?, x.stands = true) (hb : ∀ x ∈ r.head?, -1073741823 ≤ mx 0 (tw - x.hgt) ∧ mx 0 (tw - x.hgt) ≤ 1073741823) (hz : (dl ++ r).length ≤ 2 ^ 20) :
    F (k + 4) 35 [ns (dl ++ r), .d (glueD tw)] σ = some (.d (.lst ((pruneOf tw r).map Nd.toD)), σ) := by
  have hl2 : lists (σ ++ [.lst []]) = true := by simp only [lists, List.all_append, Bool.and_eq_true]; exact ⟨hl, rfl⟩
  have loop : ∃ p, forGo (stepOf (Ph (k + 3)) false [3] 2 (loopBody (f35.body.getD 1 .fail))) 0 ((List.range (dl ++ r).length).map fun (i : Nat) => .int (i : Int)) (prMem (dl ++ r) tw σ.length none none none none, σ ++ [.lst []]) = some p ∧
      ((r = [] ∧ ∃ m', m'[2]? = some (some (.ref σ.length)) ∧ p = (.next, m', σ ++ [.lst []])) ∨ (r ≠ [] ∧ ∃ m', p = (.ret (.d (.lst ((pruneOf tw r).map Nd.toD))), m', σ ++ [.lst []]))) := by
    refine Exists.elim (forGo_ok (step := stepOf (Ph (k + 3)) false [3] 2 (loopBody (f35.body.getD 1 .fail))) (items := (List.range (dl ++ r).length).map fun (i : Nat) => .int (i : Int))
      (fun p s => p ≤ dl.length ∧ ∃ o3 o4, s = (prMem (dl ++ r) tw σ.length o3 o4 none none, σ ++ [.lst []]))
      (fun p => (r = [] ∧ ∃ m', m'[2]? = some (some (.ref σ.length)) ∧ p = (.next, m', σ ++ [.lst []])) ∨ (r ≠ [] ∧ ∃ m', p = (.ret (.d (.lst ((pruneOf tw r).map Nd.toD))), m', σ ++ [.lst []]))) ?_ ?_ 0 (prMem (dl ++ r) tw σ.length none none none none, σ ++ [.lst []]) (Nat.zero_le _) ⟨Nat.zero_le _, none, none, rfl⟩) fun q hq => ?_
    rotate_left 2
    · exact ⟨q, by simpa using hq.1, hq.2⟩
    · rintro p x s hx ⟨hp, o3, o4, rfl⟩
      have hpl : p < (dl ++ r).length := by
        have := (List.getElem?_eq_some_iff.mp hx).1
        simpa using this
      have hxp : x = .int (p : Int) := by
        rw [List.getElem?_map, List.getElem?_range hpl] at hx
        cases hx; rfl
      subst hxp
      have hnx : (dl ++ r)[p]? = some (dl ++ r)[p] := List.getElem?_eq_getElem hpl
      generalize (dl ++ r)[p] = x at hnx
      have go : stepOf (Ph (k + 3)) false [3] 2 (loopBody (f35.body.getD 1 .fail)) p (.int p) (prMem (dl ++ r) tw σ.length o3 o4 none none, σ ++ [.lst []]) =
        S.dens (Ph (k + 3)) (.assign false [.var 4] (.idx (.loc 0) (.loc 3)) :: (loopBody (f35.body.getD 1 .fail)).drop 1) (prMem (dl ++ r) tw σ.length (some (.d (.int p))) o4 none none, σ ++ [.lst []]) := rfl
      rw [go]
      have stA : ∀ rr q, S.dens (Ph (k + 3)) rr (prMem (dl ++ r) tw σ.length (some (.d (.int p))) (some (.d x.toD)) none none, σ ++ [.lst []]) = q →
          S.dens (Ph (k + 3)) (.assign false [.var 4] (.idx (.loc 0) (.loc 3)) :: rr) (prMem (dl ++ r) tw σ.length (some (.d (.int p))) o4 none none, σ ++ [.lst []]) = q := by
        intro rr q hq
        exact dens_next (asg_den (idx_ns (l := dl ++ r) (j := (p : Int)) rfl rfl (Int.natCast_nonneg p) hnx)) hq
      rcases Nat.lt_or_ge p dl.length with hlt | hge
      · have hxd : x.disc = true := by
          rw [List.getElem?_append_left hlt] at hnx
          exact hd x (List.mem_of_getElem? hnx)
        refine ⟨_, stA _ (some (.next, prMem (dl ++ r) tw σ.length (some (.d (.int p))) (some (.d x.toD)) none none, σ ++ [.lst []])) ?_, hlt, _, _, rfl⟩
        cases x <;> first | (simp [Nd.disc] at hxd; done) | kernel_rfl
      · have hpe : p = dl.length := by omega
        subst hpe
        rw [List.getElem?_append_right (Nat.le_refl _), Nat.sub_self] at hnx
        cases r with
        | nil => simp at hnx
        | cons y r' =>
          simp only [List.getElem?_cons_zero, Option.some.injEq] at hnx
          subst hnx
          have hst := hr y rfl
          obtain ⟨b1, b2⟩ := hb y rfl
          refine ⟨_, stA _ (some (.ret (.d (.lst ((pruneOf tw (y :: r')).map Nd.toD))), prMem (dl ++ y :: r') tw σ.length (some (.d (.int dl.length))) (some (.d y.toD)) (some (.d (.int y.hgt))) (some (.d (glueD (mx 0 (tw - y.hgt))))), σ ++ [.lst []])) ?_, .inr ⟨by simp, _, rfl⟩⟩
          refine dens_ret (ite_tt ?_ ?_)
          · cases y with
            | box v w h d => cases v <;> kernel_rfl
            | rule w h d => kernel_rfl
            | _ => simp [Nd.stands] at hst
          refine dens_next (asg_den (τ' := σ ++ [.lst []]) (v := .d (.int y.hgt)) ?_) ?_
          · cases y with
            | box v w h d => cases v <;> kernel_rfl
            | rule w h d =>
              by_cases q : h = 0
              · subst q; kernel_rfl
              · show E.den _ [_, _, _, _, some (.d (.obj 363 [1, 2, 3] [.int w, optD h, optD d])), _, _] _ _ = _
                rw [show optD h = .int h from if_neg q]; kernel_rfl
            | _ => simp [Nd.stands] at hst
          refine dens_next (asg_den (glue_new k (vs := [.d (.int (mx 0 (tw - y.hgt))), .d (.int 0), .d (.int 0), .d (.int 0), .d (.int 0)]) (τ' := σ ++ [.lst []]) (by kernel_rfl) rfl b1 b2 hl2)) ?_
          refine dens_ret (ret_den ?_)
          have hsk := skip_new (k + 1) (m := prMem (dl ++ y :: r') tw σ.length (some (.d (.int dl.length))) (some (.d y.toD)) (some (.d (.int y.hgt))) (some (.d (glueD (mx 0 (tw - y.hgt)))))) (es := [.loc 6, .bin .Add (.glob 0 (.int 100)) (.glob 0 (.int 8))]) (τ := σ ++ [.lst []]) (τ' := σ ++ [.lst []]) (w := mx 0 (tw - y.hgt)) (s := 108) (by kernel_rfl) (.inr rfl) hl2
          have hk0 : (σ ++ [.lst []])[σ.length]? = some (MObj.lst []) := by rw [getA0]; rfl
          have hcut : cutV (σ ++ [.lst []]) (ns (dl ++ y :: r')) false (dl.length : Int) = some (.lst ((y :: r').map Nd.toD)) := (cut_from (dl ++ y :: r') Nd.toD dl.length).trans (by rw [List.drop_left])
          rw [List.length_append, List.length_cons] at hz
          generalize σ ++ [MObj.lst []] = T at *
          exact cat_d (x := .d (.lst [(Nd.glue (mx 0 (tw - y.hgt)) 108).toD])) (cat_d (x := .ref σ.length) rfl (lst0_d (dens_cons hsk rfl) rfl) rfl (bind_r hk0 rfl) rfl (show 1 ≤ 2 ^ 24 by decide)) (cutF_d (va := ns (dl ++ y :: r')) (j := dl.length) rfl rfl hcut) rfl rfl rfl (show 1 + ((r'.map Nd.toD).length + 1) ≤ 2 ^ 24 by rw [List.length_map]; omega)
    · rintro s ⟨hp, o3, o4, rfl⟩
      left
      have : r = [] := by
        simp only [List.length_map, List.length_range, List.length_append] at hp
        exact List.length_eq_zero_iff.mp (by omega)
      exact ⟨this, _, rfl, rfl⟩
  obtain ⟨p, hloop, hp⟩ := loop
  have hitems : itemsOf (σ ++ [.lst []]) 2 (.d (.int ((dl ++ r).length : Int))) = some ((List.range (dl ++ r).length).map fun (i : Nat) => .int (i : Int)) := by
    rw [items2 _ (by omega) (by omega), Int.toNat_natCast]
  have hst : ∀ q, S.dens (Ph (k + 3)) [.for_ false [3] 2 (.len (.loc 0)) (loopBody (f35.body.getD 1 .fail)), .ret (.loc 2)] (prMem (dl ++ r) tw σ.length none none none none, σ ++ [.lst []]) = q →
      S.dens (Ph (k + 3)) f35.body ([ns (dl ++ r), .d (glueD tw)].map some ++ List.replicate (f35.vars.length - f35.nargs) none, σ) = q := by
    intro q hq
    have e : f35.body = [.assign false [.var 2] (.lst true []), .for_ false [3] 2 (.len (.loc 0)) (loopBody (f35.body.getD 1 .fail)), .ret (.loc 2)] := rfl
    rw [e]
    exact dens_next (s1 := ((prMem (dl ++ r) tw σ.length none none none none, σ ++ [MObj.lst []]) : Mem × Sto)) rfl hq
  have hlen : E.den (Ph (k + 3)) (prMem (dl ++ r) tw σ.length none none none none) (.len (.loc 0)) (σ ++ [.lst []]) = some (.d (.int ((dl ++ r).length : Int)), σ ++ [.lst []]) := len_d (v := ns (dl ++ r)) rfl (len_lst (dl ++ r) Nd.toD)
  rw [F35]
  rcases hp with ⟨hr0, m', hm2, rfl⟩ | ⟨hr0, m', rfl⟩
  · subst hr0
    have main := hst (some (.ret (.ref σ.length), m', σ ++ [.lst []])) (dens_next (den_for hlen hitems hloop) (dens_ret (ret_den (loc_d hm2))))
    have := run_frz (Φ := Ph (k + 3)) (f := f35) (d := .lst []) rfl rfl main (by rw [List.take_left]; exact hl) (freeze_lst (Nat.le_refl _) (getA0 σ _))
    rw [List.take_left] at this
    exact this
  · have main := hst (some (.ret (.d (.lst ((pruneOf tw r).map Nd.toD))), m', σ ++ [.lst []])) (dens_ret (den_for hlen hitems hloop))
    have := run_frz (Φ := Ph (k + 3)) (f := f35) rfl rfl main (by rw [List.take_left]; exact hl) rfl
    rw [List.take_left] at this
    exact this

theorem compGo_ok {el : Mem → Sto → Option (Option D × Sto)} {bi : Nat → D → Mem → Option Mem} {m : Mem} {σ : Sto} {f : Nat → D → Option D} : ∀ {items : List D} {k : Nat} {acc : List D},
    (∀ i x, items[i]? = some x → ∃ m', bi (k + i) x m = some m' ∧ el m' σ = some (f (k + i) x, σ)) → compGo el bi m k items acc σ = some (acc ++ (items.zipIdx k).filterMap (fun p => f p.2 p.1), σ)
  | [], k, acc, h => congrArg some (congrArg (·, σ) (List.append_nil acc).symm)
  | x :: r, k, acc, h => by
    obtain ⟨m', h1, h2⟩ := h 0 x rfl
    simp only [Nat.add_zero] at h1 h2
    refine bind_r h1 (bind_r h2 ((compGo_ok (el := el) (bi := bi) (m := m) (σ := σ) (f := f) (items := r) (k := k + 1) (acc := accD acc (f k x)) fun i y hy => ?_).trans ?_))
    · rw [Nat.add_assoc, Nat.add_comm 1 i]
      exact h (i + 1) y hy
    · rw [List.zipIdx_cons, List.filterMap_cons]
      cases hf : f k x with
      | none => rfl
      | some d => exact congrArg some (congrArg (·, σ) (List.append_assoc acc [d] _))
theorem comp_den {Φ : Tab} {m : Mem} {caps : List (Option Nat)} {many : Bool} {ts : List Nat} {kind : Nat} {src elt : E} {ifs : List E} {τ τ' : Sto} {v : V} {items : List D} (f : Nat → D → Option D) (h1 : E.den Φ m src τ = some (v, τ')) (h2 : itemsOf τ' kind v = some items)
    (h3 : ∀ i x, items[i]? = some x → ∃ m', bindItem many ts kind i x (caps.map fun c => c.bind fun i => m.getD i none) = some m' ∧ compEl (fun m' σ => E.dens? Φ m' true ifs σ) (fun m' σ => E.den Φ m' elt σ) m' τ' = some (f i x, τ')) :
    E.den Φ m (.comp caps many ts kind src ifs elt) τ = some (.d (.lst (items.zipIdx.filterMap fun p => f p.2 p.1)), τ') := by
  exact den1_r h1 (bind_r h2 (map_r (compGo_ok (f := f) (k := 0) fun i x hx => by rw [Nat.zero_add]; exact h3 i x hx) rfl))
theorem filterMap_zipIdx {α β : Type} (f : α → Option β) (l : List α) (k : Nat) : (l.zipIdx k).filterMap (fun p => f p.1) = l.filterMap f := by
  induction l generalizing k with
  | nil => rfl
  | cons x l ih =>
    rw [List.zipIdx_cons]
    simp only [List.filterMap_cons]
    rw [ih]

theorem edge_marks_ok (k : Nat) (l : List Nd) (σ : Sto) : ∃ md, F (k + 1) 36 [ns l] σ = some (.d md, σ) := by
  let f : Nat → D → Option D := fun _ x => match x with
    | .obj 448 _ [t] => some t
    | _ => none
  have hc : E.den (Ph k) [some (ns l), none] (.comp [none] false [0] 0 (.loc 0) [.cmp .Eq (.attr (.loc 0) 0) (.glob 0 (.int 9))] (.attr (.loc 0) 13)) σ = some (.d (.lst ((l.map Nd.toD).zipIdx.filterMap fun p => f p.2 p.1)), σ) := by
    refine comp_den f rfl rfl fun i x hx => ?_
    rw [List.getElem?_map, Option.map_eq_some_iff] at hx
    obtain ⟨y, _, rfl⟩ := hx
    refine ⟨[some (.d y.toD)], rfl, ?_⟩
    cases y with
    | box v w h d => cases v <;> kernel_rfl
    | _ => kernel_rfl
  generalize (l.map Nd.toD).zipIdx.filterMap (fun p => f p.2 p.1) = L at hc
  rw [F36]
  cases L with
  | nil =>
    exact ⟨.tup [.tup [], .tup []], run_ret (m' := [some (ns l), some (.d (.lst []))]) rfl rfl (dens_next (asg_den hc) (dens_ret (ret_den (by kernel_rfl))))⟩
  | cons a L =>
    obtain ⟨z, hz⟩ : ∃ z, (a :: L)[((-1 : Int) + ((a :: L).length : Int)).toNat]? = some z := by
      refine ⟨_, List.getElem?_eq_getElem ?_⟩
      simp only [List.length_cons]; omega
    refine ⟨.tup [a, z], run_ret (m' := [some (ns l), some (.d (.lst (a :: L)))]) rfl rfl (dens_next (asg_den hc) (dens_ret (ret_den ?_)))⟩
    have hz' : getIdx (a :: L) (-1) = some z := by
      unfold getIdx
      rw [if_neg (by decide), if_pos (by simp only [List.length_cons]; omega)]
      exact hz
    exact ite_d (t := true) rfl (tup_d (vs := [.d a, .d z]) (dens_cons rfl (dens_cons (idx_d (va := .d (.lst (a :: L))) (j := -1) rfl rfl (map_r hz' rfl)) rfl)))

theorem vert_break_eq (k : Nat) (l : List Nd) (goal cap : Int) {σ : Sto} (hσ : Pre σ) (hl : lists σ = true) (hln : l.length ≤ 2 ^ 20) (g1 : -1073741823 ≤ goal) (g2 : goal ≤ 1073741823) (c1 : -1073741823 ≤ cap) (c2 : cap ≤ 1073741823) :
    F (k + 5) 34 [ns l, .d (.int goal), .d (.int cap)] σ = some (.d (.tup [.int (bbGo goal cap l none (0, 0) 0 (l.length, 1073741823, 0)).1, .int (bbGo goal cap l none (0, 0) 0 (l.length, 1073741823, 0)).2.1]), σ) := by
  have h := best_break_eq k l goal cap hσ hl hln g1 g2 c1 c2
  rw [F34]
  refine run_ret (m' := [some (ns l), some (.d (.int goal)), some (.d (.int cap))]) rfl rfl (dens_ret (ret_den ?_))
  exact cutT_d (j := 2) (call_p (dens_cons (v := ns l) rfl (dens_cons (v := .d (.int goal)) rfl (dens_cons (v := .d (.int cap)) rfl rfl))) h) rfl rfl

theorem vsplit_ok (k : Nat) (l : List Nd) (kd wd h0 dp0 goal cap tw : Int) {σ : Sto} (hσ : Pre σ) (hl : lists σ = true) (hln : l.length ≤ 2 ^ 20) (g1 : -1073741823 ≤ goal) (g2 : goal ≤ 1073741823) (c1 : -1073741823 ≤ cap) (c2 : cap ≤ 1073741823)
    (p : Nat) (hp : (bbGo goal cap l none (0, 0) 0 (l.length, 1073741823, 0)).1 = (p : Int)) (x1 : Nd) (r1 : List Nd) (ha : l.take p = x1 :: r1) (dl r : List Nd) (hb : l.drop p = dl ++ r) (hd : ∀ x ∈ dl, x.disc = true) (hr : ∀ x ∈ r.head?, x.stands = true)
    (hrm : ∀ x ∈ r.head?, -1073741823 ≤ mx 0 (tw - x.hgt) ∧ mx 0 (tw - x.hgt) ≤ 1073741823)
    (Pa : Pk) (hPa : natOf (x1 :: r1) cap = Pa) (a1 : -1073741823 ≤ Pa.wd) (a2 : Pa.wd ≤ 1073741823) (a3 : -1073741823 ≤ Pa.dp) (a4 : Pa.dp ≤ 1073741823)
    (Pb : Pk) (hPb : natOf (pruneOf tw r) cap = Pb) (b1 : -1073741823 ≤ Pb.wd) (b2 : Pb.wd ≤ 1073741823) (b3 : -1073741823 ≤ Pb.dp) (b4 : Pb.dp ≤ 1073741823) (b5 : -1073741823 ≤ Pb.nat) (b6 : Pb.nat ≤ 1073741823) :
    ∃ md, F (k + 6) 37 [.d (boxD 3 wd h0 dp0 (.lst (l.map Nd.toD))), .d (.int goal), .d (.int cap), .d (.int cap), .d (glueD tw)] σ =
      some (.d (.tup [boxD 3 Pa.wd goal Pa.dp (.lst ((x1 :: r1).map Nd.toD)), (if r = [] then .none else boxD 3 Pb.wd Pb.nat Pb.dp (.lst ((pruneOf tw r).map Nd.toD))), md, rep (goal - Pa.nat)]), σ) := by
  have hvb := vert_break_eq k l goal cap hσ hl hln g1 g2 c1 c2
  rw [hp] at hvb
  generalize (bbGo goal cap l none (0, 0) 0 (l.length, 1073741823, 0)).2.1 = cost at hvb
  have hpr := pruned_eq (k + 1) dl r tw hσ hl hd hr hrm (by rw [← hb]; simp; omega)
  rw [← hb] at hpr
  have hva := vpack_eq k x1 r1 hσ hl 0 goal cap (.inl rfl) g1 g2 c1 c2 Pa hPa goal rfl a1 a2 g1 g2 a3 a4
  obtain ⟨md, hem⟩ := edge_marks_ok (k + 4) (x1 :: r1) σ
  refine ⟨md, ?_⟩
  have hcutT : cutV σ (ns l) true (p : Int) = some (.lst ((x1 :: r1).map Nd.toD)) := ha ▸ cut_to l Nd.toD p
  rw [F37]
  let bx : V := .d (boxD 3 wd h0 dp0 (.lst (l.map Nd.toD)))
  let m5 : Mem := [some bx, some (.d (.int goal)), some (.d (.int cap)), some (.d (.int cap)), some (.d (glueD tw)), some (.d (.int p)), none, none, none, none, none]
  let m6 : Mem := [some bx, some (.d (.int goal)), some (.d (.int cap)), some (.d (.int cap)), some (.d (glueD tw)), some (.d (.int p)), some (ns (x1 :: r1)), none, none, none, none]
  let m7 : Mem := [some bx, some (.d (.int goal)), some (.d (.int cap)), some (.d (.int cap)), some (.d (glueD tw)), some (.d (.int p)), some (ns (x1 :: r1)), some (ns (pruneOf tw r)), none, none, none]
  let rest : D := if r = [] then .none else boxD 3 Pb.wd Pb.nat Pb.dp (.lst ((pruneOf tw r).map Nd.toD))
  let head : D := boxD 3 Pa.wd goal Pa.dp (.lst ((x1 :: r1).map Nd.toD))
  let m8 : Mem := [some bx, some (.d (.int goal)), some (.d (.int cap)), some (.d (.int cap)), some (.d (glueD tw)), some (.d (.int p)), some (ns (x1 :: r1)), some (ns (pruneOf tw r)), some (.d rest), none, none]
  let m10 : Mem := [some bx, some (.d (.int goal)), some (.d (.int cap)), some (.d (.int cap)), some (.d (glueD tw)), some (.d (.int p)), some (ns (x1 :: r1)), some (ns (pruneOf tw r)), some (.d rest), some (.d head), some (.d (rep (goal - Pa.nat)))]
  refine run_ret (m' := m10) rfl rfl ?_
  refine dens_next (s1 := ([bx, .d (.int goal), .d (.int cap), .d (.int cap), .d (glueD tw)].map some ++ List.replicate (f37.vars.length - f37.nargs) none, σ)) (ite_ff (by kernel_rfl) rfl) ?_
  refine dens_next (s1 := ([bx, .d (.int goal), .d (.int cap), .d (.int cap), .d (glueD tw)].map some ++ List.replicate (f37.vars.length - f37.nargs) none, σ)) (ite_ff (by kernel_rfl) rfl) ?_
  refine dens_next (s1 := (m5, σ)) (asg_den (v := .d (.int p)) ?_) ?_
  · have e1 : E.dens (Ph (k + 5)) ([bx, .d (.int goal), .d (.int cap), .d (.int cap), .d (glueD tw)].map some ++ List.replicate (f37.vars.length - f37.nargs) none) [.attr (.loc 0) 4, .loc 1, .loc 3] σ = some ([ns l, .d (.int goal), .d (.int cap)], σ) := by kernel_rfl
    exact idx_d (va := .d (.tup [.int p, .int cost])) (j := 0) (call_p e1 hvb) rfl rfl
  refine dens_next (s1 := (m6, σ)) (asg_den (v := ns (x1 :: r1)) ?_) ?_
  · exact cutT_d (va := ns l) (j := p) rfl rfl hcutT
  refine dens_next (s1 := (m7, σ)) (asg_den (v := ns (pruneOf tw r)) ?_) ?_
  · exact call_p (dens_cons (cutF_d (va := ns l) (j := p) rfl rfl (cut_from l Nd.toD p)) (dens_cons (v := .d (glueD tw)) rfl rfl)) hpr
  refine dens_next (s1 := (m8, σ)) (asg_den (v := .d rest) ?_) ?_
  · cases r with
    | nil => kernel_rfl
    | cons y r' =>
      have hvr := vpack_eq k (.glue (mx 0 (tw - y.hgt)) 108) (y :: r') hσ hl 1 0 cap (.inr rfl) (by decide) (by decide) c1 c2 Pb hPb Pb.nat (by simp) b1 b2 b5 b6 b3 b4
      exact ite_d (t := true) rfl (idx_d (va := .d (.tup [boxD 3 Pb.wd Pb.nat Pb.dp (.lst ((pruneOf tw (y :: r')).map Nd.toD)), rep (Pb.nat - Pb.nat)])) (j := 0) (call_k (vs := [ns (pruneOf tw (y :: r'))]) (ks := [.d (.int cap)]) rfl rfl (by rw [Ph_fn]; exact hvr)) rfl rfl)
  refine dens_next (s1 := (m10, σ)) (set_den (v := .d (.tup [head, rep (goal - Pa.nat)])) (call_p (dens_cons (v := ns (x1 :: r1)) rfl (dens_cons (v := .d (.int 0)) rfl (dens_cons (v := .d (.int goal)) rfl (dens_cons (v := .d (.int cap)) rfl rfl)))) hva) rfl) ?_
  exact dens_ret (ret_den (tup_d (vs := [.d head, .d rest, .d md, .d (rep (goal - Pa.nat))]) (dens_cons rfl (dens_cons rfl (dens_cons (call_p (dens_cons (v := ns (x1 :: r1)) rfl rfl) hem) (dens_cons rfl rfl))))))

inductive Ltr where | b | v | r | g | k | m | n | f
noncomputable def Ltr.str : Ltr → Str
  | .b => ⟨#[98]⟩ | .v => ⟨#[118]⟩ | .r => ⟨#[114]⟩ | .g => ⟨#[103]⟩ | .k => ⟨#[107]⟩ | .m => ⟨#[109]⟩ | .n => ⟨#[110]⟩ | .f => ⟨#[102]⟩
structure Part where
  c : Ltr
  h : Int
  d : Int
  l : Int
noncomputable def Part.toD (p : Part) : D := .tup [.str p.c.str, .int p.h, .int p.d, .int p.l]
noncomputable def Part.node (p : Part) : Nd := match p.c with
  | .b => .box false p.l p.h p.d
  | .v => .box true p.l p.h p.d
  | .r => .rule p.l p.h p.d
  | .g => .glue p.h 0
  | .k => .kern p.h
  | .m => .mark p.h
  | .n => .pen (10000 + p.h)
  | .f => .pen (-10000 - p.h)
noncomputable def Part.bxs (p : Part) : Bool := match p.c with
  | .b => true | .v => true | .r => true | .g => false | .k => false | .m => false | .n => false | .f => false
structure Part.Ok (p : Part) : Prop where
  h0 : 0 ≤ p.h
  h1 : p.h ≤ 1073741823
  d0 : 0 ≤ p.d
  d1 : p.d ≤ 1073741823
  l0 : 0 ≤ p.l
  l1 : p.l ≤ 1073741823
  gap : p.bxs = false → p.d = 0 ∧ p.l = 0

theorem kern_init (k : Nat) (T : Sto) (w : Int) (w1 : -1073741823 ≤ w) (w2 : w ≤ 1073741823) : F (k + 3) 46 [.ref T.length, .d (.int w), .d (.int 1)] (T ++ [.obj 384 [] []]) = some (.d .none, T ++ [.obj 384 [1, 9] [.d (.int w), .d (.int 1)]]) := by
  have hw := fun τ => check_dimen_eq k w τ w1 w2
  rw [F46]
  refine run_next (m' := [some (.ref T.length), some (.d (.int w)), some (.d (.int 1))]) rfl rfl ?_
  refine dens_next (s1 := ([some (.ref T.length), some (.d (.int w)), some (.d (.int 1))], T ++ [.obj 384 [] []])) (ite_ff (by kernel_rfl) rfl) ?_
  refine dens_next (attr_asg (v := .d (.int w)) rfl (call_p (dens_cons (v := .d (.int w)) rfl rfl) (hw _)) rfl (Nat.le_of_ble_eq_true rfl)) ?_
  refine dens_next (attr_asg (v := .d (.int 1)) rfl rfl rfl (Nat.le_of_ble_eq_true rfl)) ?_
  rfl
theorem pen_init (k : Nat) (T : Sto) (v : Int) (w1 : -2147483647 ≤ v) (w2 : v ≤ 2147483647) : F (k + 3) 48 [.ref T.length, .d (.int v)] (T ++ [.obj 427 [] []]) = some (.d .none, T ++ [.obj 427 [12] [.d (.int v)]]) := by
  have hw := fun τ => check_number_eq k v τ w1 w2
  rw [F48]
  refine run_next (m' := [some (.ref T.length), some (.d (.int v))]) rfl rfl ?_
  refine dens_next (attr_asg (v := .d (.int v)) rfl (call_p (dens_cons (v := .d (.int v)) rfl rfl) (hw _)) rfl (Nat.le_of_ble_eq_true rfl)) ?_
  rfl
theorem mark_init (k : Nat) (T : Sto) (t : List D) : F (k + 1) 49 [.ref T.length, .d (.tup t)] (T ++ [.obj 448 [] []]) = some (.d .none, T ++ [.obj 448 [13] [.d (.tup t)]]) := by
  rw [F49]
  refine run_next (m' := [some (.ref T.length), some (.d (.tup t))]) rfl rfl ?_
  refine dens_next (attr_asg (v := .d (.tup t)) rfl rfl rfl (Nat.le_of_ble_eq_true rfl)) ?_
  rfl
theorem rule_init (k : Nat) (T : Sto) (l h d : Int) (l1 : -1073741823 ≤ l) (l2 : l ≤ 1073741823) (h1 : -1073741823 ≤ h) (h2 : h ≤ 1073741823) (d1 : -1073741823 ≤ d) (d2 : d ≤ 1073741823) :
    F (k + 3) 45 [.ref T.length, .d (.int l), .d (optD h), .d (optD d)] (T ++ [.obj 363 [] []]) = some (.d .none, T ++ [.obj 363 [1, 2, 3] [.d (.int l), .d (optD h), .d (optD d)]]) := by
  have hl := fun τ => check_dimen_eq k l τ l1 l2
  have hh := fun τ => check_dimen_eq k h τ h1 h2
  have hd := fun τ => check_dimen_eq k d τ d1 d2
  rw [F45]
  have st : ∀ (o : Option V) (x : Int) (j : Nat), (∀ τ, F (k + 2) 15 [.d (.int x)] τ = some (.d (.int x), τ)) → stepOf (Ph (k + 2)) false [4] 0 (loopBody (f45.body.getD 0 .fail)) j (.int x) ([some (.ref T.length), some (.d (.int l)), some (.d (optD h)), some (.d (optD d)), o], T ++ [.obj 363 [] []]) =
      some (.next, [some (.ref T.length), some (.d (.int l)), some (.d (optD h)), some (.d (optD d)), some (.d (.int x))], T ++ [.obj 363 [] []]) := by
    intro o x j hx
    have go : stepOf (Ph (k + 2)) false [4] 0 (loopBody (f45.body.getD 0 .fail)) j (.int x) ([some (.ref T.length), some (.d (.int l)), some (.d (optD h)), some (.d (optD d)), o], T ++ [.obj 363 [] []]) = S.dens (Ph (k + 2)) [.ite (.cmp .IsNot (.loc 4) (.lit .none)) [.expr (.call 15 [.loc 4] [] [])] []] ([some (.ref T.length), some (.d (.int l)), some (.d (optD h)), some (.d (optD d)), some (.d (.int x))], T ++ [.obj 363 [] []]) := by kernel_rfl
    rw [go]
    exact dens_next (ite_tt (by kernel_rfl) (dens_next (expr_den (v := .d (.int x)) (call_p (dens_cons (v := .d (.int x)) rfl rfl) (hx _))) dens_nil)) dens_nil
  have st0 : ∀ (o : Option V) (x : Int) (j : Nat), (∀ τ, F (k + 2) 15 [.d (.int x)] τ = some (.d (.int x), τ)) → stepOf (Ph (k + 2)) false [4] 0 (loopBody (f45.body.getD 0 .fail)) j (optD x) ([some (.ref T.length), some (.d (.int l)), some (.d (optD h)), some (.d (optD d)), o], T ++ [.obj 363 [] []]) =
      some (.next, [some (.ref T.length), some (.d (.int l)), some (.d (optD h)), some (.d (optD d)), some (.d (optD x))], T ++ [.obj 363 [] []]) := by
    intro o x j hx
    by_cases q : x = 0
    · rw [show optD x = .none from if_pos q]
      kernel_rfl
    · rw [show optD x = .int x from if_neg q]
      exact st o x j hx
  refine run_next (m' := [some (.ref T.length), some (.d (.int l)), some (.d (optD h)), some (.d (optD d)), some (.d (optD d))]) rfl rfl ?_
  refine dens_next (s1 := ([some (.ref T.length), some (.d (.int l)), some (.d (optD h)), some (.d (optD d)), some (.d (optD d))], T ++ [.obj 363 [] []])) (den_for (v := .d (.tup [.int l, optD h, optD d])) (σ1 := T ++ [.obj 363 [] []]) (items := [.int l, optD h, optD d]) (by kernel_rfl) (by kernel_rfl) ?_) ?_
  · exact bind_r (st _ l 0 hl) (bind_r (st0 _ h 1 hh) (bind_r (st0 _ d 2 hd) rfl))
  refine dens_next (attr_asg (v := .d (.int l)) rfl rfl rfl (Nat.le_of_ble_eq_true rfl)) ?_
  refine dens_next (attr_asg (v := .d (optD h)) rfl rfl rfl (Nat.le_of_ble_eq_true rfl)) ?_
  refine dens_next (attr_asg (v := .d (optD d)) rfl rfl rfl (Nat.le_of_ble_eq_true rfl)) ?_
  rfl

noncomputable abbrev ndMem (p : Part) : Mem := [some (.d p.toD), some (.d (.str p.c.str)), some (.d (.int p.h)), some (.d (.int p.d)), some (.d (.int p.l))]
theorem node_ok (k : Nat) (p : Part) (hp : p.Ok) (a : MObj) (hl : a.isLst = true) : F (k + 4) 5 [.d p.toD] [a] = some (.d p.node.toD, [a]) := by
  have hls : lists [a] = true := by simp [lists, hl]
  obtain ⟨c, h, d, l⟩ := p
  obtain ⟨h0, h1, d0, d1, l0, l1, hg⟩ := hp
  simp only at h0 h1 d0 d1 l0 l1
  rw [F5]
  cases c with
  | g =>
    refine run_frz (Φ := Ph (k + 3)) (f := f5) (m' := ndMem ⟨.g, h, d, l⟩) (σ' := [a]) (v := .d (Nd.glue h 0).toD) (by kernel_rfl) (by kernel_rfl) ?_ hls (by kernel_rfl)
    refine dens_next (s1 := (ndMem ⟨.g, h, d, l⟩, [a])) (by kernel_rfl) (dens_ret (ite_tt (by kernel_rfl) (dens_ret (ret_den ?_))))
    refine skip_new (k + 1) (τ' := [a]) ?_ (.inl rfl) hls
    exact dens_cons (glue_new k (w := h) (τ' := [a]) (vs := [.d (.int h)]) rfl rfl (by omega) (by omega) hls) rfl
  | k =>
    refine run_frz (Φ := Ph (k + 3)) (f := f5) (m' := ndMem ⟨.k, h, d, l⟩) (σ' := [a]) (v := .d (Nd.kern h).toD) (by kernel_rfl) (by kernel_rfl) ?_ hls (by kernel_rfl)
    refine dens_next (s1 := (ndMem ⟨.k, h, d, l⟩, [a])) (by kernel_rfl) (dens_next (s1 := (ndMem ⟨.k, h, d, l⟩, [a])) (by kernel_rfl) (dens_ret (ite_tt (by kernel_rfl) (dens_ret (ret_den ?_)))))
    exact new_frz (f := 46) (τ' := [a]) (vs := [.d (.int h), .d (.int 1)]) (ks := [1, 9]) (vs' := [.d (.int h), .d (.int 1)]) (ds := [.int h, .int 1]) (by kernel_rfl) (in_384 _) (by rw [Ph_fn]; exact kern_init k [a] h (by omega) (by omega)) (fz_384 _) hls (by kernel_rfl)
  | m =>
    refine run_frz (Φ := Ph (k + 3)) (f := f5) (m' := ndMem ⟨.m, h, d, l⟩) (σ' := [a]) (v := .d (Nd.mark h).toD) (by kernel_rfl) (by kernel_rfl) ?_ hls (by kernel_rfl)
    refine dens_next (s1 := (ndMem ⟨.m, h, d, l⟩, [a])) (by kernel_rfl) (dens_next (s1 := (ndMem ⟨.m, h, d, l⟩, [a])) (by kernel_rfl) (dens_next (s1 := (ndMem ⟨.m, h, d, l⟩, [a])) (by kernel_rfl) (dens_ret (ite_tt (by kernel_rfl) (dens_ret (ret_den ?_))))))
    exact new_frz (f := 49) (τ' := [a]) (vs := [.d (.tup [.tup [.int 0, .int h]])]) (ks := [13]) (vs' := [.d (.tup [.tup [.int 0, .int h]])]) (ds := [.tup [.tup [.int 0, .int h]]]) (by kernel_rfl) (in_448 _) (by rw [Ph_fn]; exact mark_init (k + 2) [a] _) (fz_448 _) hls (by kernel_rfl)
  | n =>
    refine run_frz (Φ := Ph (k + 3)) (f := f5) (m' := ndMem ⟨.n, h, d, l⟩) (σ' := [a]) (v := .d (Nd.pen (10000 + h)).toD) (by kernel_rfl) (by kernel_rfl) ?_ hls (by kernel_rfl)
    refine dens_next (s1 := (ndMem ⟨.n, h, d, l⟩, [a])) (by kernel_rfl) (dens_next (s1 := (ndMem ⟨.n, h, d, l⟩, [a])) (by kernel_rfl) (dens_next (s1 := (ndMem ⟨.n, h, d, l⟩, [a])) (by kernel_rfl) (dens_next (s1 := (ndMem ⟨.n, h, d, l⟩, [a])) (by kernel_rfl) (dens_ret (ite_tt (by kernel_rfl) (dens_ret (ret_den ?_)))))))
    exact new_frz (f := 48) (τ' := [a]) (vs := [.d (.int (10000 + h))]) (ks := [12]) (vs' := [.d (.int (10000 + h))]) (ds := [.int (10000 + h)]) (by kernel_rfl) (in_427 _) (by rw [Ph_fn]; exact pen_init k [a] _ (by omega) (by omega)) (fz_427 _) hls (by kernel_rfl)
  | f =>
    refine run_frz (Φ := Ph (k + 3)) (f := f5) (m' := ndMem ⟨.f, h, d, l⟩) (σ' := [a]) (v := .d (Nd.pen (-10000 - h)).toD) (by kernel_rfl) (by kernel_rfl) ?_ hls (by kernel_rfl)
    refine dens_next (s1 := (ndMem ⟨.f, h, d, l⟩, [a])) (by kernel_rfl) (dens_next (s1 := (ndMem ⟨.f, h, d, l⟩, [a])) (by kernel_rfl) (dens_next (s1 := (ndMem ⟨.f, h, d, l⟩, [a])) (by kernel_rfl) (dens_next (s1 := (ndMem ⟨.f, h, d, l⟩, [a])) (by kernel_rfl) (dens_ret (ite_tt (by kernel_rfl) (dens_ret (ret_den ?_)))))))
    exact new_frz (f := 48) (τ' := [a]) (vs := [.d (.int (-10000 - h))]) (ks := [12]) (vs' := [.d (.int (-10000 - h))]) (ds := [.int (-10000 - h)]) (by kernel_rfl) (in_427 _) (by rw [Ph_fn]; exact pen_init k [a] _ (by omega) (by omega)) (fz_427 _) hls (by kernel_rfl)
  | r =>
    refine run_frz (Φ := Ph (k + 3)) (f := f5) (m' := ndMem ⟨.r, h, d, l⟩) (σ' := [a]) (v := .d (Nd.rule l h d).toD) (by kernel_rfl) (by kernel_rfl) ?_ hls (by kernel_rfl)
    refine dens_next (s1 := (ndMem ⟨.r, h, d, l⟩, [a])) (by kernel_rfl) (dens_next (s1 := (ndMem ⟨.r, h, d, l⟩, [a])) (by kernel_rfl) (dens_next (s1 := (ndMem ⟨.r, h, d, l⟩, [a])) (by kernel_rfl) (dens_next (s1 := (ndMem ⟨.r, h, d, l⟩, [a])) (by kernel_rfl) (dens_next (s1 := (ndMem ⟨.r, h, d, l⟩, [a])) (by kernel_rfl) (dens_ret (ite_tt (by kernel_rfl) (dens_ret (ret_den ?_))))))))
    have ho : ∀ (x : Int) (e : E), E.den (Ph (k + 3)) (ndMem ⟨.r, h, d, l⟩) e [a] = some (.d (.int x), [a]) → E.den (Ph (k + 3)) (ndMem ⟨.r, h, d, l⟩) (.ite (.cmp .Eq e (.lit (.int 0))) (.lit .none) e) [a] = some (.d (optD x), [a]) := by
      intro x e he
      by_cases q : x = 0
      · rw [show optD x = .none from if_pos q]
        exact ite_d (cmp_d (y := .d (.int 0)) he rfl (c_eq_t q)) rfl
      · rw [show optD x = .int x from if_neg q]
        exact ite_d (cmp_d (y := .d (.int 0)) he rfl (c_eq_f q)) he
    refine new_frz (f := 45) (τ' := [a]) (vs := [.d (.int l), .d (optD h), .d (optD d)]) (ks := [1, 2, 3]) (vs' := [.d (.int l), .d (optD h), .d (optD d)]) (ds := [.int l, optD h, optD d]) ?_ (in_363 _) (by rw [Ph_fn]; exact rule_init k [a] l h d (by omega) (by omega) (by omega) (by omega) (by omega) (by omega)) (fz_363 _) hls (by kernel_rfl)
    exact dens_cons (v := .d (.int l)) rfl (dens_cons (ho h (.loc 2) rfl) (dens_cons (ho d (.loc 3) rfl) rfl))
  | b =>
    refine run_frz (Φ := Ph (k + 3)) (f := f5) (m' := ndMem ⟨.b, h, d, l⟩) (σ' := [a] ++ [boxV 2 l h d (.lst [])]) (v := .ref 1) (by kernel_rfl) (by kernel_rfl) ?_ hls (by kernel_rfl)
    refine dens_next (s1 := (ndMem ⟨.b, h, d, l⟩, [a])) (by kernel_rfl) (dens_next (s1 := (ndMem ⟨.b, h, d, l⟩, [a])) (by kernel_rfl) (dens_next (s1 := (ndMem ⟨.b, h, d, l⟩, [a])) (by kernel_rfl) (dens_next (s1 := (ndMem ⟨.b, h, d, l⟩, [a])) (by kernel_rfl) (dens_next (s1 := (ndMem ⟨.b, h, d, l⟩, [a])) (by kernel_rfl) (dens_next (s1 := (ndMem ⟨.b, h, d, l⟩, [a])) (by kernel_rfl) (dens_ret (ret_den ?_)))))))
    exact box_new k (τ' := [a]) (kd := 2) (by kernel_rfl) (.inl rfl) (by omega) (by omega) (by omega) (by omega) (by omega) (by omega)
  | v =>
    refine run_frz (Φ := Ph (k + 3)) (f := f5) (m' := ndMem ⟨.v, h, d, l⟩) (σ' := [a] ++ [boxV 3 l h d (.lst [])]) (v := .ref 1) (by kernel_rfl) (by kernel_rfl) ?_ hls (by kernel_rfl)
    refine dens_next (s1 := (ndMem ⟨.v, h, d, l⟩, [a])) (by kernel_rfl) (dens_next (s1 := (ndMem ⟨.v, h, d, l⟩, [a])) (by kernel_rfl) (dens_next (s1 := (ndMem ⟨.v, h, d, l⟩, [a])) (by kernel_rfl) (dens_next (s1 := (ndMem ⟨.v, h, d, l⟩, [a])) (by kernel_rfl) (dens_next (s1 := (ndMem ⟨.v, h, d, l⟩, [a])) (by kernel_rfl) (dens_next (s1 := (ndMem ⟨.v, h, d, l⟩, [a])) (by kernel_rfl) (dens_ret (ret_den ?_)))))))
    exact box_new k (τ' := [a]) (kd := 3) (by kernel_rfl) (.inr rfl) (by omega) (by omega) (by omega) (by omega) (by omega) (by omega)

theorem pen_told (k : Nat) (v h : Int) (b : Bool) (hb : decide (0 < v) = b) (ha : (if v < 0 then -v else v) - 10000 = h) (σ : Sto) : F (k + 1) 6 [.d (Nd.pen v).toD] σ = some (.d (.tup [.str (if b then ⟨#[110]⟩ else ⟨#[102]⟩), .int h, .int 0, .int 0]), σ) := by
  have st : S.dens (Ph k) (f6.body.drop 4) ([some (.d (Nd.pen v).toD), some (.d (.int 7))], σ) = some (.ret (.d (.tup [.str (if b then ⟨#[110]⟩ else ⟨#[102]⟩), .int h, .int 0, .int 0])), [some (.d (Nd.pen v).toD), some (.d (.int 7))], σ) :=
    dens_ret (ite_true (τ' := σ) (by kernel_rfl) (dens_ret (ret_den (tup_d (vs := [.d (.str (if b then ⟨#[110]⟩ else ⟨#[102]⟩)), .d (.int h), .d (.int 0), .d (.int 0)]) (dens_cons (ite_d (cmp_d (x := .d (.int v)) (y := .d (.int 0)) rfl rfl (congrArg some hb)) (by cases b <;> rfl)) (dens_cons (bin_d (x := .d (.int (if v < 0 then -v else v))) (y := .d (.int 10000)) rfl rfl ((b_sub _ _).trans (congrArg (fun i => some (D.int i)) ha))) rfl))))))
  exact (F6 k _ σ).trans (run_ret rfl rfl (dens_next (s1 := ([some (.d (Nd.pen v).toD), some (.d (.int 7))], σ)) (by kernel_rfl) (dens_next (s1 := ([some (.d (Nd.pen v).toD), some (.d (.int 7))], σ)) (by kernel_rfl) (dens_next (s1 := ([some (.d (Nd.pen v).toD), some (.d (.int 7))], σ)) (by kernel_rfl) (dens_next (s1 := ([some (.d (Nd.pen v).toD), some (.d (.int 7))], σ)) (by kernel_rfl) st)))))
theorem told_ok (k : Nat) (p : Part) (hp : p.Ok) (σ : Sto) : F (k + 1) 6 [.d p.node.toD] σ = some (.d p.toD, σ) := by
  obtain ⟨c, h, d, l⟩ := p
  obtain ⟨h0, h1, d0, d1, l0, l1, hg⟩ := hp
  simp only at h0 h1 d0 d1 l0 l1
  cases c with
  | b => kernel_rfl
  | v => kernel_rfl
  | g => obtain ⟨e1, e2⟩ := hg rfl; simp only at e1 e2; subst e1 e2; kernel_rfl
  | k => obtain ⟨e1, e2⟩ := hg rfl; simp only at e1 e2; subst e1 e2; kernel_rfl
  | m => obtain ⟨e1, e2⟩ := hg rfl; simp only at e1 e2; subst e1 e2; kernel_rfl
  | r =>
    show F (k + 1) 6 [.d (.obj 363 [1, 2, 3] [.int l, optD h, optD d])] σ = some (.d (.tup [.str ⟨#[114]⟩, .int h, .int d, .int l]), σ)
    by_cases q : h = 0 <;> by_cases q2 : d = 0
    · subst q q2; kernel_rfl
    · subst q; rw [show optD d = .int d from if_neg q2]; kernel_rfl
    · subst q2; rw [show optD h = .int h from if_neg q]; kernel_rfl
    · rw [show optD h = .int h from if_neg q, show optD d = .int d from if_neg q2]; kernel_rfl
  | n =>
    obtain ⟨e1, e2⟩ := hg rfl; simp only at e1 e2; subst e1 e2
    exact pen_told k (10000 + h) h true (decide_eq_true (by omega)) (by split <;> omega) σ
  | f =>
    obtain ⟨e1, e2⟩ := hg rfl; simp only at e1 e2; subst e1 e2
    exact pen_told k (-10000 - h) h false (decide_eq_false (by omega)) (by split <;> omega) σ

structure Stp where
  pl : Int
  lab : Int
  sz : Int
  hi : Int
  fc : Int
noncomputable def Stp.toD (s : Stp) : D := .tup [.int s.pl, .int s.lab, .int s.sz, .int s.hi, .int s.fc]
noncomputable def pairD (a : Int × Int) : D := .tup [.int a.1, .int a.2]
noncomputable def colD (parts : List Part) (stops : List Stp) (ahead : List (Int × Int)) : V := .d (.tup [.lst (parts.map Part.toD), .lst (stops.map Stp.toD), .lst (ahead.map pairD)])
theorem idxN {α : Type} (l : List α) (g : α → D) (i : Nat) : getIdx (l.map g) (i : Int) = (l[i]?).map g := by
  unfold getIdx
  rw [if_pos (by omega), List.getElem?_map]; simp

theorem high_eq (k : Nat) (parts : List Part) (stops : List Stp) (ahead : List (Int × Int)) (top : Int) (f : Nat) (s : Stp) (σ : Sto) (pl : Nat) (sz : Int) (pt : Part) (ha : ahead[f]? = some ((pl : Int), sz)) (hp : parts[pl]? = some pt) :
    F (k + 1) 8 [colD parts stops ahead, .d (.int top), .d (.int f), .d s.toD] σ = some (.d (.int (s.hi - sz + if 0 < f then mx 0 (top - pt.h) else 0)), σ) := by
  have i1 := idxN ahead pairD f
  rw [ha] at i1
  have i2 := idxN parts Part.toD pl
  rw [hp] at i2
  rw [F8]
  refine run_ret (m' := [some (colD parts stops ahead), some (.d (.int top)), some (.d (.int f)), some (.d s.toD), some (.d (.lst (parts.map Part.toD))), some (.d (.lst (stops.map Stp.toD))), some (.d (.lst (ahead.map pairD))), some (.d (.int pl)), some (.d (.int sz))]) rfl rfl ?_
  refine dens_next (s1 := ([some (colD parts stops ahead), some (.d (.int top)), some (.d (.int f)), some (.d s.toD), some (.d (.lst (parts.map Part.toD))), some (.d (.lst (stops.map Stp.toD))), some (.d (.lst (ahead.map pairD))), none, none], σ)) (by kernel_rfl) ?_
  refine dens_next (s1 := ([some (colD parts stops ahead), some (.d (.int top)), some (.d (.int f)), some (.d s.toD), some (.d (.lst (parts.map Part.toD))), some (.d (.lst (stops.map Stp.toD))), some (.d (.lst (ahead.map pairD))), some (.d (.int pl)), some (.d (.int sz))], σ)) ?_ ?_
  · exact set_den (idx_d (va := .d (.lst (ahead.map pairD))) (j := (f : Int)) rfl rfl (map_r i1 rfl)) rfl
  · refine dens_ret (ret_den ?_)
    generalize hm : [some (colD parts stops ahead), some (.d (.int top)), some (.d (.int f)), some (.d s.toD), some (.d (.lst (parts.map Part.toD))), some (.d (.lst (stops.map Stp.toD))), some (.d (.lst (ahead.map pairD))), some (.d (.int pl)), some (.d (.int sz))] = m
    have e1 : E.den (Ph k) m (.idx (.idx (.loc 4) (.loc 7)) (.lit (.int 1))) σ = some (.d (.int pt.h), σ) := by subst hm; exact idx_d (va := .d pt.toD) (j := 1) (idx_d (va := .d (.lst (parts.map Part.toD))) (j := (pl : Int)) rfl rfl (map_r i2 rfl)) rfl rfl
    have e2 : E.den (Ph k) m (.bin .Sub (.idx (.loc 3) (.lit (.int 3))) (.loc 8)) σ = some (.d (.int (s.hi - sz)), σ) := by subst hm; kernel_rfl
    have e4 : E.den (Ph k) m (.cmp .Gt (.loc 2) (.lit (.int 0))) σ = some (.d (.bool (decide ((0 : Int) < (f : Int)))), σ) := by subst hm; kernel_rfl
    have e5 : E.den (Ph k) m (.loc 1) σ = some (.d (.int top), σ) := by subst hm; kernel_rfl
    refine bin_d e2 (ite_d e4 (r := some (.d (.int (if 0 < f then mx 0 (top - pt.h) else 0)), σ)) ?_) rfl
    by_cases q : 0 < f
    · rw [decide_eq_true (Int.natCast_pos.mpr q), if_pos q]
      exact max_d (i := 0) rfl (bin_d e5 e1 rfl)
    · rw [decide_eq_false (fun h => q (Int.natCast_pos.mp h)), if_neg q]
      rfl

noncomputable def nearOf : List Stp → List Stp
  | [] => []
  | s :: r => if s.fc < 0 then [s] else s :: nearOf r
noncomputable def lastFit (goal : Int) (l : List Stp) : Option Stp := (l.filter fun s => decide (s.hi ≤ goal)).getLast?
noncomputable def dueOf (goal : Int) (l : List Stp) : Int × Int × Int := match lastFit goal (nearOf l) with
  | some s => if s.fc < 0 then (s.pl, s.fc, s.sz) else (s.pl, if s.hi = goal then 0 else 100000, s.sz)
  | none => match l with
    | s :: _ => (s.pl, 1073741823, s.sz)
    | [] => (0, 0, 0)
noncomputable def fcAt (i : Nat) (x : D) : Option D := x.onT fun l => (l[4]?).bind (D.onI fun c => if decide (c < 0) then some (.int (i : Int)) else none)
noncomputable def hiAt (goal : Int) (x : D) : Option D := x.onT fun l => (l[3]?).bind (D.onI fun c => if decide (c ≤ goal) then some x else none)
theorem forced_head : ∀ (l : List Stp) (k : Nat), (∃ s ∈ l, s.fc < 0) → ∃ i r, ((l.map Stp.toD).zipIdx k).filterMap (fun p => fcAt p.2 p.1) = .int ((k + i : Nat) : Int) :: r ∧ l.take (i + 1) = nearOf l
  | [], _, h => h.elim fun s h => nomatch h.1
  | s :: l, k, h => by
    rw [List.map_cons, List.zipIdx_cons, List.filterMap_cons]
    by_cases q : s.fc < 0
    · refine ⟨0, ((l.map Stp.toD).zipIdx (k + 1)).filterMap (fun p => fcAt p.2 p.1), ?_, by rw [nearOf, if_pos q]; rfl⟩
      rw [show fcAt k s.toD = some (.int (k : Int)) from if_pos (decide_eq_true q)]
      rfl
    · obtain ⟨i, r, h1, h2⟩ := forced_head l (k + 1) (by
        obtain ⟨t, ht, hc⟩ := h
        rcases List.mem_cons.mp ht with rfl | ht
        · exact absurd hc q
        · exact ⟨t, ht, hc⟩)
      refine ⟨i + 1, r, ?_, by rw [nearOf, if_neg q, List.take_succ_cons, h2]⟩
      rw [show fcAt k s.toD = none from if_neg (by rw [decide_eq_false q]; decide), ← Nat.add_assoc, Nat.add_right_comm]
      exact h1
theorem filt_map {p : Stp → Bool} {g : D → Option D} (hg : ∀ s, g s.toD = if p s then some s.toD else none) : ∀ l : List Stp, (l.map Stp.toD).filterMap g = (l.filter p).map Stp.toD
  | [] => rfl
  | s :: l => by
    rw [List.map_cons, List.filterMap_cons, hg, List.filter_cons]
    cases p s with
    | true => exact congrArg (s.toD :: ·) (filt_map hg l)
    | false => exact filt_map hg l

theorem due_eq (k : Nat) (l : List Stp) (goal : Int) (σ : Sto) (hf : ∃ s ∈ l, s.fc < 0) : F (k + 1) 7 [.d (.lst (l.map Stp.toD)), .d (.int goal)] σ = some (.d (tri (dueOf goal l)), σ) := by
  obtain ⟨i, r, h1, h2⟩ := forced_head l 0 hf
  rw [Nat.zero_add] at h1
  let L : V := .d (.lst (l.map Stp.toD))
  have c1 : E.den (Ph k) [some L, some (.d (.int goal)), none, none, none, none] (.comp [none, none] true [0, 1] 1 (.loc 0) [(.cmp .Lt (.idx (.loc 1) (.lit (.int 4))) (.lit (.int 0)))] (.loc 0)) σ = some (.d (.lst (.int (i : Int) :: r)), σ) := by
    refine (comp_den fcAt (v := L) (τ' := σ) (items := l.map Stp.toD) rfl rfl fun j x hx => ?_).trans (by rw [h1])
    rw [List.getElem?_map, Option.map_eq_some_iff] at hx
    obtain ⟨s, _, rfl⟩ := hx
    exact ⟨[some (.d (.int (j : Int))), some (.d s.toD)], rfl, el_if (and_1 (cmp_d (x := .d (.int s.fc)) (y := .d (.int 0)) rfl rfl rfl)) rfl⟩
  have c2 : ∀ m2, E.den (Ph k) [some L, some (.d (.int goal)), m2, some (.d (.lst ((nearOf l).map Stp.toD))), none, none] (.comp [some 1, none] false [1] 0 (.loc 3) [(.cmp .LtE (.idx (.loc 1) (.lit (.int 3))) (.loc 0))] (.loc 1)) σ = some (.d (.lst (((nearOf l).filter fun s => decide (s.hi ≤ goal)).map Stp.toD)), σ) := by
    intro m2
    refine (comp_den (fun _ x => hiAt goal x) (v := .d (.lst ((nearOf l).map Stp.toD))) (τ' := σ) (items := (nearOf l).map Stp.toD) rfl rfl fun j x hx => ?_).trans (by rw [filterMap_zipIdx, filt_map (p := fun s => decide (s.hi ≤ goal)) fun _ => rfl])
    rw [List.getElem?_map, Option.map_eq_some_iff] at hx
    obtain ⟨s, _, rfl⟩ := hx
    exact ⟨[some (.d (.int goal)), some (.d s.toD)], rfl, el_if (and_1 (cmp_d (x := .d (.int s.hi)) (y := .d (.int goal)) rfl rfl rfl)) rfl⟩
  obtain ⟨s0, l0, hl0⟩ : ∃ s0 l0, l = s0 :: l0 := by obtain ⟨s, hs, _⟩ := hf; cases l with | nil => cases hs | cons a b => exact ⟨a, b, rfl⟩
  obtain ⟨n0, hn0⟩ : ∃ n0, nearOf l = s0 :: n0 := by rw [hl0, nearOf]; split <;> exact ⟨_, rfl⟩
  rw [F7]
  have st : ∀ q, S.dens (Ph k) (f7.body.drop 3) ([some L, some (.d (.int goal)), some (.d (.lst (.int (i : Int) :: r))), some (.d (.lst ((nearOf l).map Stp.toD))), some (.d (.lst (((nearOf l).filter fun s => decide (s.hi ≤ goal)).map Stp.toD))), none], σ) = q →
      S.dens (Ph k) f7.body ([L, V.d (.int goal)].map some ++ List.replicate (f7.vars.length - f7.nargs) none, σ) = q := by
    intro q hq
    exact dens_next (asg_den c1) (dens_next (asg_den (cutT_d (va := L) (j := (i : Int) + 1) rfl rfl (h2 ▸ cut_to l Stp.toD (i + 1)))) (dens_next (asg_den (c2 _)) hq))
  unfold dueOf lastFit
  cases hfit : (nearOf l).filter fun s => decide (s.hi ≤ goal) with
  | nil =>
    rw [hfit] at st
    subst hl0
    refine run_ret (m' := [some L, some (.d (.int goal)), some (.d (.lst (.int (i : Int) :: r))), some (.d (.lst ((nearOf (s0 :: l0)).map Stp.toD))), some (.d (.lst [])), none]) rfl rfl (st (some (_, _, _)) ?_)
    rw [hn0]
    exact dens_ret (by kernel_rfl)
  | cons a b =>
    obtain ⟨z, hz⟩ : ∃ z, (a :: b).getLast? = some z := ⟨_, List.getLast?_eq_some_getLast (List.cons_ne_nil a b)⟩
    rw [hz]
    have hidx : getIdx ((a :: b).map Stp.toD) (-1) = some z.toD := by
      unfold getIdx
      rw [if_neg (by decide), if_pos (by rw [List.length_map, List.length_cons]; omega), List.getElem?_map]
      rw [show ((-1 : Int) + (((a :: b).map Stp.toD).length : Int)).toNat = (a :: b).length - 1 by rw [List.length_map, List.length_cons]; omega, ← List.getLast?_eq_getElem?, hz]
      rfl
    rw [hfit] at st
    let m5 : Mem := [some L, some (.d (.int goal)), some (.d (.lst (.int (i : Int) :: r))), some (.d (.lst ((nearOf l).map Stp.toD))), some (.d (.lst ((a :: b).map Stp.toD))), some (.d z.toD)]
    have st5 : ∀ q, S.dens (Ph k) (f7.body.drop 5) (m5, σ) = q → S.dens (Ph k) f7.body ([L, V.d (.int goal)].map some ++ List.replicate (f7.vars.length - f7.nargs) none, σ) = q := by
      intro q hq
      exact st q (dens_next (s1 := ([some L, some (.d (.int goal)), some (.d (.lst (.int (i : Int) :: r))), some (.d (.lst ((nearOf l).map Stp.toD))), some (.d (.lst ((a :: b).map Stp.toD))), none], σ)) (by kernel_rfl) (dens_next (asg_den (v := .d z.toD) (idx_d (va := .d (.lst ((a :: b).map Stp.toD))) (j := -1) rfl rfl (map_r hidx rfl))) hq))
    dsimp only
    by_cases q : z.fc < 0
    · rw [if_pos q]
      exact run_ret (m' := m5) rfl rfl (st5 (some (_, _, _)) (dens_ret (ite_tt (τ := σ) (cmp_d (x := .d (.int z.fc)) (y := .d (.int 0)) rfl rfl (c_lt_t q)) (dens_ret (by kernel_rfl)))))
    · rw [if_neg q]
      refine run_ret (m' := m5) rfl rfl (st5 (some (_, _, _)) (dens_next (s1 := (m5, σ)) (ite_ff (cmp_d (x := .d (.int z.fc)) (y := .d (.int 0)) rfl rfl (c_lt_f q)) dens_nil) (dens_ret (ret_den ?_))))
      have e2 : E.den (Ph k) m5 (.ite (.cmp .Eq (.idx (.loc 5) (.lit (.int 3))) (.loc 1)) (.lit (.int 0)) (.lit (.int 100000))) σ = some (.d (.int (if z.hi = goal then 0 else 100000)), σ) := by
        by_cases q2 : z.hi = goal
        · rw [if_pos q2]
          exact ite_d (cmp_d (x := .d (.int z.hi)) (y := .d (.int goal)) rfl rfl (c_eq_t q2)) rfl
        · rw [if_neg q2]
          exact ite_d (cmp_d (x := .d (.int z.hi)) (y := .d (.int goal)) rfl rfl (c_eq_f q2)) rfl
      exact tup_d (vs := [.d (.int z.pl), .d (.int (if z.hi = goal then 0 else 100000)), .d (.int z.sz)]) (dens_cons (v := .d (.int z.pl)) rfl (dens_cons e2 (dens_cons (v := .d (.int z.sz)) rfl rfl)))

noncomputable def mn (cap low : Int) : Int := if low < cap then low else cap
structure Blk where
  c : Ltr
  h : Int
  d : Int
  gp : List (Ltr × Int)
  offs : List Int
noncomputable def gapTab : List (List Ltr × List Int) := [([.g], [0]), ([.k, .g], [0]), ([.g, .k, .g], [0, 1]), ([.m, .g], [1]), ([.g, .k], [0]), ([.g, .g], [0]), ([.n, .k, .g], [1]), ([.f], [0]), ([.f, .g], [0]), ([.k], []), ([.n, .g], []), ([], [])]
noncomputable def isBoxL : Ltr → Bool
  | .b => true | .v => true | .r => true | .g => false | .k => false | .m => false | .n => false | .f => false
structure Blk.Ok (u : Int) (x : Blk) : Prop where
  bx : isBoxL x.c = true
  h0 : 0 ≤ x.h
  h1 : x.h ≤ 8 * u
  d0 : 0 ≤ x.d
  d1 : x.d ≤ 3 * u
  tab : (x.gp.map (·.1), x.offs) ∈ gapTab
  g0 : ∀ p ∈ x.gp, 0 ≤ p.2 ∧ p.2 ≤ 5 * u

structure Pos where
  pos : Int
  sz : Int
  low : Int
noncomputable def moves : Ltr → Bool
  | .g => true | .k => true | .b => false | .v => false | .r => false | .m => false | .n => false | .f => false
noncomputable def gapStep (t : Pos) (p : Ltr × Int) : Pos := if moves p.1 then ⟨t.pos + 1, t.sz + p.2, 0⟩ else ⟨t.pos + 1, t.sz, t.low⟩
noncomputable def mkStp (cap lab : Int) (t : Pos) (fc : Int) : Stp := ⟨t.pos, lab, t.sz, t.sz - mn cap t.low, fc⟩
noncomputable def isF : Ltr → Bool
  | .f => true | .b => false | .v => false | .r => false | .g => false | .k => false | .m => false | .n => false
noncomputable def gapStops (cap lab : Int) (offs : List Int) : Int → List (Ltr × Int) → Pos → List Stp
  | _, [], _ => []
  | i, p :: r, t => (if offs.contains i then [mkStp cap lab t (if isF p.1 then -10000 - p.2 else 0)] else []) ++ gapStops cap lab offs (i + 1) r (gapStep t p)
noncomputable def boxStep (t : Pos) (x : Blk) : Pos := ⟨t.pos + 1, t.sz + x.h + x.d, x.d⟩
noncomputable def blkEnd (t : Pos) (x : Blk) : Pos := x.gp.foldl gapStep (boxStep t x)
noncomputable def blkStops (cap lab : Int) (x : Blk) (t : Pos) : List Stp := gapStops cap lab x.offs 0 x.gp (boxStep t x)
noncomputable def colStops (cap many : Int) : Int → List Blk → Pos → List Stp
  | _, [], t => [mkStp cap many t (-10000)]
  | lab, x :: r, t => blkStops cap lab x t ++ colStops cap many (lab + 1) r (blkEnd t x)
noncomputable def gapPart (p : Ltr × Int) : Part := ⟨p.1, p.2, 0, 0⟩
noncomputable def blkParts (lab : Int) (x : Blk) : List Part := ⟨x.c, x.h, x.d, lab⟩ :: x.gp.map gapPart
noncomputable def colParts : Int → List Blk → List Part
  | _, [] => []
  | lab, x :: r => blkParts lab x ++ colParts (lab + 1) r
noncomputable def colAhead : List Blk → Pos → List (Int × Int)
  | [], _ => []
  | x :: r, t => (t.pos, t.sz) :: colAhead r (blkEnd t x)

noncomputable def accK (goal : Int) : List Stp → Int × Int × Int → (Int × Int × Int → Int × Int × Int) → Int × Int × Int
  | [], cur, K => K cur
  | s :: r, cur, K => if decide (costHere s.hi goal s.fc = 1073741823) || decide (s.fc ≤ -10000) then (if costHere s.hi goal s.fc ≤ cur.2.1 then (s.pl, costHere s.hi goal s.fc, s.sz) else cur)
    else accK goal r (if costHere s.hi goal s.fc ≤ cur.2.1 then (s.pl, costHere s.hi goal s.fc, s.sz) else cur) K
theorem accK_append (goal : Int) (a b : List Stp) : ∀ cur K, accK goal (a ++ b) cur K = accK goal a cur fun c => accK goal b c K := by
  induction a with
  | nil => intro cur K; rfl
  | cons s r ih => intro cur K; rw [List.cons_append, accK, accK, ih]

theorem kept_eq (cap a b : Int) : kept cap (a, b) = (a + b - mn cap b, mn cap b) := by
  unfold kept mn
  by_cases q : cap < b
  · have : ¬ b < cap := by omega
    simp [q, this]
  · by_cases q2 : b < cap
    · simp [q, q2]
    · have : b = cap := by omega
      subst this
      simp
theorem mn_mn (cap b : Int) : mn cap (mn cap b) = mn cap b := by by_cases q : b < cap <;> simp [mn, q]
noncomputable def colOf (cap : Int) (t : Pos) : Int × Int := (t.sz - mn cap t.low, mn cap t.low)

theorem step_gap (cap : Int) (t : Pos) (p : Ltr × Int) (hp : isBoxL p.1 = false) : colStep cap (colOf cap t) (gapPart p).node = colOf cap (gapStep t p) := by
  obtain ⟨c, x⟩ := p
  cases c <;> first | (simp [isBoxL] at hp; done) | skip
  all_goals simp only [gapPart, Part.node, colStep, gapStep, moves, colOf, flowed, kept_eq, mn_mn, if_true, Bool.false_eq_true, if_false]
  all_goals (ext <;> simp <;> omega)
theorem step_box (cap : Int) (x : Blk) (lab : Int) (hb : isBoxL x.c = true) (hh dd : Int) (t : Pos) (ht : hh + dd = t.sz) : colStep cap (hh, dd) (Part.node ⟨x.c, x.h, x.d, lab⟩) = colOf cap (boxStep t x) := by
  obtain ⟨c, h, d, gp, offs⟩ := x
  cases c <;> first | (simp [isBoxL] at hb; done) | skip
  all_goals simp only [Part.node, colStep, stood, Nd.hgt, Nd.dep, boxStep, colOf, kept_eq]
  all_goals (ext <;> simp <;> omega)

noncomputable def boxHead (l : List Nd) : Prop := ∀ x ∈ l.head?, x.stands = true
theorem box_nopen {x : Nd} (hx : x.stands = true) (prev : Option Nd) (r : List Nd) : penL prev (x :: r) = none := by
  cases x <;> first | rfl | (simp [Nd.stands] at hx)

theorem map_el {gp : List (Ltr × Int)} {a : Ltr} {l : List Ltr} (h : gp.map (·.1) = a :: l) {P : List (Ltr × Int) → Prop} (k : ∀ x r, r.map (·.1) = l → P ((a, x) :: r)) : P gp := by
  cases gp with
  | nil => cases h
  | cons p r =>
    obtain ⟨c, x⟩ := p
    have h1 : c = a := (List.cons.inj h).1
    subst h1
    exact k x r (List.cons.inj h).2
theorem map0_el {gp : List (Ltr × Int)} (h : gp.map (·.1) = []) {P : List (Ltr × Int) → Prop} (k : P []) : P gp := List.map_eq_nil_iff.mp h ▸ k
theorem map1 {gp : List (Ltr × Int)} {a : Ltr} (h : gp.map (·.1) = [a]) : ∃ x, gp = [(a, x)] := map_el (P := fun gp => ∃ x, gp = [(a, x)]) h fun x r h => map0_el (P := fun r => ∃ y, (a, x) :: r = [(a, y)]) h ⟨x, rfl⟩
theorem map2 {gp : List (Ltr × Int)} {a b : Ltr} (h : gp.map (·.1) = [a, b]) : ∃ x y, gp = [(a, x), (b, y)] := map_el (P := fun gp => ∃ x y, gp = [(a, x), (b, y)]) h fun x r h => (map1 h).elim fun y e => ⟨x, y, by rw [e]⟩
theorem map3 {gp : List (Ltr × Int)} {a b c : Ltr} (h : gp.map (·.1) = [a, b, c]) : ∃ x y z, gp = [(a, x), (b, y), (c, z)] := map_el (P := fun gp => ∃ x y z, gp = [(a, x), (b, y), (c, z)]) h fun x r h => (map2 h).elim fun y e => e.elim fun z e => ⟨x, y, z, by rw [e]⟩
theorem tab_all {P : List Ltr × List Int → Prop} (h1 : P ([.g], [0])) (h2 : P ([.k, .g], [0])) (h3 : P ([.g, .k, .g], [0, 1])) (h4 : P ([.m, .g], [1])) (h5 : P ([.g, .k], [0])) (h6 : P ([.g, .g], [0])) (h7 : P ([.n, .k, .g], [1])) (h8 : P ([.f], [0])) (h9 : P ([.f, .g], [0])) (h10 : P ([.k], [])) (h11 : P ([.n, .g], [])) (h12 : P ([], [])) : ∀ e ∈ gapTab, P e :=
  List.forall_mem_cons.mpr ⟨h1, List.forall_mem_cons.mpr ⟨h2, List.forall_mem_cons.mpr ⟨h3, List.forall_mem_cons.mpr ⟨h4, List.forall_mem_cons.mpr ⟨h5, List.forall_mem_cons.mpr ⟨h6, List.forall_mem_cons.mpr ⟨h7, List.forall_mem_cons.mpr ⟨h8, List.forall_mem_cons.mpr ⟨h9, List.forall_mem_cons.mpr ⟨h10, List.forall_mem_cons.mpr ⟨h11, List.forall_mem_cons.mpr ⟨h12, fun _ h => nomatch h⟩⟩⟩⟩⟩⟩⟩⟩⟩⟩⟩⟩
theorem gap_skip (goal cap : Int) (t : Pos) (p : Ltr × Int) (hp : isBoxL p.1 = false) (prev : Option Nd) (R : List Nd) (n : Nat) (cur : Int × Int × Int) (hb : brk (penL prev ((gapPart p).node :: R)) = none) :
    bbGo goal cap ((gapPart p).node :: R) prev (colOf cap t) n cur = bbGo goal cap R (some (gapPart p).node) (colOf cap (gapStep t p)) (n + 1) cur := by
  rw [bbGo, hb, step_gap cap t p hp]
theorem upd_stp (goal cap lab : Int) (t : Pos) (n : Nat) (hn : (n : Int) = t.pos) (fc : Int) (cur : Int × Int × Int) :
    upd goal (colOf cap t) n fc cur = if costHere (mkStp cap lab t fc).hi goal (mkStp cap lab t fc).fc ≤ cur.2.1 then ((mkStp cap lab t fc).pl, costHere (mkStp cap lab t fc).hi goal (mkStp cap lab t fc).fc, (mkStp cap lab t fc).sz) else cur := by
  have e : (colOf cap t).1 + (colOf cap t).2 = t.sz := by simp only [colOf]; omega
  unfold upd
  rw [e]
  simp only [mkStp, colOf, hn]
  split <;> rename_i q <;> simp [q]
theorem gap_stop (goal cap lab : Int) (t : Pos) (p : Ltr × Int) (hp : isBoxL p.1 = false) (prev : Option Nd) (R : List Nd) (n : Nat) (hn : (n : Int) = t.pos) (cur : Int × Int × Int) (fc : Int) (hb : brk (penL prev ((gapPart p).node :: R)) = some fc) :
    bbGo goal cap ((gapPart p).node :: R) prev (colOf cap t) n cur = accK goal [mkStp cap lab t fc] cur fun c => bbGo goal cap R (some (gapPart p).node) (colOf cap (gapStep t p)) (n + 1) c := by
  rw [bbGo, hb, step_gap cap t p hp]
  simp only [accK]
  rw [upd_stp goal cap lab t n hn fc cur]
  rfl
theorem gap_end (goal cap lab : Int) (t : Pos) (prev : Option Nd) (n : Nat) (hn : (n : Int) = t.pos) (cur : Int × Int × Int) (K : Int × Int × Int → Int × Int × Int) :
    bbGo goal cap [] prev (colOf cap t) n cur = accK goal [mkStp cap lab t (-10000)] cur K := by
  rw [bbGo, upd_stp goal cap lab t n hn (-10000) cur]
  simp [accK, mkStp]

section
variable {goal cap lab : Int} {t : Pos} {prev : Option Nd} {R : List Nd} {n : Nat} {cur : Int × Int × Int} {K : Int × Int × Int → Int × Int × Int} {L : List Stp} {p : Ltr × Int}
theorem skip_r (hp : isBoxL p.1 = false) (hb : brk (penL prev ((gapPart p).node :: R)) = none) (h : bbGo goal cap R (some (gapPart p).node) (colOf cap (gapStep t p)) (n + 1) cur = accK goal L cur K) : bbGo goal cap ((gapPart p).node :: R) prev (colOf cap t) n cur = accK goal L cur K :=
  (gap_skip goal cap t p hp prev R n cur hb).trans h
theorem stop_r (hp : isBoxL p.1 = false) (hn : (n : Int) = t.pos) {fc : Int} (hb : brk (penL prev ((gapPart p).node :: R)) = some fc) (h : ∀ c, bbGo goal cap R (some (gapPart p).node) (colOf cap (gapStep t p)) (n + 1) c = accK goal L c K) : bbGo goal cap ((gapPart p).node :: R) prev (colOf cap t) n cur = accK goal (mkStp cap lab t fc :: L) cur K :=
  (gap_stop goal cap lab t p hp prev R n hn cur fc hb).trans ((congrArg (accK goal [mkStp cap lab t fc] cur) (funext h)).trans (accK_append goal [mkStp cap lab t fc] L cur K).symm)
end
theorem kern_nil {w : Int} {pr : Option Nd} {R : List Nd} (hR : boxHead R) : brk (penL pr (.kern w :: R)) = none := by
  cases R with
  | nil => rfl
  | cons y r => cases y <;> first | rfl | exact Bool.noConfusion (hR _ rfl)
theorem brk_n {pr : Option Nd} {R : List Nd} {x : Int} (h : 0 ≤ x) : brk (penL pr ((gapPart (.n, x)).node :: R)) = none := if_neg (show ¬ 10000 + x < 10000 by omega)
theorem brk_f {pr : Option Nd} {R : List Nd} {x : Int} (h : 0 ≤ x) : brk (penL pr ((gapPart (.f, x)).node :: R)) = some (-10000 - x) := if_pos (show -10000 - x < 10000 by omega)
theorem brk_g {y : Nd} {R : List Nd} {x : Int} (h : y.disc = false) : brk (penL (some y) ((gapPart (.g, x)).node :: R)) = some 0 := by
  show brk (if y.disc then none else some 0) = _
  rw [h]; rfl
noncomputable def GapGo (goal cap lab : Int) (t : Pos) (prev : Nd) (rest : List Nd) (p : Nat) (cur : Int × Int × Int) (K : Int × Int × Int → Int × Int × Int) (offs : List Int) (gp : List (Ltr × Int)) : Prop :=
  (∀ q ∈ gp, 0 ≤ q.2) → (∀ last c, bbGo goal cap rest (some last) (colOf cap (gp.foldl gapStep t)) (p + gp.length) c = K c) → bbGo goal cap (gp.map (fun p => (gapPart p).node) ++ rest) (some prev) (colOf cap t) p cur = accK goal (gapStops cap lab offs 0 gp t) cur K
theorem gap_rows (goal cap lab : Int) (t : Pos) (prev : Nd) (pd : prev.disc = false) (rest : List Nd) (hr : boxHead rest) (p : Nat) (hp : (p : Int) = t.pos) (cur : Int × Int × Int) (K : Int × Int × Int → Int × Int × Int) :
    ∀ e ∈ gapTab, ∀ gp : List (Ltr × Int), gp.map (·.1) = e.1 → GapGo goal cap lab t prev rest p cur K e.2 gp := by
  have hp1 : ((p + 1 : Nat) : Int) = t.pos + 1 := congrArg (· + 1) hp
  refine tab_all (fun gp h => ?_) (fun gp h => ?_) (fun gp h => ?_) (fun gp h => ?_) (fun gp h => ?_) (fun gp h => ?_) (fun gp h => ?_) (fun gp h => ?_) (fun gp h => ?_) (fun gp h => ?_) (fun gp h => ?_) (fun gp h => ?_)
  · obtain ⟨x, rfl⟩ := map1 h
    exact fun hg hK => stop_r (L := []) (t := t) (p := (.g, x)) rfl hp (brk_g pd) fun c => hK _ c
  · obtain ⟨x, y, rfl⟩ := map2 h
    exact fun hg hK => stop_r (L := []) (t := t) (p := (.k, x)) rfl hp rfl fun c => skip_r (L := []) (p := (.g, y)) rfl rfl (hK _ c)
  · obtain ⟨x, y, z, rfl⟩ := map3 h
    exact fun hg hK => stop_r (L := [mkStp cap lab (gapStep t (.g, x)) 0]) (t := t) (p := (.g, x)) rfl hp (brk_g pd) fun c => stop_r (L := []) (t := gapStep t (.g, x)) (p := (.k, y)) rfl hp1 rfl fun c => skip_r (L := []) (p := (.g, z)) rfl rfl (hK _ c)
  · obtain ⟨x, y, rfl⟩ := map2 h
    exact fun hg hK => skip_r (t := t) (p := (.m, x)) (L := [mkStp cap lab (gapStep t (.m, x)) 0]) rfl rfl (stop_r (L := []) (t := gapStep t (.m, x)) (p := (.g, y)) rfl hp1 rfl fun c => hK _ c)
  · obtain ⟨x, y, rfl⟩ := map2 h
    exact fun hg hK => stop_r (L := []) (t := t) (p := (.g, x)) rfl hp (brk_g pd) fun c => skip_r (L := []) (p := (.k, y)) rfl (kern_nil hr) (hK _ c)
  · obtain ⟨x, y, rfl⟩ := map2 h
    exact fun hg hK => stop_r (L := []) (t := t) (p := (.g, x)) rfl hp (brk_g pd) fun c => skip_r (L := []) (p := (.g, y)) rfl rfl (hK _ c)
  · obtain ⟨x, y, z, rfl⟩ := map3 h
    exact fun hg hK => skip_r (t := t) (p := (.n, x)) (L := [mkStp cap lab (gapStep t (.n, x)) 0]) rfl (brk_n (hg _ List.mem_cons_self)) (stop_r (L := []) (t := gapStep t (.n, x)) (p := (.k, y)) rfl hp1 rfl fun c => skip_r (L := []) (p := (.g, z)) rfl rfl (hK _ c))
  · obtain ⟨x, rfl⟩ := map1 h
    exact fun hg hK => stop_r (L := []) (t := t) (p := (.f, x)) rfl hp (brk_f (hg _ List.mem_cons_self)) fun c => hK _ c
  · obtain ⟨x, y, rfl⟩ := map2 h
    exact fun hg hK => stop_r (L := []) (t := t) (p := (.f, x)) rfl hp (brk_f (hg _ List.mem_cons_self)) fun c => skip_r (L := []) (p := (.g, y)) rfl rfl (hK _ c)
  · obtain ⟨x, rfl⟩ := map1 h
    exact fun hg hK => skip_r (t := t) (p := (.k, x)) (L := []) rfl (kern_nil hr) (hK _ cur)
  · obtain ⟨x, y, rfl⟩ := map2 h
    exact fun hg hK => skip_r (t := t) (p := (.n, x)) (L := []) rfl (brk_n (hg _ List.mem_cons_self)) (skip_r (L := []) (p := (.g, y)) rfl rfl (hK _ cur))
  · exact map0_el h fun hg hK => hK _ cur
theorem bb_gap (goal cap lab : Int) (x : Blk) (u : Int) (hx : x.Ok u) (t : Pos) (prev : Nd) (hprev : prev.stands = true) (rest : List Nd) (hrest : boxHead rest) (p : Nat) (hp : (p : Int) = t.pos) (cur : Int × Int × Int) (K : Int × Int × Int → Int × Int × Int)
    (hK : ∀ last c, bbGo goal cap rest (some last) (colOf cap (x.gp.foldl gapStep t)) (p + x.gp.length) c = K c) :
    bbGo goal cap (x.gp.map (fun p => (gapPart p).node) ++ rest) (some prev) (colOf cap t) p cur = accK goal (gapStops cap lab x.offs 0 x.gp t) cur K :=
  gap_rows goal cap lab t prev (by cases prev <;> first | rfl | exact Bool.noConfusion hprev) rest hrest p hp cur K _ hx.tab x.gp rfl (fun q hq => (hx.g0 q hq).1) hK

noncomputable def blkNodes (lab : Int) (x : Blk) : List Nd := (blkParts lab x).map Part.node
noncomputable def colNodes : Int → List Blk → List Nd
  | _, [] => []
  | lab, x :: r => blkNodes lab x ++ colNodes (lab + 1) r
theorem colNodes_eq (lab : Int) (bs : List Blk) : colNodes lab bs = (colParts lab bs).map Part.node := by
  induction bs generalizing lab with
  | nil => rfl
  | cons x r ih => rw [colNodes, colParts, List.map_append, ih]; rfl
theorem box_stands {c : Ltr} (h : isBoxL c = true) (a d l : Int) : (Part.node ⟨c, a, d, l⟩).stands = true := by
  cases c <;> first | rfl | (simp [isBoxL] at h)
theorem colNodes_head (lab : Int) (bs : List Blk) (u : Int) (hb : ∀ x ∈ bs, x.Ok u) : boxHead (colNodes lab bs) := by
  cases bs with
  | nil => intro x hx; simp [colNodes] at hx
  | cons x r =>
    intro y hy
    simp [colNodes, blkNodes, blkParts] at hy
    subst hy
    exact box_stands (hb x (by simp)).bx _ _ _
theorem foldl_pos (g : List (Ltr × Int)) : ∀ t : Pos, (g.foldl gapStep t).pos = t.pos + g.length := by
  induction g with
  | nil => intro t; simp
  | cons p r ih => intro t; rw [List.foldl_cons, ih]; simp only [gapStep, List.length_cons]; split <;> simp <;> omega
theorem blkEnd_pos (t : Pos) (x : Blk) : (blkEnd t x).pos = t.pos + 1 + x.gp.length := by
  rw [blkEnd, foldl_pos]; rfl
theorem bb_blocks (goal cap many u : Int) (bs : List Blk) : ∀ (lab : Int) (t : Pos) (h d : Int) (ht : h + d = t.sz) (hc : bs = [] → (h, d) = colOf cap t) (hb : ∀ x ∈ bs, x.Ok u) (prev : Option Nd) (p : Nat) (hp : (p : Int) = t.pos) (cur : Int × Int × Int),
    bbGo goal cap (colNodes lab bs) prev (h, d) p cur = accK goal (colStops cap many lab bs t) cur id := by
  induction bs with
  | nil =>
    intro lab t h d ht hc hb prev p hp cur
    rw [hc rfl]
    exact gap_end goal cap many t prev p hp cur id
  | cons x r ih =>
    intro lab t h d ht hc hb prev p hp cur
    have hx := hb x (by simp)
    have hr := fun y hy => hb y (List.mem_cons_of_mem _ hy)
    have st := box_stands hx.bx x.h x.d lab
    rw [colStops, accK_append, colNodes, blkNodes, blkParts, List.map_cons, List.cons_append, bbGo, box_nopen st]
    show bbGo goal cap _ _ (colStep cap (h, d) (Part.node ⟨x.c, x.h, x.d, lab⟩)) _ _ = _
    rw [step_box cap x lab hx.bx h d t ht, List.map_map]
    refine bb_gap goal cap lab x u hx (boxStep t x) _ st _ (colNodes_head (lab + 1) r u hr) (p + 1) (by simp [boxStep, hp]) cur _ ?_
    intro last c
    refine ih (lab + 1) (blkEnd t x) _ _ ?_ (fun _ => rfl) hr _ _ ?_ c
    · simp only [colOf, blkEnd]; omega
    · rw [blkEnd_pos, ← hp]; simp

noncomputable def tailOf (goal : Int) (l : List Stp) (cur : Int × Int × Int) : Int × Int × Int := match lastFit goal (nearOf l) with
  | some s => (s.pl, costHere s.hi goal s.fc, s.sz)
  | none => match l with
    | s :: _ => if (1073741823 : Int) ≤ cur.2.1 then (s.pl, 1073741823, s.sz) else cur
    | [] => cur
theorem near_sub : ∀ (l : List Stp) (s : Stp), s ∈ nearOf l → s ∈ l
  | [], s, h => by simp [nearOf] at h
  | a :: r, s, h => by
    unfold nearOf at h
    split at h
    · simp at h; simp [h]
    · rcases List.mem_cons.mp h with h | h
      · simp [h]
      · exact List.mem_cons_of_mem _ (near_sub r s h)
theorem lastFit_none (goal : Int) (l : List Stp) (h : ∀ s ∈ l, goal < s.hi) : lastFit goal l = none := by
  unfold lastFit
  have : l.filter (fun s => decide (s.hi ≤ goal)) = [] := by
    rw [List.filter_eq_nil_iff]
    intro s hs
    have := h s hs
    simp; omega
  rw [this]; rfl
theorem lastFit_cons (goal : Int) (s : Stp) (l : List Stp) (h : s.hi ≤ goal) : lastFit goal (s :: l) = some ((lastFit goal l).getD s) := by
  unfold lastFit
  rw [List.filter_cons_of_pos (by simpa using h), List.getLast?_cons]
theorem acc_tail (goal : Int) (l : List Stp) : ∀ (cur : Int × Int × Int) (hm : l.Pairwise fun a b => a.hi ≤ b.hi) (hf : ∀ s ∈ l, s.fc = 0 ∨ s.fc ≤ -10000) (he : ∃ s ∈ l, s.fc < 0)
    (hc : cur.2.1 = 1073741823 ∨ cur.2.1 = 100000 ∨ (cur.2.1 = 0 ∧ ∀ s ∈ l, goal ≤ s.hi)), accK goal l cur id = tailOf goal l cur := by
  induction l with
  | nil => intro cur hm hf he; obtain ⟨s, hs, _⟩ := he; simp at hs
  | cons s r ih =>
    intro cur hm hf he hc
    rw [List.pairwise_cons] at hm
    by_cases q : goal < s.hi
    · have e : costHere s.hi goal s.fc = 1073741823 := by simp [costHere, q]
      have n : lastFit goal (nearOf (s :: r)) = none := by
        apply lastFit_none
        intro a ha
        rcases List.mem_cons.mp (near_sub _ _ ha) with ha | ha
        · rw [ha]; exact q
        · have := hm.1 a ha; omega
      unfold tailOf
      rw [n]
      simp [accK, e]
    · have q' : s.hi ≤ goal := by omega
      by_cases q2 : s.fc ≤ -10000
      · have e : costHere s.hi goal s.fc = s.fc := by simp [costHere, q, q2]
        have n : lastFit goal (nearOf (s :: r)) = some s := by
          have : s.fc < 0 := by omega
          simp [nearOf, this, lastFit, q']
        have le : s.fc ≤ cur.2.1 := by omega
        unfold tailOf
        rw [n]
        simp [accK, e, q2, le]
      · have z : s.fc = 0 := by rcases hf s (by simp) with h | h <;> omega
        have e : costHere s.hi goal s.fc = if s.hi = goal then 0 else 100000 := by simp [costHere, q, z]
        have n : lastFit goal (nearOf (s :: r)) = some ((lastFit goal (nearOf r)).getD s) := by
          have : ¬ s.fc < 0 := by omega
          rw [nearOf, if_neg this]
          exact lastFit_cons goal s _ q'
        have le : costHere s.hi goal s.fc ≤ cur.2.1 := by
          rw [e]
          rcases hc with h | h | ⟨h, h2⟩
          · split <;> omega
          · split <;> omega
          · have := h2 s (by simp)
            rw [if_pos (by omega)]; omega
        have ne : ¬ costHere s.hi goal s.fc = 1073741823 := by rw [e]; split <;> omega
        have he' : ∃ a ∈ r, a.fc < 0 := by
          obtain ⟨a, ha, h⟩ := he
          rcases List.mem_cons.mp ha with ha | ha
          · subst ha; omega
          · exact ⟨a, ha, h⟩
        have := ih (s.pl, costHere s.hi goal s.fc, s.sz) hm.2 (fun a ha => hf a (List.mem_cons_of_mem _ ha)) he' (by
          simp only
          rw [e]
          split
          · rename_i g
            exact .inr (.inr ⟨rfl, fun a ha => g ▸ hm.1 a ha⟩)
          · exact .inr (.inl rfl))
        have w : accK goal (s :: r) cur id = accK goal r (s.pl, costHere s.hi goal s.fc, s.sz) id := by
          simp [accK, ne, q2, le]
        rw [w, this]
        unfold tailOf
        rw [n]
        cases lastFit goal (nearOf r) with
        | some a => rfl
        | none =>
          have nb : ¬ (1073741823 : Int) ≤ costHere s.hi goal s.fc := by rw [e]; split <;> omega
          cases r with
          | nil => rfl
          | cons a r' => simp [nb]
theorem lastFit_mem {goal : Int} {l : List Stp} {s : Stp} (h : lastFit goal l = some s) : s ∈ l ∧ s.hi ≤ goal := by
  unfold lastFit at h
  have := List.mem_of_getLast? h
  simpa using this
theorem acc_due (goal : Int) (l : List Stp) (n : Int) (hm : l.Pairwise fun a b => a.hi ≤ b.hi) (hf : ∀ s ∈ l, s.fc = 0 ∨ s.fc ≤ -10000) (he : ∃ s ∈ l, s.fc < 0) : accK goal l (n, 1073741823, 0) id = dueOf goal l := by
  rw [acc_tail goal l _ hm hf he (.inl rfl)]
  unfold tailOf dueOf
  cases h : lastFit goal (nearOf l) with
  | some s =>
    have ⟨h1, h2⟩ := lastFit_mem h
    have ng : ¬ goal < s.hi := by omega
    rcases hf s (near_sub _ _ h1) with z | z
    · simp [costHere, z, ng]
    · have : s.fc < 0 := by omega
      simp [costHere, z, ng, this]
  | none =>
    cases l with
    | nil => obtain ⟨s, hs, _⟩ := he; simp at hs
    | cons s r => simp

structure PosOk (t : Pos) : Prop where
  low : 0 ≤ t.low
noncomputable def hiOf (cap : Int) (t : Pos) : Int := t.sz - mn cap t.low
theorem mn_le (cap a b : Int) (ha : 0 ≤ a) (hb : 0 ≤ b) : mn cap 0 ≤ mn cap a := by unfold mn; split <;> split <;> omega
theorem gap_hi (cap u : Int) (t : Pos) (ht : 0 ≤ t.low) (p : Ltr × Int) (h0 : 0 ≤ p.2) : hiOf cap t ≤ hiOf cap (gapStep t p) ∧ 0 ≤ (gapStep t p).low := by
  unfold gapStep hiOf
  have := mn_le cap t.low 0 ht (by omega)
  split <;> simp <;> omega
theorem box_hi (cap u : Int) (t : Pos) (ht : 0 ≤ t.low) (x : Blk) (hx : x.Ok u) : hiOf cap t ≤ hiOf cap (boxStep t x) ∧ 0 ≤ (boxStep t x).low := by
  unfold boxStep hiOf
  have := hx.h0
  have := hx.d0
  simp only
  refine ⟨?_, by omega⟩
  unfold mn
  split <;> split <;> omega
theorem gaps_hi (cap u lab : Int) (offs : List Int) (g : List (Ltr × Int)) : ∀ (i : Int) (t : Pos) (ht : 0 ≤ t.low) (h0 : ∀ p ∈ g, 0 ≤ p.2),
    (∀ s ∈ gapStops cap lab offs i g t, hiOf cap t ≤ s.hi ∧ s.hi ≤ hiOf cap (g.foldl gapStep t) ∧ s.lab = lab ∧ (s.fc = 0 ∨ s.fc ≤ -10000)) ∧ (gapStops cap lab offs i g t).Pairwise (fun a b => a.hi ≤ b.hi) ∧ hiOf cap t ≤ hiOf cap (g.foldl gapStep t) ∧ 0 ≤ (g.foldl gapStep t).low := by
  induction g with
  | nil => intro i t ht h0; simp [gapStops, ht]
  | cons p r ih =>
    intro i t ht h0
    have hp := h0 p (by simp)
    obtain ⟨g1, g2⟩ := gap_hi cap u t ht p hp
    obtain ⟨i1, i2, i3, i4⟩ := ih (i + 1) (gapStep t p) g2 (fun a ha => h0 a (List.mem_cons_of_mem _ ha))
    rw [gapStops, List.foldl_cons]
    have hs : ∀ s ∈ (if offs.contains i then [mkStp cap lab t (if isF p.1 then -10000 - p.2 else 0)] else []), s.hi = hiOf cap t ∧ s.lab = lab ∧ (s.fc = 0 ∨ s.fc ≤ -10000) := by
      intro s hs
      split at hs
      · simp at hs
        subst hs
        refine ⟨rfl, rfl, ?_⟩
        simp only [mkStp]
        split
        · right; omega
        · left; rfl
      · simp at hs
    refine ⟨?_, ?_, by omega, i4⟩
    · intro s h
      rcases List.mem_append.mp h with h | h
      · have := hs s h
        exact ⟨by omega, by omega, this.2.1, this.2.2⟩
      · have := i1 s h
        exact ⟨by omega, by omega, this.2.2.1, this.2.2.2⟩
    · rw [List.pairwise_append]
      refine ⟨?_, i2, ?_⟩
      · split <;> simp
      · intro a ha b hb
        have := hs a ha
        have := i1 b hb
        omega
theorem cols_hi (cap u many : Int) (bs : List Blk) : ∀ (lab : Int) (t : Pos) (ht : 0 ≤ t.low) (hb : ∀ x ∈ bs, x.Ok u),
    (∀ s ∈ colStops cap many lab bs t, hiOf cap t ≤ s.hi ∧ (s.fc = 0 ∨ s.fc ≤ -10000)) ∧ (colStops cap many lab bs t).Pairwise (fun a b => a.hi ≤ b.hi) ∧ ∃ s ∈ colStops cap many lab bs t, s.fc < 0 := by
  induction bs with
  | nil =>
    intro lab t ht hb
    simp [colStops, mkStp, hiOf]
  | cons x r ih =>
    intro lab t ht hb
    have hx := hb x (by simp)
    obtain ⟨b1, b2⟩ := box_hi cap u t ht x hx
    obtain ⟨g1, g2, g3, g4⟩ := gaps_hi cap u lab x.offs x.gp 0 (boxStep t x) b2 (fun p hp => (hx.g0 p hp).1)
    obtain ⟨i1, i2, s, i3, i4⟩ := ih (lab + 1) (blkEnd t x) g4 (fun y hy => hb y (List.mem_cons_of_mem _ hy))
    have g3 : hiOf cap (boxStep t x) ≤ hiOf cap (blkEnd t x) := g3
    rw [colStops, blkStops]
    refine ⟨?_, ?_, s, List.mem_append_right _ i3, i4⟩
    · intro s h
      rcases List.mem_append.mp h with h | h
      · have := g1 s h
        exact ⟨by omega, this.2.2.2⟩
      · have := i1 s h
        exact ⟨by omega, this.2⟩
    · rw [List.pairwise_append]
      refine ⟨g2, i2, ?_⟩
      intro a ha b hb'
      have h1 := (g1 a ha).2.1
      have h2 := (i1 b hb').1
      have : hiOf cap (x.gp.foldl gapStep (boxStep t x)) = hiOf cap (blkEnd t x) := rfl
      omega
theorem bb_due (goal cap many u : Int) (bs : List Blk) (lab : Int) (t : Pos) (h d : Int) (ht : h + d = t.sz) (hc : bs = [] → (h, d) = colOf cap t) (hl : 0 ≤ t.low) (hb : ∀ x ∈ bs, x.Ok u) (prev : Option Nd) (p : Nat) (hp : (p : Int) = t.pos) (n : Int) :
    bbGo goal cap (colNodes lab bs) prev (h, d) p (n, 1073741823, 0) = dueOf goal (colStops cap many lab bs t) := by
  rw [bb_blocks goal cap many u bs lab t h d ht hc hb prev p hp]
  have := cols_hi cap u many bs lab t hl hb
  exact acc_due goal _ n this.2.1 (fun s hs => (this.1 s hs).2) this.2.2
theorem bb_due_top (goal cap many u room g : Int) (x : Blk) (r : List Blk) (lab : Int) (hb : ∀ y ∈ x :: r, y.Ok u) (n : Int) :
    bbGo goal cap (.glue room g :: colNodes lab (x :: r)) none (0, 0) 0 (n, 1073741823, 0) = dueOf goal (colStops cap many lab (x :: r) ⟨1, room, 0⟩) := by
  rw [bbGo]
  show bbGo goal cap _ _ (colStep cap (0, 0) (.glue room g)) _ _ = _
  refine bb_due goal cap many u (x :: r) lab ⟨1, room, 0⟩ _ _ ?_ (fun h => nomatch h) (by simp) hb _ _ (by simp) n
  have e : ∀ c : Int × Int, (kept cap c).1 + (kept cap c).2 = c.1 + c.2 := by intro ⟨a, b⟩; rw [kept_eq]; simp only; omega
  refine Eq.trans (e (flowed (0, 0) room)) ?_
  simp [flowed]

theorem gap_cut (cap lab : Int) (offs : List Int) (g : List (Ltr × Int)) : ∀ (i : Int) (t : Pos) (s : Stp), s ∈ gapStops cap lab offs i g t →
    ∃ g1 g2, g = g1 ++ g2 ∧ s.pl = (g1.foldl gapStep t).pos ∧ s.sz = (g1.foldl gapStep t).sz ∧ s.hi = hiOf cap (g1.foldl gapStep t) ∧ s.lab = lab ∧ offs.contains (i + g1.length) = true := by
  induction g with
  | nil => intro i t s h; simp [gapStops] at h
  | cons p r ih =>
    intro i t s h
    rw [gapStops] at h
    rcases List.mem_append.mp h with h | h
    · split at h
      · simp at h
        subst h
        rename_i q
        exact ⟨[], p :: r, rfl, rfl, rfl, rfl, rfl, by simpa using q⟩
      · simp at h
    · obtain ⟨g1, g2, e, h1, h2, h3, h4, h5⟩ := ih _ _ _ h
      refine ⟨p :: g1, g2, by rw [e]; rfl, h1, h2, h3, h4, ?_⟩
      rw [← h5]; congr 1; simp; omega
noncomputable def posAt (bs : List Blk) (t : Pos) (i : Nat) : Pos := (bs.take i).foldl blkEnd t
theorem col_cut (cap many : Int) (bs : List Blk) : ∀ (lab : Int) (t : Pos) (hne : bs ≠ []) (hm : many = lab + bs.length - 1) (s : Stp), s ∈ colStops cap many lab bs t →
    ∃ (i : Nat) (x : Blk) (g1 g2 : List (Ltr × Int)), bs[i]? = some x ∧ x.gp = g1 ++ g2 ∧ s.pl = (g1.foldl gapStep (boxStep (posAt bs t i) x)).pos ∧ s.sz = (g1.foldl gapStep (boxStep (posAt bs t i) x)).sz ∧ s.hi = hiOf cap (g1.foldl gapStep (boxStep (posAt bs t i) x)) ∧ s.lab = lab + i ∧ (g2 = [] ∨ x.offs.contains (g1.length : Int) = true) := by
  induction bs with
  | nil => intro lab t hne; exact absurd rfl hne
  | cons x r ih =>
    intro lab t hne hm s h
    rw [colStops] at h
    rcases List.mem_append.mp h with h | h
    · obtain ⟨g1, g2, e, h1, h2, h3, h4, h5⟩ := gap_cut cap lab x.offs x.gp 0 (boxStep t x) s h
      exact ⟨0, x, g1, g2, rfl, e, h1, h2, h3, by omega, .inr (by rw [← h5]; congr 1; omega)⟩
    · cases hr : r with
      | nil =>
        subst hr
        simp [colStops] at h
        subst h
        refine ⟨0, x, x.gp, [], rfl, by simp, rfl, rfl, rfl, ?_, .inl rfl⟩
        simp [mkStp, hm]
      | cons y r' =>
        obtain ⟨i, z, g1, g2, h0, e, h1, h2, h3, h4, h5⟩ := ih (lab + 1) (blkEnd t x) (by rw [hr]; simp) (by simp [hm]; omega) s h
        refine ⟨i + 1, z, g1, g2, by rw [← hr]; simpa using h0, e, ?_, ?_, ?_, ?_, h5⟩
        · rw [h1, hr]; rfl
        · rw [h2, hr]; rfl
        · rw [h3, hr]; rfl
        · rw [h4]; push_cast; omega

noncomputable def natPos (r : Int × Int × Int) (t : Pos) : Prop := r.1 + r.2.2 = t.sz ∧ r.2.2 = t.low
theorem nat_gap (r : Int × Int × Int) (t : Pos) (h : natPos r t) (p : Ltr × Int) (hp : isBoxL p.1 = false) : natPos (natStep r (gapPart p).node) (gapStep t p) := by
  obtain ⟨c, x⟩ := p
  obtain ⟨h1, h2⟩ := h
  cases c <;> first | (simp [isBoxL] at hp; done) | skip
  all_goals simp only [natPos, gapPart, Part.node, natStep, gapStep, moves, if_true, Bool.false_eq_true, if_false]
  all_goals (refine ⟨?_, ?_⟩ <;> (try dsimp only) <;> omega)
theorem nat_gaps (g : List (Ltr × Int)) : ∀ (r : Int × Int × Int) (t : Pos) (h : natPos r t) (hp : ∀ p ∈ g, isBoxL p.1 = false), natPos ((g.map fun p => (gapPart p).node).foldl natStep r) (g.foldl gapStep t) := by
  induction g with
  | nil => intro r t h _; exact h
  | cons p g ih => intro r t h hp; exact ih _ _ (nat_gap r t h p (hp p (by simp))) (fun q hq => hp q (List.mem_cons_of_mem _ hq))
theorem nat_box (r : Int × Int × Int) (t : Pos) (h : r.1 + r.2.2 = t.sz) (x : Blk) (lab : Int) (hb : isBoxL x.c = true) : natPos (natStep r (Part.node ⟨x.c, x.h, x.d, lab⟩)) (boxStep t x) := by
  obtain ⟨c, h', d, gp, offs⟩ := x
  cases c <;> first | (simp [isBoxL] at hb; done) | skip
  all_goals simp only [natPos, Part.node, natStep, boxStep]
  all_goals (refine ⟨?_, ?_⟩ <;> (try dsimp only) <;> omega)
theorem gap_nobox {u : Int} {x : Blk} (hx : x.Ok u) : ∀ p ∈ x.gp, isBoxL p.1 = false := by
  intro p hp
  have ht := hx.tab
  have hm : p.1 ∈ x.gp.map (·.1) := List.mem_map_of_mem hp
  generalize x.gp.map (·.1) = ls at ht hm
  simp only [gapTab, List.mem_cons, Prod.mk.injEq, List.not_mem_nil, or_false] at ht
  rcases ht with ht | ht | ht | ht | ht | ht | ht | ht | ht | ht | ht | ht <;> obtain ⟨rfl, _⟩ := ht <;> simp at hm
  all_goals first | (rcases hm with hm | hm | hm <;> rw [hm] <;> rfl) | (rcases hm with hm | hm <;> rw [hm] <;> rfl) | (rw [hm]; rfl)
theorem nat_blk (u : Int) (x : Blk) (hx : x.Ok u) (lab : Int) (r : Int × Int × Int) (t : Pos) (h : r.1 + r.2.2 = t.sz) : natPos ((blkNodes lab x).foldl natStep r) (blkEnd t x) := by
  rw [blkNodes, blkParts, List.map_cons, List.map_map, List.foldl_cons]
  exact nat_gaps x.gp _ _ (nat_box r t h x lab hx.bx) (gap_nobox hx)
theorem nat_blks (u : Int) (bs : List Blk) : ∀ (lab : Int) (r : Int × Int × Int) (t : Pos) (h : r.1 + r.2.2 = t.sz) (hb : ∀ x ∈ bs, x.Ok u),
    ((colNodes lab bs).foldl natStep r).1 + ((colNodes lab bs).foldl natStep r).2.2 = (bs.foldl blkEnd t).sz := by
  induction bs with
  | nil => intro lab r t h _; exact h
  | cons x bs ih =>
    intro lab r t h hb
    rw [colNodes, List.foldl_append, List.foldl_cons]
    exact ih (lab + 1) _ _ (nat_blk u x (hb x (by simp)) lab r t h).1 (fun y hy => hb y (List.mem_cons_of_mem _ hy))

theorem nodes_split (bs : List Blk) : ∀ (lab : Int) (i : Nat) (x : Blk), bs[i]? = some x → colNodes lab bs = colNodes lab (bs.take i) ++ (blkNodes (lab + i) x ++ colNodes (lab + i + 1) (bs.drop (i + 1))) := by
  induction bs with
  | nil => intro lab i x h; simp at h
  | cons y r ih =>
    intro lab i x h
    cases i with
    | zero =>
      simp at h
      subst h
      simp [colNodes]
    | succ i =>
      have := ih (lab + 1) i x (by simpa using h)
      simp only [List.take_succ_cons, List.drop_succ_cons, colNodes, List.append_assoc]
      rw [this]
      have e : lab + 1 + (i : Int) = lab + ((i + 1 : Nat) : Int) := by push_cast; omega
      rw [e]
theorem blkNodes_len (lab : Int) (x : Blk) : (blkNodes lab x).length = 1 + x.gp.length := by simp [blkNodes, blkParts]; omega
theorem nodes_pos (bs : List Blk) : ∀ (lab : Int) (t : Pos), (bs.foldl blkEnd t).pos = t.pos + (colNodes lab bs).length := by
  induction bs with
  | nil => intro lab t; simp [colNodes]
  | cons x r ih =>
    intro lab t
    rw [List.foldl_cons, ih (lab + 1), blkEnd_pos, colNodes, List.length_append, blkNodes_len]
    push_cast; omega
theorem gap_tail {u : Int} {x : Blk} (hx : x.Ok u) {g1 g2 : List (Ltr × Int)} (e : x.gp = g1 ++ g2) (h : g2 = [] ∨ x.offs.contains (g1.length : Int) = true) : ∀ p ∈ g2, ((gapPart p).node).disc = true := by
  rcases h with h | h
  · intro p hp; rw [h] at hp; simp at hp
  intro p hp
  have hnb := gap_nobox hx p (by rw [e]; exact List.mem_append_right _ hp)
  have ht := hx.tab
  have nm : p.1 ≠ .m := by
    intro hm
    obtain ⟨c, hh, dd, gp, offs⟩ := x
    simp only at e h ht
    subst e
    have hin : p.1 ∈ g2.map (·.1) := List.mem_map_of_mem hp
    rw [List.map_append] at ht
    rw [← List.length_map (f := (·.1))] at h
    rw [hm] at hin
    generalize g1.map (·.1) = l1 at ht h
    generalize g2.map (·.1) = l2 at ht hin
    have hin2 : Ltr.m ∈ l1 ++ l2 := List.mem_append_right _ hin
    simp only [gapTab, List.mem_cons, Prod.mk.injEq, List.not_mem_nil, or_false] at ht
    rcases ht with ht | ht | ht | ht | ht | ht | ht | ht | ht | ht | ht | ht <;> obtain ⟨q, rfl⟩ := ht <;> (try (rw [q] at hin2; simp at hin2; done))
    match l1, q, h with
    | [], q, h => simp at h
    | a :: l1', q, h =>
      simp at q
      rw [← q.1] at q
      have : l2.length ≤ 1 := by
        have := congrArg List.length q.2
        simp at this; omega
      match l1', l2, q.2, hin with
      | [], l2, q, hin => simp at q; subst q; simp at hin
      | b :: l1'', [], q, hin => simp at hin
      | b :: l1'', c :: l2', q, hin => simp at q
  obtain ⟨c, v⟩ := p
  cases c <;> first | rfl | (exact absurd rfl nm) | (simp [isBoxL] at hnb)

theorem low_gaps (m : Int) (g : List (Ltr × Int)) : ∀ t : Pos, 0 ≤ t.low → t.low ≤ m → 0 ≤ (g.foldl gapStep t).low ∧ (g.foldl gapStep t).low ≤ m := by
  induction g with
  | nil => intro t a b; exact ⟨a, b⟩
  | cons p r ih =>
    intro t a b
    refine ih _ ?_ ?_ <;> (unfold gapStep; split <;> dsimp only <;> omega)
theorem blk_sz (u : Int) (bs : List Blk) : ∀ (t : Pos), (∀ x ∈ bs, x.Ok u) → (bs.foldl blkEnd t).sz = (bs.foldl blkEnd ⟨t.pos, t.sz, 0⟩).sz := by
  cases bs with
  | nil => intro t _; rfl
  | cons x r => intro t _; rfl
theorem stop_piece (cap many u : Int) (bs : List Blk) (lab : Int) (t : Pos) (hne : bs ≠ []) (hm : many = lab + bs.length - 1) (hb : ∀ x ∈ bs, x.Ok u) (s : Stp) (hs : s ∈ colStops cap many lab bs t) :
    ∃ (i : Nat) (y : Nd) (A dl : List Nd), i < bs.length ∧ s.lab = lab + i ∧ colNodes lab bs = (y :: A) ++ (dl ++ colNodes (lab + i + 1) (bs.drop (i + 1))) ∧ s.pl = t.pos + (y :: A).length ∧ y.stands = true ∧ (∀ x ∈ dl, x.disc = true) ∧
      ∀ r : Int × Int × Int, r.1 + r.2.2 = t.sz → ((y :: A).foldl natStep r).1 + ((y :: A).foldl natStep r).2.2 = s.sz ∧ s.hi = s.sz - mn cap ((y :: A).foldl natStep r).2.2 ∧ 0 ≤ ((y :: A).foldl natStep r).2.2 ∧ ((y :: A).foldl natStep r).2.2 ≤ 3 * u := by
  obtain ⟨i, x, g1, g2, h0, e, h1, h2, h3, h4, h5⟩ := col_cut cap many bs lab t hne hm s hs
  have hi : i < bs.length := by
    by_cases q : i < bs.length
    · exact q
    · rw [List.getElem?_eq_none (by omega)] at h0; cases h0
  have hxm : x ∈ bs := List.mem_of_getElem? h0
  have hx := hb x hxm
  have hpre : ∀ y ∈ bs.take i, y.Ok u := fun y hy => hb y (List.mem_of_mem_take hy)
  have hsp := nodes_split bs lab i x h0
  have eb : blkNodes (lab + i) x = Part.node ⟨x.c, x.h, x.d, lab + i⟩ :: (g1.map (fun p => (gapPart p).node) ++ g2.map (fun p => (gapPart p).node)) := by
    rw [blkNodes, blkParts, List.map_cons, List.map_map, e, List.map_append]; rfl
  have hpos := nodes_pos (bs.take i) lab t
  have e1 : (posAt bs t i) = (bs.take i).foldl blkEnd t := rfl
  have nb1 : ∀ p ∈ g1, isBoxL p.1 = false := fun p hp => gap_nobox hx p (by rw [e]; exact List.mem_append_left _ hp)
  have main : ∀ (W : List Nd), W = colNodes lab (bs.take i) ++ (Part.node ⟨x.c, x.h, x.d, lab + i⟩ :: g1.map (fun p => (gapPart p).node)) →
      ∀ r : Int × Int × Int, r.1 + r.2.2 = t.sz → (W.foldl natStep r).1 + (W.foldl natStep r).2.2 = s.sz ∧ s.hi = s.sz - mn cap (W.foldl natStep r).2.2 ∧ 0 ≤ (W.foldl natStep r).2.2 ∧ (W.foldl natStep r).2.2 ≤ 3 * u := by
    intro W hW r hr
    rw [hW, List.foldl_append, List.foldl_cons]
    have n1 := nat_blks u (bs.take i) lab r t hr hpre
    have n2 := nat_gaps g1 _ _ (nat_box _ (posAt bs t i) n1 x (lab + i) hx.bx) nb1
    have lb := low_gaps (3 * u) g1 (boxStep (posAt bs t i) x) hx.d0 hx.d1
    obtain ⟨n3, n4⟩ := n2
    rw [n3, n4]
    exact ⟨h2.symm, by rw [h3, h2]; rfl, lb.1, lb.2⟩
  have hd := gap_tail hx e h5
  have hd' : ∀ z ∈ g2.map (fun p => (gapPart p).node), z.disc = true := by
    intro z hz
    obtain ⟨p, hp, rfl⟩ := List.mem_map.mp hz
    exact hd p hp
  have hpl : s.pl = t.pos + (colNodes lab (bs.take i) ++ (Part.node ⟨x.c, x.h, x.d, lab + i⟩ :: g1.map (fun p => (gapPart p).node))).length := by
    rw [h1, foldl_pos, boxStep, e1]
    dsimp only
    rw [hpos]
    simp only [List.length_append, List.length_cons, List.length_map]
    push_cast; omega
  have hcol : colNodes lab bs = (colNodes lab (bs.take i) ++ (Part.node ⟨x.c, x.h, x.d, lab + i⟩ :: g1.map (fun p => (gapPart p).node))) ++ (g2.map (fun p => (gapPart p).node) ++ colNodes (lab + i + 1) (bs.drop (i + 1))) := by
    rw [hsp, eb]; simp
  obtain ⟨y, A, hA, hy⟩ : ∃ y A, colNodes lab (bs.take i) ++ (Part.node ⟨x.c, x.h, x.d, lab + i⟩ :: g1.map (fun p => (gapPart p).node)) = y :: A ∧ y.stands = true := by
    cases hc : colNodes lab (bs.take i) with
    | nil => exact ⟨_, _, rfl, box_stands hx.bx _ _ _⟩
    | cons y A =>
      refine ⟨y, _, rfl, ?_⟩
      have := colNodes_head lab (bs.take i) u hpre
      rw [hc] at this
      exact this y rfl
  rw [hA] at hcol hpl
  exact ⟨i, y, A, _, hi, h4, hcol, hpl, hy, hd', main _ hA.symm⟩
theorem natOf_hi (cap : Int) (l : List Nd) (sz hi : Int) (h1 : (l.foldl natStep (0, 0, 0)).1 + (l.foldl natStep (0, 0, 0)).2.2 = sz) (h2 : hi = sz - mn cap (l.foldl natStep (0, 0, 0)).2.2) : (natOf l cap).nat = hi := by
  unfold natOf mn at *
  dsimp only
  split <;> split at h2 <;> omega

noncomputable def Stp.sh (a b : Int) (s : Stp) : Stp := ⟨s.pl + a, s.lab, s.sz + b, s.hi + b, s.fc⟩
noncomputable def Pos.sh (a b : Int) (t : Pos) : Pos := ⟨t.pos + a, t.sz + b, t.low⟩
theorem pos_ext {a b c a' b' c' : Int} (h1 : a = a') (h2 : b = b') (h3 : c = c') : (⟨a, b, c⟩ : Pos) = ⟨a', b', c'⟩ := by rw [h1, h2, h3]
theorem stp_ext {a b c d e d' : Int} (h : d = d') : (⟨a, b, c, d, e⟩ : Stp) = ⟨a, b, c, d', e⟩ := by rw [h]
theorem gapStep_sh (a b : Int) (t : Pos) (p : Ltr × Int) : gapStep (t.sh a b) p = (gapStep t p).sh a b := by
  unfold gapStep Pos.sh
  split <;> refine pos_ext ?_ ?_ ?_ <;> (try dsimp only) <;> omega
theorem gaps_sh (a b : Int) (g : List (Ltr × Int)) : ∀ t : Pos, g.foldl gapStep (t.sh a b) = (g.foldl gapStep t).sh a b := by
  induction g with
  | nil => intro t; rfl
  | cons p r ih => intro t; rw [List.foldl_cons, gapStep_sh, ih]; rfl
theorem mkStp_sh (a b cap lab : Int) (t : Pos) (fc : Int) : mkStp cap lab (t.sh a b) fc = (mkStp cap lab t fc).sh a b := by
  unfold mkStp Pos.sh Stp.sh
  exact stp_ext (by dsimp only; omega)
theorem gapStops_sh (a b cap lab : Int) (offs : List Int) (g : List (Ltr × Int)) : ∀ (i : Int) (t : Pos), gapStops cap lab offs i g (t.sh a b) = (gapStops cap lab offs i g t).map (Stp.sh a b) := by
  induction g with
  | nil => intro i t; rfl
  | cons p r ih =>
    intro i t
    rw [gapStops, gapStops, gapStep_sh, ih, List.map_append]
    congr 1
    split
    · rw [mkStp_sh]; rfl
    · rfl
theorem boxStep_sh (a b l : Int) (t : Pos) (x : Blk) : boxStep ⟨t.pos + a, t.sz + b, l⟩ x = (boxStep t x).sh a b := by
  unfold boxStep Pos.sh
  exact pos_ext (by dsimp only; omega) (by dsimp only; omega) rfl
theorem colStops_sh0 (a b cap many : Int) (bs : List Blk) : ∀ (lab : Int) (t : Pos), colStops cap many lab bs (t.sh a b) = (colStops cap many lab bs t).map (Stp.sh a b) := by
  induction bs with
  | nil => intro lab t; rw [colStops, colStops, mkStp_sh]; rfl
  | cons x r ih =>
    intro lab t
    have e : boxStep (t.sh a b) x = (boxStep t x).sh a b := boxStep_sh a b t.low t x
    rw [colStops, colStops, blkStops, blkStops, blkEnd, blkEnd, e, gapStops_sh, gaps_sh, ih, List.map_append]
theorem colStops_sh (a b l cap many : Int) (x : Blk) (r : List Blk) (lab : Int) (t : Pos) : colStops cap many lab (x :: r) ⟨t.pos + a, t.sz + b, l⟩ = (colStops cap many lab (x :: r) t).map (Stp.sh a b) := by
  rw [colStops, colStops, blkStops, blkStops, blkEnd, blkEnd, boxStep_sh, gapStops_sh, gaps_sh, colStops_sh0, List.map_append]

noncomputable def pick (goal : Int) (l : List Stp) : Option Stp := match lastFit goal (nearOf l) with
  | some s => some s
  | none => l.head?
theorem due_pick (goal : Int) (l : List Stp) (s : Stp) (h : pick goal l = some s) : (dueOf goal l).1 = s.pl := by
  unfold pick at h
  unfold dueOf
  cases hl : lastFit goal (nearOf l) with
  | some a =>
    rw [hl] at h
    simp at h
    subst h
    dsimp only
    split <;> rfl
  | none =>
    rw [hl] at h
    cases l with
    | nil => simp at h
    | cons c r => simp at h; subst h; rfl
theorem pick_ex (goal : Int) (l : List Stp) (h : l ≠ []) : ∃ s, pick goal l = some s ∧ s ∈ l := by
  unfold pick
  cases hl : lastFit goal (nearOf l) with
  | some a => exact ⟨a, rfl, near_sub _ _ (lastFit_mem hl).1⟩
  | none =>
    cases l with
    | nil => exact absurd rfl h
    | cons c r => exact ⟨c, rfl, by simp⟩
theorem near_sh (a b : Int) : ∀ l : List Stp, nearOf (l.map (Stp.sh a b)) = (nearOf l).map (Stp.sh a b)
  | [] => rfl
  | s :: r => by
    rw [List.map_cons, nearOf, nearOf, near_sh a b r]
    show (if s.fc < 0 then _ else _) = _
    split <;> rfl
theorem lastFit_sh (a b goal : Int) (l : List Stp) : lastFit goal (l.map (Stp.sh a b)) = (lastFit (goal - b) l).map (Stp.sh a b) := by
  unfold lastFit
  rw [List.filter_map, List.getLast?_map]
  congr 2
  apply List.filter_congr
  intro s _
  have e : (s.sh a b).hi = s.hi + b := rfl
  by_cases q : s.hi + b ≤ goal
  · have q2 : s.hi ≤ goal - b := by omega
    simp [e, q, q2]
  · have q2 : ¬ s.hi ≤ goal - b := by omega
    simp [e, q, q2]
theorem pick_sh (a b goal : Int) (l : List Stp) : pick goal (l.map (Stp.sh a b)) = (pick (goal - b) l).map (Stp.sh a b) := by
  unfold pick
  rw [near_sh, lastFit_sh]
  cases lastFit (goal - b) (nearOf l) with
  | some s => rfl
  | none => simp [List.head?_map]

theorem posAt_succ (bs : List Blk) (t : Pos) (j : Nat) (x : Blk) (h : bs[j]? = some x) : posAt bs t (j + 1) = blkEnd (posAt bs t j) x := by
  unfold posAt
  rw [List.take_add_one, h, List.foldl_append]; rfl
theorem drop_cons {bs : List Blk} {j : Nat} {x : Blk} (h : bs[j]? = some x) : bs.drop j = x :: bs.drop (j + 1) := by
  obtain ⟨hj, rfl⟩ := List.getElem?_eq_some_iff.mp h
  exact List.drop_eq_getElem_cons hj
noncomputable def stopsFrom (cap : Int) (bs : List Blk) (j : Nat) : List Stp := colStops cap bs.length (j + 1) (bs.drop j) (posAt bs ⟨0, 0, 0⟩ j)
theorem stopsFrom_succ (cap : Int) (bs : List Blk) (j : Nat) (x : Blk) (h : bs[j]? = some x) : stopsFrom cap bs j = blkStops cap (j + 1) x (posAt bs ⟨0, 0, 0⟩ j) ++ stopsFrom cap bs (j + 1) := by
  unfold stopsFrom
  rw [drop_cons h, colStops, posAt_succ bs _ j x h]
  congr 2
theorem blkStops_lab (cap lab : Int) (x : Blk) (t : Pos) : ∀ s ∈ blkStops cap lab x t, s.lab = lab := by
  intro s hs
  obtain ⟨_, _, _, _, _, _, h, _⟩ := gap_cut cap lab x.offs x.gp 0 _ s hs
  exact h
theorem stopsFrom_lab (cap : Int) (bs : List Blk) (j : Nat) (hj : j < bs.length) : ∀ s ∈ stopsFrom cap bs j, (j : Int) < s.lab ∧ s.lab ≤ bs.length := by
  intro s hs
  have hne : bs.drop j ≠ [] := by
    intro h
    have := congrArg List.length h
    simp at this; omega
  have hl : (bs.drop j).length = bs.length - j := by simp
  obtain ⟨i, x, g1, g2, h0, _, _, _, _, h4, _⟩ := col_cut cap bs.length (bs.drop j) (j + 1) _ hne (by rw [hl]; omega) s hs
  obtain ⟨hi, _⟩ := List.getElem?_eq_some_iff.mp h0
  rw [hl] at hi
  omega
theorem stopsFrom_filter (cap : Int) (bs : List Blk) : ∀ (j : Nat), j < bs.length → (stopsFrom cap bs 0).filter (fun s => decide ((j : Int) < s.lab)) = stopsFrom cap bs j := by
  intro j
  induction j with
  | zero =>
    intro hj
    rw [List.filter_eq_self]
    intro s hs
    have := stopsFrom_lab cap bs 0 hj s hs
    simpa using this.1
  | succ j ih =>
    intro hj
    have ih := ih (by omega)
    have hx : bs[j]? = some bs[j] := List.getElem?_eq_getElem (by omega)
    have e : (stopsFrom cap bs 0).filter (fun s => decide (((j + 1 : Nat) : Int) < s.lab)) = ((stopsFrom cap bs 0).filter (fun s => decide ((j : Int) < s.lab))).filter (fun s => decide (((j + 1 : Nat) : Int) < s.lab)) := by
      rw [List.filter_filter]
      apply List.filter_congr
      intro s _
      by_cases q : ((j + 1 : Nat) : Int) < s.lab
      · have : (j : Int) < s.lab := by push_cast at q; omega
        simp [q, this]
      · simp; omega
    rw [e, ih, stopsFrom_succ cap bs j _ hx, List.filter_append]
    have a : (blkStops cap (j + 1) bs[j] (posAt bs ⟨0, 0, 0⟩ j)).filter (fun s => decide (((j + 1 : Nat) : Int) < s.lab)) = [] := by
      rw [List.filter_eq_nil_iff]
      intro s hs
      have := blkStops_lab _ _ _ _ s hs
      simp; omega
    have b : (stopsFrom cap bs (j + 1)).filter (fun s => decide (((j + 1 : Nat) : Int) < s.lab)) = stopsFrom cap bs (j + 1) := by
      rw [List.filter_eq_self]
      intro s hs
      have := stopsFrom_lab cap bs (j + 1) hj s hs
      simpa using this.1
    rw [a, b, List.nil_append]

theorem gaps_sz (u : Int) (g : List (Ltr × Int)) : ∀ t : Pos, (∀ p ∈ g, 0 ≤ p.2 ∧ p.2 ≤ 5 * u) → t.sz ≤ (g.foldl gapStep t).sz ∧ (g.foldl gapStep t).sz ≤ t.sz + g.length * (5 * u) := by
  induction g with
  | nil => intro t _; simp
  | cons p r ih =>
    intro t h
    have hp := h p (by simp)
    obtain ⟨i1, i2⟩ := ih (gapStep t p) (fun q hq => h q (List.mem_cons_of_mem _ hq))
    have e : t.sz ≤ (gapStep t p).sz ∧ (gapStep t p).sz ≤ t.sz + 5 * u := by
      unfold gapStep
      split <;> dsimp only <;> omega
    rw [List.foldl_cons, List.length_cons]
    have e2 : ((r.length + 1 : Nat) : Int) * (5 * u) = r.length * (5 * u) + 5 * u := by
      push_cast; rw [Int.add_mul, Int.one_mul]
    rw [e2]
    omega
theorem gap_len {u : Int} {x : Blk} (hx : x.Ok u) : x.gp.length ≤ 3 := by
  have ht := hx.tab
  rw [← List.length_map (f := (·.1))]
  generalize x.gp.map (·.1) = ls at ht
  simp only [gapTab, List.mem_cons, Prod.mk.injEq, List.not_mem_nil, or_false] at ht
  rcases ht with ht | ht | ht | ht | ht | ht | ht | ht | ht | ht | ht | ht <;> obtain ⟨rfl, _⟩ := ht <;> decide
theorem fold_wd (W : Int) (l : List Nd) : ∀ r : Int × Int × Int, 0 ≤ r.2.1 → r.2.1 ≤ W → (∀ x ∈ l, 0 ≤ x.across ∧ x.across ≤ W) → 0 ≤ (l.foldl natStep r).2.1 ∧ (l.foldl natStep r).2.1 ≤ W := by
  induction l with
  | nil => intro r a b _; exact ⟨a, b⟩
  | cons x l ih =>
    intro r a b h
    have hx := h x (by simp)
    refine ih _ ?_ ?_ (fun y hy => h y (List.mem_cons_of_mem _ hy))
    all_goals
      cases x <;> simp only [natStep, mx, Nd.across] at hx ⊢ <;> split <;> omega
theorem blk_bd {u : Int} (hu : 0 ≤ u) {x : Blk} (hx : x.Ok u) (t : Pos) : t.sz + x.h + x.d ≤ (blkEnd t x).sz ∧ (blkEnd t x).sz ≤ t.sz + 26 * u := by
  have g := gaps_sz u x.gp (boxStep t x) hx.g0
  have hl := gap_len hx
  have e : (boxStep t x).sz = t.sz + x.h + x.d := rfl
  have m : (x.gp.length : Int) * (5 * u) ≤ 3 * (5 * u) := Int.mul_le_mul_of_nonneg_right (by omega) (by omega)
  have := hx.h1
  have := hx.d1
  rw [e] at g
  have e2 : blkEnd t x = x.gp.foldl gapStep (boxStep t x) := rfl
  rw [e2]
  omega
theorem blks_bd {u : Int} (hu : 0 ≤ u) (bs : List Blk) : ∀ t : Pos, (∀ x ∈ bs, x.Ok u) → t.sz ≤ (bs.foldl blkEnd t).sz ∧ (bs.foldl blkEnd t).sz ≤ t.sz + bs.length * (26 * u) := by
  induction bs with
  | nil => intro t _; simp
  | cons x r ih =>
    intro t h
    have hx := h x (by simp)
    have b := blk_bd hu hx t
    have i := ih (blkEnd t x) (fun y hy => h y (List.mem_cons_of_mem _ hy))
    have := hx.h0
    have := hx.d0
    rw [List.foldl_cons, List.length_cons]
    have e2 : ((r.length + 1 : Nat) : Int) * (26 * u) = r.length * (26 * u) + 26 * u := by
      push_cast; rw [Int.add_mul, Int.one_mul]
    rw [e2]
    omega
theorem stop_bd {u : Int} (hu : 0 ≤ u) (cap many : Int) (bs : List Blk) : ∀ (lab : Int) (t : Pos), (∀ x ∈ bs, x.Ok u) → ∀ s ∈ colStops cap many lab bs t, t.sz ≤ s.sz ∧ s.sz ≤ t.sz + bs.length * (26 * u) := by
  induction bs with
  | nil =>
    intro lab t _ s hs
    simp [colStops, mkStp] at hs
    subst hs
    simp
  | cons x r ih =>
    intro lab t h s hs
    have hx := h x (by simp)
    have b := blk_bd hu hx t
    have := hx.h0
    have := hx.d0
    have := hx.h1
    have := hx.d1
    have e2 : ((r.length + 1 : Nat) : Int) * (26 * u) = r.length * (26 * u) + 26 * u := by
      push_cast; rw [Int.add_mul, Int.one_mul]
    have nn : 0 ≤ (r.length : Int) * (26 * u) := Int.mul_nonneg (by omega) (by omega)
    rw [List.length_cons, e2]
    rw [colStops] at hs
    rcases List.mem_append.mp hs with hs | hs
    · obtain ⟨g1, g2, e, _, h2, _⟩ := gap_cut cap lab x.offs x.gp 0 (boxStep t x) s hs
      have g0 := hx.g0
      rw [e] at g0
      have b1 := gaps_sz u g1 (boxStep t x) (fun p hp => g0 p (List.mem_append_left _ hp))
      have hl := gap_len hx
      rw [e, List.length_append] at hl
      have m : (g1.length : Int) * (5 * u) ≤ 3 * (5 * u) := Int.mul_le_mul_of_nonneg_right (by omega) (by omega)
      have e3 : (boxStep t x).sz = t.sz + x.h + x.d := rfl
      rw [e3] at b1
      omega
    · have := ih (lab + 1) (blkEnd t x) (fun y hy => h y (List.mem_cons_of_mem _ hy)) s hs
      omega

noncomputable def roomOf (top : Int) (x : Blk) : Int := mx 0 (top - x.h)
noncomputable def itemsFrom (top : Int) (bs : List Blk) (j : Nat) : List Nd := match bs.drop j with
  | [] => []
  | x :: r => if j = 0 then colNodes 1 bs else .glue (roomOf top x) 108 :: colNodes (j + 1) (x :: r)
theorem node_hgt {c : Ltr} (h : isBoxL c = true) (a d l : Int) : (Part.node ⟨c, a, d, l⟩).hgt = a := by
  cases c <;> first | rfl | (simp [isBoxL] at h)
theorem prune_items (u top : Int) (bs : List Blk) (j : Nat) (hb : ∀ x ∈ bs, x.Ok u) (hj : j ≠ 0) : pruneOf top (colNodes (j + 1) (bs.drop j)) = itemsFrom top bs j := by
  unfold itemsFrom
  cases hd : bs.drop j with
  | nil => rfl
  | cons x r =>
    have hx := hb x (List.mem_of_mem_drop (i := j) (by rw [hd]; simp))
    have e := node_hgt hx.bx x.h x.d (j + 1)
    dsimp only
    rw [if_neg hj]
    show pruneOf top (Part.node ⟨x.c, x.h, x.d, _⟩ :: _) = _
    rw [pruneOf, e]
    rfl
noncomputable def offA (top : Int) (bs : List Blk) (j : Nat) : Int := if j = 0 then 0 else 1 - (posAt bs ⟨0, 0, 0⟩ j).pos
noncomputable def offB (top : Int) (bs : List Blk) (j : Nat) : Int := match bs[j]? with
  | some x => if j = 0 then 0 else roomOf top x - (posAt bs ⟨0, 0, 0⟩ j).sz
  | none => 0
theorem piece_due (goal cap u top : Int) (bs : List Blk) (j : Nat) (hj : j < bs.length) (hb : ∀ x ∈ bs, x.Ok u) (n : Int) :
    bbGo goal cap (itemsFrom top bs j) none (0, 0) 0 (n, 1073741823, 0) = dueOf goal ((stopsFrom cap bs j).map (Stp.sh (offA top bs j) (offB top bs j))) := by
  have hx : bs[j]? = some bs[j] := List.getElem?_eq_getElem hj
  have hd := drop_cons hx
  unfold itemsFrom offA offB stopsFrom
  rw [hx, hd]
  dsimp only
  by_cases q : j = 0
  · subst q
    have hd0 : bs = bs[0] :: bs.drop 1 := by simpa using hd
    simp only [if_true]
    rw [← hd]
    have e : ∀ l : List Stp, l.map (Stp.sh 0 0) = l := by
      intro l
      have : Stp.sh 0 0 = id := by funext s; simp [Stp.sh]
      rw [this, List.map_id]
    rw [e]
    exact bb_due goal cap bs.length u bs 1 ⟨0, 0, 0⟩ 0 0 rfl (fun h => by rw [h] at hj; simp at hj) (by simp) hb none 0 rfl n
  · rw [if_neg q, if_neg q, if_neg q]
    have hb' : ∀ y ∈ bs[j] :: bs.drop (j + 1), y.Ok u := by
      intro y hy
      rw [← hd] at hy
      exact hb y (List.mem_of_mem_drop hy)
    rw [bb_due_top goal cap bs.length u (roomOf top bs[j]) 108 bs[j] (bs.drop (j + 1)) (j + 1) hb' n]
    have := colStops_sh (1 - (posAt bs ⟨0, 0, 0⟩ j).pos) (roomOf top bs[j] - (posAt bs ⟨0, 0, 0⟩ j).sz) 0 cap bs.length bs[j] (bs.drop (j + 1)) (j + 1) (posAt bs ⟨0, 0, 0⟩ j)
    rw [← this]
    congr 2
    rw [show (posAt bs ⟨0, 0, 0⟩ j).pos + (1 - (posAt bs ⟨0, 0, 0⟩ j).pos) = 1 by omega, show (posAt bs ⟨0, 0, 0⟩ j).sz + (roomOf top bs[j] - (posAt bs ⟨0, 0, 0⟩ j).sz) = roomOf top bs[j] by omega]

theorem nat_sh (a : Int) (l : List Nd) : ∀ r : Int × Int × Int, l.foldl natStep (r.1 + a, r.2.1, r.2.2) = ((l.foldl natStep r).1 + a, (l.foldl natStep r).2.1, (l.foldl natStep r).2.2) := by
  induction l with
  | nil => intro r; rfl
  | cons x l ih =>
    intro r
    rw [List.foldl_cons, List.foldl_cons, ← ih]
    congr 1
    cases x <;> simp only [natStep, Prod.mk.injEq] <;> first | trivial | (refine ⟨?_, trivial⟩; omega) | (refine ⟨?_, rfl, trivial⟩; omega) | omega | simp | (simp; omega)
theorem piece_cut (cap u top : Int) (bs : List Blk) (j : Nat) (hj : j < bs.length) (hb : ∀ x ∈ bs, x.Ok u) (s : Stp) (hs : s ∈ stopsFrom cap bs j) :
    ∃ (e : Nat) (x1 : Nd) (A dl : List Nd), j < e ∧ e ≤ bs.length ∧ s.lab = e ∧ itemsFrom top bs j = (x1 :: A) ++ (dl ++ colNodes (e + 1) (bs.drop e)) ∧ s.pl + offA top bs j = (x1 :: A).length ∧ (∀ x ∈ dl, x.disc = true) ∧
      (natOf (x1 :: A) cap).nat = s.hi + offB top bs j := by
  have hx : bs[j]? = some bs[j] := List.getElem?_eq_getElem hj
  have hd := drop_cons hx
  have hl : (bs.drop j).length = bs.length - j := by simp
  have hne : bs.drop j ≠ [] := by rw [hd]; exact List.cons_ne_nil _ _
  have hb' : ∀ y ∈ bs.drop j, y.Ok u := fun y hy => hb y (List.mem_of_mem_drop hy)
  obtain ⟨i, y, A, dl, hi, h1, h2, h3, h4, h5, h6⟩ := stop_piece cap bs.length u (bs.drop j) (j + 1) (posAt bs ⟨0, 0, 0⟩ j) hne (by rw [hl]; omega) hb' s hs
  rw [hl] at hi
  have ed : (bs.drop j).drop (i + 1) = bs.drop (j + i + 1) := by rw [List.drop_drop]; congr 1
  have el : ((j : Int) + 1 + i + 1) = ((j + i + 1 : Nat) : Int) + 1 := by push_cast; omega
  rw [ed, el] at h2
  by_cases q : j = 0
  · subst q
    refine ⟨0 + i + 1, y, A, dl, by omega, by omega, by rw [h1]; push_cast; omega, ?_, ?_, h5, ?_⟩
    · rw [← h2]
      unfold itemsFrom
      rw [hd]
      dsimp only
      rw [if_pos rfl, ← hd]
      simp
    · rw [h3]; simp [offA, posAt]
    · have p0 : (0 : Int) + 0 = (posAt bs ⟨0, 0, 0⟩ 0).sz := by simp [posAt]
      have := h6 (0, 0, 0) p0
      have o : offB top bs 0 = 0 := by unfold offB; split <;> rfl
      rw [o, Int.add_zero]
      exact natOf_hi cap _ s.sz s.hi this.1 this.2.1
  · refine ⟨j + i + 1, .glue (roomOf top bs[j]) 108, y :: A, dl, by omega, by omega, by rw [h1]; push_cast; omega, ?_, ?_, h5, ?_⟩
    · unfold itemsFrom
      rw [hd]
      dsimp only
      rw [if_neg q, ← hd, h2]
      rfl
    · rw [h3]; simp only [offA, q, if_false, List.length_cons]; push_cast; omega
    · have ob : offB top bs j = roomOf top bs[j] - (posAt bs ⟨0, 0, 0⟩ j).sz := by simp [offB, hx, q]
      have := h6 ((posAt bs ⟨0, 0, 0⟩ j).sz, 0, 0) (by simp)
      have e0 : (Nd.glue (roomOf top bs[j]) 108 :: y :: A).foldl natStep (0, 0, 0) = (y :: A).foldl natStep ((posAt bs ⟨0, 0, 0⟩ j).sz + offB top bs j, 0, 0) := by
        rw [List.foldl_cons, ob]
        congr 1
        simp only [natStep, mx, Prod.mk.injEq]
        refine ⟨by omega, ?_⟩
        simp
      have e1 := nat_sh (offB top bs j) (y :: A) ((posAt bs ⟨0, 0, 0⟩ j).sz, 0, 0)
      refine natOf_hi cap _ (s.sz + offB top bs j) _ ?_ ?_
      · rw [e0, e1]; dsimp only; omega
      · rw [e0, e1]; dsimp only; omega

theorem node_across (W : Int) (hW : 0 ≤ W) (p : Part) (h : 0 ≤ p.l ∧ p.l ≤ W) : 0 ≤ p.node.across ∧ p.node.across ≤ W := by
  obtain ⟨c, a, d, l⟩ := p
  cases c <;> simp only [Part.node, Nd.across] at h ⊢ <;> omega
theorem col_across (W : Int) (bs : List Blk) : ∀ lab : Int, 0 ≤ lab → lab + bs.length ≤ W + 1 → ∀ x ∈ colNodes lab bs, 0 ≤ x.across ∧ x.across ≤ W := by
  induction bs with
  | nil => intro lab _ _ x hx; simp [colNodes] at hx
  | cons b r ih =>
    intro lab h0 h1 x hx
    rw [List.length_cons] at h1
    push_cast at h1
    rw [colNodes] at hx
    rcases List.mem_append.mp hx with hx | hx
    · obtain ⟨p, hp, rfl⟩ := List.mem_map.mp hx
      refine node_across W (by omega) p ?_
      rcases List.mem_cons.mp hp with hp | hp
      · subst hp; dsimp only; omega
      · obtain ⟨q, _, rfl⟩ := List.mem_map.mp hp
        simp only [gapPart]; omega
    · exact ih (lab + 1) (by omega) (by omega) x hx
theorem colNodes_len {u : Int} (bs : List Blk) : ∀ lab : Int, (∀ x ∈ bs, x.Ok u) → (colNodes lab bs).length ≤ 4 * bs.length := by
  induction bs with
  | nil => intro lab _; simp [colNodes]
  | cons b r ih =>
    intro lab h
    have := gap_len (h b (by simp))
    have := ih (lab + 1) (fun y hy => h y (List.mem_cons_of_mem _ hy))
    rw [colNodes, List.length_append, blkNodes_len, List.length_cons]
    omega

theorem items_len {u : Int} (top : Int) (bs : List Blk) (j : Nat) (hb : ∀ x ∈ bs, x.Ok u) : (itemsFrom top bs j).length ≤ 4 * bs.length + 1 := by
  unfold itemsFrom
  cases hd : bs.drop j with
  | nil => simp
  | cons x r =>
    have hl : (x :: r).length ≤ bs.length := by rw [← hd]; simp
    have h1 := colNodes_len (u := u) bs 1 hb
    have h2 := colNodes_len (u := u) (x :: r) (j + 1) (fun y hy => hb y (List.mem_of_mem_drop (i := j) (by rw [hd]; exact hy)))
    dsimp only
    split
    · omega
    · rw [List.length_cons]; omega
theorem items_across {u : Int} (top : Int) (bs : List Blk) (j : Nat) (hj : j ≤ bs.length) : ∀ x ∈ itemsFrom top bs j, 0 ≤ x.across ∧ x.across ≤ bs.length := by
  intro y hy
  unfold itemsFrom at hy
  cases hd : bs.drop j with
  | nil => rw [hd] at hy; simp at hy
  | cons x r =>
    rw [hd] at hy
    have hl : (x :: r).length = bs.length - j := by rw [← hd]; simp
    dsimp only at hy
    split at hy
    · exact col_across bs.length bs 1 (by omega) (by omega) y hy
    · rcases List.mem_cons.mp hy with hy | hy
      · subst hy; simp [Nd.across]
      · exact col_across bs.length (x :: r) (j + 1) (by omega) (by omega) y hy
theorem fold_dp (u : Int) (hu : 0 ≤ u) (l : List Nd) : ∀ r : Int × Int × Int, 0 ≤ r.2.2 → r.2.2 ≤ 3 * u → (∀ x ∈ l, x.stands = true → 0 ≤ x.dep ∧ x.dep ≤ 3 * u) → 0 ≤ (l.foldl natStep r).2.2 ∧ (l.foldl natStep r).2.2 ≤ 3 * u := by
  induction l with
  | nil => intro r a b _; exact ⟨a, b⟩
  | cons x l ih =>
    intro r a b h
    have hx := h x (by simp)
    refine ih _ ?_ ?_ (fun y hy => h y (List.mem_cons_of_mem _ hy))
    all_goals
      cases x <;> simp only [natStep, Nd.stands, Nd.dep, true_implies] at hx ⊢ <;> omega

theorem natOf_parts (cap : Int) (l : List Nd) : (natOf l cap).nat + (natOf l cap).dp = (l.foldl natStep (0, 0, 0)).1 + (l.foldl natStep (0, 0, 0)).2.2 ∧ (natOf l cap).dp = mn cap (l.foldl natStep (0, 0, 0)).2.2 ∧ (natOf l cap).wd = (l.foldl natStep (0, 0, 0)).2.1 := by
  unfold natOf mn
  dsimp only
  refine ⟨by split <;> omega, by split <;> split <;> omega, rfl⟩
theorem cols_total {u : Int} (hu : 0 ≤ u) (bs : List Blk) (lab : Int) (r : Int × Int × Int) (hb : ∀ x ∈ bs, x.Ok u) :
    r.1 + r.2.2 ≤ ((colNodes lab bs).foldl natStep r).1 + ((colNodes lab bs).foldl natStep r).2.2 ∧ ((colNodes lab bs).foldl natStep r).1 + ((colNodes lab bs).foldl natStep r).2.2 ≤ r.1 + r.2.2 + bs.length * (26 * u) := by
  rw [nat_blks u bs lab r ⟨0, r.1 + r.2.2, 0⟩ rfl hb]
  exact blks_bd hu bs ⟨0, r.1 + r.2.2, 0⟩ hb
theorem items_total {u : Int} (hu : 0 ≤ u) (top : Int) (ht0 : 0 ≤ top) (ht : top ≤ 12 * u) (bs : List Blk) (j : Nat) (hj : j < bs.length) (hb : ∀ x ∈ bs, x.Ok u) :
    0 ≤ ((itemsFrom top bs j).foldl natStep (0, 0, 0)).1 + ((itemsFrom top bs j).foldl natStep (0, 0, 0)).2.2 ∧ ((itemsFrom top bs j).foldl natStep (0, 0, 0)).1 + ((itemsFrom top bs j).foldl natStep (0, 0, 0)).2.2 ≤ 12 * u + bs.length * (26 * u) := by
  have hx : bs[j]? = some bs[j] := List.getElem?_eq_getElem hj
  have hd := drop_cons hx
  have hxo := hb bs[j] (List.getElem_mem hj)
  have h0 := hxo.h0
  unfold itemsFrom
  rw [hd]
  dsimp only
  split
  · have := cols_total hu bs 1 (0, 0, 0) hb
    dsimp only at this
    omega
  · rw [← hd, List.foldl_cons]
    have hb' : ∀ y ∈ bs.drop j, y.Ok u := fun y hy => hb y (List.mem_of_mem_drop hy)
    have := cols_total hu (bs.drop j) (j + 1) (natStep (0, 0, 0) (.glue (roomOf top bs[j]) 108)) hb'
    have e : (natStep (0, 0, 0) (.glue (roomOf top bs[j]) 108)).1 + (natStep (0, 0, 0) (.glue (roomOf top bs[j]) 108)).2.2 = roomOf top bs[j] := by simp [natStep]
    rw [e] at this
    have r0 : 0 ≤ roomOf top bs[j] ∧ roomOf top bs[j] ≤ 12 * u := by unfold roomOf mx; split <;> omega
    have hl : ((bs.drop j).length : Int) ≤ bs.length := by simp
    have m : ((bs.drop j).length : Int) * (26 * u) ≤ bs.length * (26 * u) := Int.mul_le_mul_of_nonneg_right hl (by omega)
    omega

theorem node_dep (u : Int) (hu : 0 ≤ u) (p : Part) (h : 0 ≤ p.d ∧ p.d ≤ 3 * u) : p.node.stands = true → 0 ≤ p.node.dep ∧ p.node.dep ≤ 3 * u := by
  obtain ⟨c, a, d, l⟩ := p
  cases c <;> simp only [Part.node, Nd.dep, Nd.stands] at h ⊢ <;> (intro hh; first | exact h | cases hh)
theorem col_dep {u : Int} (hu : 0 ≤ u) (bs : List Blk) : ∀ lab : Int, (∀ x ∈ bs, x.Ok u) → ∀ x ∈ colNodes lab bs, x.stands = true → 0 ≤ x.dep ∧ x.dep ≤ 3 * u := by
  induction bs with
  | nil => intro lab _ x hx; simp [colNodes] at hx
  | cons b r ih =>
    intro lab h x hx
    have hb := h b (by simp)
    rw [colNodes] at hx
    rcases List.mem_append.mp hx with hx | hx
    · obtain ⟨p, hp, rfl⟩ := List.mem_map.mp hx
      refine node_dep u hu p ?_
      rcases List.mem_cons.mp hp with hp | hp
      · subst hp; exact ⟨hb.d0, hb.d1⟩
      · obtain ⟨q, _, rfl⟩ := List.mem_map.mp hp
        simp only [gapPart]; omega
    · exact ih (lab + 1) (fun y hy => h y (List.mem_cons_of_mem _ hy)) x hx
theorem items_dep {u : Int} (hu : 0 ≤ u) (top : Int) (bs : List Blk) (j : Nat) (hb : ∀ x ∈ bs, x.Ok u) : ∀ x ∈ itemsFrom top bs j, x.stands = true → 0 ≤ x.dep ∧ x.dep ≤ 3 * u := by
  intro y hy
  unfold itemsFrom at hy
  cases hd : bs.drop j with
  | nil => rw [hd] at hy; simp at hy
  | cons x r =>
    rw [hd] at hy
    dsimp only at hy
    split at hy
    · exact col_dep hu bs 1 hb y hy
    · rcases List.mem_cons.mp hy with hy | hy
      · subst hy; intro hh; simp [Nd.stands] at hh
      · exact col_dep hu (x :: r) (j + 1) (fun z hz => hb z (List.mem_of_mem_drop (i := j) (by rw [hd]; exact hz))) y hy

structure ColOk (u cap top : Int) (bs : List Blk) : Prop where
  u0 : 0 ≤ u
  u1 : u ≤ 4000000
  c0 : -u ≤ cap
  c1 : cap ≤ 20 * u
  t0 : 0 ≤ top
  t1 : top ≤ 12 * u
  n1 : 0 < bs.length
  n7 : bs.length ≤ 7
  ok : ∀ x ∈ bs, x.Ok u
theorem natOf_bd {u cap top : Int} {bs : List Blk} (hc : ColOk u cap top bs) (l : List Nd) (W : Int) (hW : W ≤ 7) (ha : ∀ x ∈ l, 0 ≤ x.across ∧ x.across ≤ W) (hd : ∀ x ∈ l, x.stands = true → 0 ≤ x.dep ∧ x.dep ≤ 3 * u) (w0 : 0 ≤ W) :
    0 ≤ (natOf l cap).wd ∧ (natOf l cap).wd ≤ W ∧ -u ≤ (natOf l cap).dp ∧ (natOf l cap).dp ≤ 3 * u := by
  obtain ⟨_, h2, h3⟩ := natOf_parts cap l
  have f1 := fold_wd W l (0, 0, 0) (by simp) w0 ha
  have f2 := fold_dp u hc.u0 l (0, 0, 0) (by simp) (by have := hc.u0; dsimp only; omega) hd
  have := hc.c0
  have := hc.c1
  have := hc.u0
  rw [h2, h3]
  unfold mn
  refine ⟨f1.1, f1.2, ?_, ?_⟩ <;> split <;> omega
theorem piece_turn (k : Nat) {u cap top : Int} {bs : List Blk} (hc : ColOk u cap top bs) (goal : Int) (g1 : -1073741823 ≤ goal) (g2 : goal ≤ 1073741823) (j : Nat) (hj : j < bs.length) (s : Stp) (hs : pick (goal - offB top bs j) (stopsFrom cap bs j) = some s) (wd h0 dp0 : Int) {σ : Sto} (hσ : Pre σ) (hl : lists σ = true) :
    ∃ (e : Nat) (x1 : Nd) (A dl : List Nd) (wa da wb hb db : Int) (md : D), j < e ∧ e ≤ bs.length ∧ s.lab = e ∧ itemsFrom top bs j = (x1 :: A) ++ (dl ++ colNodes (e + 1) (bs.drop e)) ∧ s.pl + offA top bs j = (x1 :: A).length ∧ (∀ x ∈ dl, x.disc = true) ∧
      F (k + 6) 37 [.d (boxD 3 wd h0 dp0 (.lst ((itemsFrom top bs j).map Nd.toD))), .d (.int goal), .d (.int cap), .d (.int cap), .d (glueD top)] σ =
      some (.d (.tup [boxD 3 wa goal da (.lst ((x1 :: A).map Nd.toD)), (if e = bs.length then .none else boxD 3 wb hb db (.lst ((itemsFrom top bs e).map Nd.toD))), md, rep (goal - (s.hi + offB top bs j))]), σ) := by
  have hsm : s ∈ stopsFrom cap bs j := by
    unfold pick at hs
    cases hf : lastFit (goal - offB top bs j) (nearOf (stopsFrom cap bs j)) with
    | some a => rw [hf] at hs; simp at hs; subst hs; exact near_sub _ _ (lastFit_mem hf).1
    | none => rw [hf] at hs; exact List.mem_of_head? hs
  obtain ⟨e, x1, A, dl, e1, e2, e3, e4, e5, e6, e7⟩ := piece_cut cap u top bs j hj hc.ok s hsm
  have hdue := piece_due goal cap u top bs j hj hc.ok (itemsFrom top bs j).length
  have hpk := due_pick goal ((stopsFrom cap bs j).map (Stp.sh (offA top bs j) (offB top bs j))) (s.sh (offA top bs j) (offB top bs j)) (by rw [pick_sh, hs]; rfl)
  have hp : (bbGo goal cap (itemsFrom top bs j) none (0, 0) 0 ((itemsFrom top bs j).length, 1073741823, 0)).1 = (((x1 :: A).length : Nat) : Int) := by
    rw [hdue, hpk, ← e5]; rfl
  have hlen := items_len top bs j hc.ok
  have hn7 := hc.n7
  have hu0 := hc.u0
  have hu1 := hc.u1
  have hc0 := hc.c0
  have hc1 := hc.c1
  have ht0 := hc.t0
  have ht1 := hc.t1
  have hW : (bs.length : Int) ≤ 7 := by omega
  have hacr := items_across (u := u) top bs j (by omega)
  have hdep := items_dep hc.u0 top bs j hc.ok
  have hsub : ∀ x ∈ x1 :: A, x ∈ itemsFrom top bs j := fun x hx => by rw [e4]; exact List.mem_append_left _ hx
  have ba := natOf_bd hc (x1 :: A) bs.length hW (fun x hx => hacr x (hsub x hx)) (fun x hx => hdep x (hsub x hx)) (by omega)
  have htk : (itemsFrom top bs j).take (x1 :: A).length = x1 :: A := by rw [e4, List.take_left]
  have hdr : (itemsFrom top bs j).drop (x1 :: A).length = dl ++ colNodes (e + 1) (bs.drop e) := by rw [e4, List.drop_left]
  have hpi := prune_items u top bs e hc.ok (by omega)
  have bb := natOf_bd hc (itemsFrom top bs e) bs.length hW (items_across (u := u) top bs e e2) (items_dep hc.u0 top bs e hc.ok) (by omega)
  have bn : -1073741823 ≤ (natOf (itemsFrom top bs e) cap).nat ∧ (natOf (itemsFrom top bs e) cap).nat ≤ 1073741823 := by
    obtain ⟨q1, q2, q3⟩ := natOf_parts cap (itemsFrom top bs e)
    by_cases q : e < bs.length
    · have := items_total hc.u0 top ht0 ht1 bs e q hc.ok
      have m : (bs.length : Int) * (26 * u) ≤ 7 * (26 * u) := Int.mul_le_mul_of_nonneg_right hW (by omega)
      omega
    · have z : itemsFrom top bs e = [] := by
        unfold itemsFrom
        rw [List.drop_eq_nil_of_le (by omega)]
      rw [z] at q1 q2 bb ⊢
      simp only [List.foldl_nil] at q1
      omega
  have hhead := colNodes_head (e + 1) (bs.drop e) u (fun x hx => hc.ok x (List.mem_of_mem_drop hx))
  have hroom : ∀ x ∈ (colNodes (e + 1) (bs.drop e)).head?, -1073741823 ≤ mx 0 (top - x.hgt) ∧ mx 0 (top - x.hgt) ≤ 1073741823 := by
    intro x hx
    cases hd : bs.drop e with
    | nil => rw [hd] at hx; simp [colNodes] at hx
    | cons y r =>
      have hy := hc.ok y (List.mem_of_mem_drop (i := e) (by rw [hd]; simp))
      have hh := node_hgt hy.bx y.h y.d (e + 1)
      rw [hd] at hx
      have ex : x = Part.node ⟨y.c, y.h, y.d, (e : Int) + 1⟩ := by
        simp [colNodes, blkNodes, blkParts] at hx
        exact hx.symm
      have := hy.h0
      rw [ex, hh]
      unfold mx
      split <;> omega
  obtain ⟨md, hv⟩ := vsplit_ok k (itemsFrom top bs j) 3 wd h0 dp0 goal cap top hσ hl (by omega) g1 g2 (by omega) (by omega) (x1 :: A).length hp x1 A htk dl (colNodes (e + 1) (bs.drop e)) hdr e6 hhead hroom (natOf (x1 :: A) cap) rfl (by omega) (by omega) (by omega) (by omega) (natOf (itemsFrom top bs e) cap) (by rw [hpi]) (by omega) (by omega) (by omega) (by omega) bn.1 bn.2
  refine ⟨e, x1, A, dl, (natOf (x1 :: A) cap).wd, (natOf (x1 :: A) cap).dp, (natOf (itemsFrom top bs e) cap).wd, (natOf (itemsFrom top bs e) cap).nat, (natOf (itemsFrom top bs e) cap).dp, md, e1, e2, e3, e4, e5, e6, ?_⟩
  rw [hv, e7, hpi]
  have eif : (if colNodes (e + 1) (bs.drop e) = [] then D.none else boxD 3 (natOf (itemsFrom top bs e) cap).wd (natOf (itemsFrom top bs e) cap).nat (natOf (itemsFrom top bs e) cap).dp (.lst ((itemsFrom top bs e).map Nd.toD))) = (if e = bs.length then D.none else boxD 3 (natOf (itemsFrom top bs e) cap).wd (natOf (itemsFrom top bs e) cap).nat (natOf (itemsFrom top bs e) cap).dp (.lst ((itemsFrom top bs e).map Nd.toD))) := by
    by_cases q : e = bs.length
    · have z : colNodes ((e : Int) + 1) (bs.drop e) = [] := by rw [List.drop_eq_nil_of_le (by omega)]; rfl
      rw [if_pos z, if_pos q]
    · have hx : bs[e]? = some (bs[e]'(by omega)) := List.getElem?_eq_getElem (by omega)
      have z : ¬ colNodes ((e : Int) + 1) (bs.drop e) = [] := by rw [drop_cons hx]; simp [colNodes, blkNodes, blkParts]
      rw [if_neg z, if_neg q]
  rw [eif]

noncomputable def rng (a : Int) (k : Nat) : List D := (List.range k).map fun (i : Nat) => D.int (a + (i : Int))
theorem rng_len (a : Int) (k : Nat) : (rng a k).length = k := by simp [rng]
theorem rng_zero (a : Int) : rng a 0 = [] := rfl
theorem rng_add (a : Int) (m k : Nat) : rng a (m + k) = rng a m ++ rng (a + m) k := by
  unfold rng
  rw [List.range_add, List.map_append, List.map_map]
  congr 1
  apply List.map_congr_left
  intro i _
  exact congrArg D.int ((congrArg (a + ·) (Int.natCast_add m i)).trans (Int.add_assoc a m i).symm)
theorem rng_succ (a : Int) (k : Nat) : rng a (k + 1) = .int a :: rng (a + 1) k := by
  rw [Nat.add_comm, rng_add]
  simp [rng]
noncomputable def labs (l : List Nd) : List D := l.filterMap fun x => if x.stands then some (.int x.across) else none
theorem labs_append (a b : List Nd) : labs (a ++ b) = labs a ++ labs b := List.filterMap_append
theorem labs_nil {l : List Nd} (h : ∀ x ∈ l, x.stands = false) : labs l = [] := by
  unfold labs
  rw [List.filterMap_eq_nil_iff]
  intro x hx
  simp [h x hx]
theorem disc_nostand {x : Nd} (h : x.disc = true) : x.stands = false := by cases x <;> first | rfl | (simp [Nd.disc] at h)
theorem gap_nostand {p : Ltr × Int} (h : isBoxL p.1 = false) : ((gapPart p).node).stands = false := by
  obtain ⟨c, v⟩ := p
  cases c <;> first | rfl | (simp [isBoxL] at h)
theorem labs_blk {u : Int} {x : Blk} (hx : x.Ok u) (lab : Int) : labs (blkNodes lab x) = [.int lab] := by
  rw [blkNodes, blkParts, List.map_cons, List.map_map]
  have e : labs (x.gp.map (Part.node ∘ gapPart)) = [] := by
    refine labs_nil fun y hy => ?_
    obtain ⟨p, hp, rfl⟩ := List.mem_map.mp hy
    exact gap_nostand (gap_nobox hx p hp)
  have e2 : labs [Part.node ⟨x.c, x.h, x.d, lab⟩] = [.int lab] := by
    have hb := hx.bx
    obtain ⟨c, h, d, gp, offs⟩ := x
    cases c <;> first | rfl | (simp [isBoxL] at hb)
  have := labs_append [Part.node ⟨x.c, x.h, x.d, lab⟩] (x.gp.map (Part.node ∘ gapPart))
  rw [e, e2] at this
  exact this
theorem labs_col {u : Int} (bs : List Blk) : ∀ lab : Int, (∀ x ∈ bs, x.Ok u) → labs (colNodes lab bs) = rng lab bs.length := by
  induction bs with
  | nil => intro lab _; rfl
  | cons x r ih =>
    intro lab h
    rw [colNodes, labs_append, labs_blk (h x (by simp)), ih (lab + 1) (fun y hy => h y (List.mem_cons_of_mem _ hy)), List.length_cons, rng_succ]
    rfl
theorem labs_items {u : Int} (top : Int) (bs : List Blk) (j : Nat) (hb : ∀ x ∈ bs, x.Ok u) : labs (itemsFrom top bs j) = rng (j + 1) (bs.length - j) := by
  unfold itemsFrom
  have hl : (bs.drop j).length = bs.length - j := by simp
  cases hd : bs.drop j with
  | nil => rw [hd] at hl; rw [← hl]; rfl
  | cons x r =>
    dsimp only
    split
    · rename_i q; subst q; rw [labs_col bs 1 hb]; rfl
    · rw [hd] at hl
      have := labs_append [Nd.glue (roomOf top x) 108] (colNodes (j + 1) (x :: r))
      rw [labs_col (x :: r) (j + 1) (fun y hy => hb y (List.mem_of_mem_drop (i := j) (by rw [hd]; exact hy))), hl] at this
      exact this
theorem labs_piece {u : Int} (top : Int) (bs : List Blk) (j e : Nat) (hje : j ≤ e) (he : e ≤ bs.length) (hb : ∀ x ∈ bs, x.Ok u) (W dl : List Nd) (hW : itemsFrom top bs j = W ++ (dl ++ colNodes (e + 1) (bs.drop e))) (hd : ∀ x ∈ dl, x.disc = true) : labs W = rng (j + 1) (e - j) := by
  have h1 := labs_items top bs j hb
  rw [hW, labs_append, labs_append, labs_nil (fun x hx => disc_nostand (hd x hx)), labs_col (bs.drop e) (e + 1) (fun x hx => hb x (List.mem_of_mem_drop hx)), List.nil_append] at h1
  have e1 : bs.length - j = (e - j) + (bs.drop e).length := by simp; omega
  rw [e1, rng_add] at h1
  have e2 : ((j : Int) + 1 + ((e - j : Nat) : Int)) = (e : Int) + 1 := by omega
  rw [e2] at h1
  exact List.append_cancel_right h1

noncomputable def segs (cap top goal : Int) (bs : List Blk) : Nat → Nat → List (Nat × Stp)
  | 0, _ => []
  | k + 1, j => if j < bs.length then (match pick (goal - offB top bs j) (stopsFrom cap bs j) with
    | some s => (j, s) :: segs cap top goal bs k s.lab.toNat
    | none => []) else []
noncomputable def pcD (top goal : Int) (bs : List Blk) (p : Nat × Stp) : D := .tup [.lst (rng (p.1 + 1) (p.2.lab.toNat - p.1)), .int (p.2.pl + offA top bs p.1), rep (goal - (p.2.hi + offB top bs p.1))]
noncomputable abbrev pcMem (l : List Nd) (goal cap top most : Int) (R : D) (o7 o8 o9 o10 : Option V) : Mem := [some (ns l), some (.d (.int goal)), some (.d (.int cap)), some (.d (.int top)), some (.d (.int most)), some (.ref 1), some (.d R), o7, o8, o9, o10]
theorem stopsFrom_ne (cap : Int) (bs : List Blk) (j : Nat) : stopsFrom cap bs j ≠ [] := by
  have : ∀ (l : List Blk) (lab many : Int) (t : Pos), colStops cap many lab l t ≠ [] := by
    intro l
    induction l with
    | nil => intro lab many t; simp [colStops]
    | cons x r ih => intro lab many t h; rw [colStops, List.append_eq_nil_iff] at h; exact ih _ _ _ h.2
  exact this _ _ _ _
noncomputable def numF (x : D) : Option D := match x with
  | .obj c _ vs => if c == 342 then vs[1]? else if c == 363 then vs[0]? else none
  | _ => none
theorem numF_labs (l : List Nd) : (l.map Nd.toD).filterMap numF = labs l := by
  unfold labs
  rw [List.filterMap_map]
  congr 1
  funext x
  cases x <;> rfl
theorem num_comp (k : Nat) (m : Mem) (σ : Sto) (l : List Nd) (w h d : Int) (hm : m[7]? = some (some (.d (boxD 3 w h d (.lst (l.map Nd.toD)))))) :
    E.den (Ph k) m (.comp [none] false [0] 0 (.attr (.loc 7) 4) [(.bop false [(.cmp .Eq (.attr (.loc 0) 0) (.glob 0 (.int 2))), (.cmp .Eq (.attr (.loc 0) 0) (.glob 0 (.int 3))), (.cmp .Eq (.attr (.loc 0) 0) (.glob 0 (.int 4)))])] (.attr (.loc 0) 1)) σ = some (.d (.lst (labs l)), σ) := by
  have hs : E.den (Ph k) m (.attr (.loc 7) 4) σ = some (.d (.lst (l.map Nd.toD)), σ) := attr_d (loc_d hm) rfl
  rw [comp_den (fun _ x => numF x) hs rfl]
  · rw [filterMap_zipIdx numF, numF_labs]
  · intro i x hx
    rw [List.getElem?_map, Option.map_eq_some_iff] at hx
    obtain ⟨y, _, rfl⟩ := hx
    refine ⟨[some (.d y.toD)], rfl, ?_⟩
    cases y with
    | box v w h d => cases v <;> kernel_rfl
    | _ => kernel_rfl

theorem pc_turn (k : Nat) {u cap top : Int} {bs : List Blk} (hc : ColOk u cap top bs) (goal most : Int) (g1 : -1073741823 ≤ goal) (g2 : goal ≤ 1073741823) (j : Nat) (hj : j < bs.length) (s : Stp) (hs : pick (goal - offB top bs j) (stopsFrom cap bs j) = some s) (wd h0 dp0 : Int) (a : MObj) (ha : a.isLst = true) (l : List D) (hl : l.length < 2 ^ 24) (nn : List Nd) (o7 o8 o9 o10 : Option V) :
    ∃ (e : Nat) (R : D) (p7 p8 p9 p10 : Option V), j < e ∧ e ≤ bs.length ∧ s.lab = e ∧ (if e = bs.length then R = .none else ∃ w h d, R = boxD 3 w h d (.lst ((itemsFrom top bs e).map Nd.toD))) ∧
      S.dens (Ph (k + 6)) (loopBody (f10.body.getD 1 .fail)) (pcMem nn goal cap top most (boxD 3 wd h0 dp0 (.lst ((itemsFrom top bs j).map Nd.toD))) o7 o8 o9 o10, [a, .lst l]) = some (.next, pcMem nn goal cap top most R p7 p8 p9 p10, [a, .lst (l ++ [pcD top goal bs (j, s)])]) := by
  have hls : lists [a, .lst l] = true := by simp only [lists, List.all_cons, List.all_nil, ha]; rfl
  obtain ⟨e, x1, A, dl, wa, da, wb, hb, db, md, e1, e2, e3, e4, e5, e6, hv⟩ := piece_turn k hc goal g1 g2 j hj s hs wd h0 dp0 (Pre.two a (.lst l)) hls
  have hlab := labs_piece top bs j e (by omega) e2 hc.ok (x1 :: A) dl e4 e6
  refine ⟨e, (if e = bs.length then .none else boxD 3 wb hb db (.lst ((itemsFrom top bs e).map Nd.toD))), some (.d (boxD 3 wa goal da (.lst ((x1 :: A).map Nd.toD)))), some (.d md), some (.d (rep (goal - (s.hi + offB top bs j)))), some (.d (.lst (labs (x1 :: A)))), e1, e2, e3, ?_, ?_⟩
  · by_cases q : e = bs.length
    · rw [if_pos q, if_pos q]
    · rw [if_neg q, if_neg q]; exact ⟨_, _, _, rfl⟩
  generalize (if e = bs.length then D.none else boxD 3 wb hb db (.lst ((itemsFrom top bs e).map Nd.toD))) = R at hv ⊢
  have ht0 := hc.t0
  have ht1 := hc.t1
  have hu1 := hc.u1
  refine dens_next (s1 := (pcMem nn goal cap top most R (some (.d (boxD 3 wa goal da (.lst ((x1 :: A).map Nd.toD))))) (some (.d md)) (some (.d (rep (goal - (s.hi + offB top bs j))))) o10, [a, .lst l])) ?_ ?_
  · have hg : E.den (Ph (k + 6)) (pcMem nn goal cap top most (boxD 3 wd h0 dp0 (.lst ((itemsFrom top bs j).map Nd.toD))) o7 o8 o9 o10) (.new 238 [(.loc 3)] [.int 0, .int 0, .int 0, .int 0]) [a, .lst l] = some (.d (glueD top), [a, .lst l]) :=
      glue_new (k + 3) (vs := [.d (.int top)]) rfl rfl (by omega) (by omega) hls
    exact set_den (call_p (dens_cons rfl (dens_cons (v := .d (.int goal)) rfl (dens_cons (v := .d (.int cap)) rfl (dens_cons (v := .d (.int cap)) rfl (dens_cons hg rfl))))) hv) rfl
  refine dens_next (asg_den (num_comp (k + 6) _ [a, .lst l] (x1 :: A) wa goal da rfl)) ?_
  refine dens_next (s1 := (pcMem nn goal cap top most R (some (.d (boxD 3 wa goal da (.lst ((x1 :: A).map Nd.toD))))) (some (.d md)) (some (.d (rep (goal - (s.hi + offB top bs j))))) (some (.d (.lst (labs (x1 :: A))))), [a, .lst (l ++ [pcD top goal bs (j, s)])])) (expr_den (v := .d .none) ?_) dens_nil
  have hpc : pcD top goal bs (j, s) = .tup [.lst (labs (x1 :: A)), .int (((x1 :: A).map Nd.toD).length : Int), rep (goal - (s.hi + offB top bs j))] := by
    unfold pcD
    dsimp only
    rw [hlab, e3, e5, List.length_map]
    rfl
  rw [hpc]
  have htup : E.den (Ph (k + 6)) (pcMem nn goal cap top most R (some (.d (boxD 3 wa goal da (.lst ((x1 :: A).map Nd.toD))))) (some (.d md)) (some (.d (rep (goal - (s.hi + offB top bs j))))) (some (.d (.lst (labs (x1 :: A)))))) (.tup [(.loc 10), (.len (.attr (.loc 7) 4)), (.loc 9)]) [a, .lst l] =
      some (.d (.tup [.lst (labs (x1 :: A)), .int (((x1 :: A).map Nd.toD).length : Int), rep (goal - (s.hi + offB top bs j))]), [a, .lst l]) := by
    kernel_rfl
  exact app_d (n := 1) (l := l) rfl rfl htup rfl hl

noncomputable abbrev pcTest (Φ : Tab) : Mem × Sto → Option (Bool × Mem × Sto) := fun s => den1 (E.den Φ s.1 (.bop true [(.cmp .IsNot (.loc 6) (.lit (.none))), (.cmp .Lt (.len (.loc 5)) (.loc 4))])) (fun v σ => v.onB fun t => some (t, s.1, σ)) s.2
theorem pc_loop (k : Nat) {u cap top : Int} {bs : List Blk} (hc : ColOk u cap top bs) (goal : Int) (most : Nat) (g1 : -1073741823 ≤ goal) (g2 : goal ≤ 1073741823) (hmost : most ≤ 2 ^ 20) (a : MObj) (ha : a.isLst = true) (nn : List Nd) :
    ∀ (f j : Nat) (R : D) (l : List D) (o7 o8 o9 o10 : Option V), j ≤ bs.length → bs.length - j < f → (if j = bs.length then R = .none else ∃ w h d, R = boxD 3 w h d (.lst ((itemsFrom top bs j).map Nd.toD))) → l.length + (segs cap top goal bs f j).length ≤ most →
      ∃ R' p7 p8 p9 p10, whileGo (pcTest (Ph (k + 6))) (S.dens (Ph (k + 6)) (loopBody (f10.body.getD 1 .fail))) f (pcMem nn goal cap top most R o7 o8 o9 o10, [a, .lst l]) =
        some (.next, pcMem nn goal cap top most R' p7 p8 p9 p10, [a, .lst (l ++ (segs cap top goal bs f j).map (pcD top goal bs))]) := by
  intro f
  induction f with
  | zero => intro j R l o7 o8 o9 o10 _ h; omega
  | succ f ih =>
    intro j R l o7 o8 o9 o10 hj hf hR hm
    by_cases q : j = bs.length
    · rw [if_pos q] at hR
      subst hR
      refine ⟨.none, o7, o8, o9, o10, ?_⟩
      have e : segs cap top goal bs (f + 1) j = [] := by rw [segs, if_neg (by omega)]
      rw [e, List.map_nil, List.append_nil]
      have t : pcTest (Ph (k + 6)) (pcMem nn goal cap top most .none o7 o8 o9 o10, [a, .lst l]) = some (false, pcMem nn goal cap top most .none o7 o8 o9 o10, [a, .lst l]) := by kernel_rfl
      exact while_f t
    · rw [if_neg q] at hR
      obtain ⟨w, h, d, rfl⟩ := hR
      obtain ⟨s, hs, _⟩ := pick_ex (goal - offB top bs j) (stopsFrom cap bs j) (stopsFrom_ne cap bs j)
      have e : segs cap top goal bs (f + 1) j = (j, s) :: segs cap top goal bs f s.lab.toNat := by rw [segs, if_pos (by omega), hs]
      rw [e] at hm ⊢
      rw [List.length_cons] at hm
      obtain ⟨e', R', p7, p8, p9, p10, h1, h2, h3, h4, h5⟩ := pc_turn k hc goal most g1 g2 j (by omega) s hs w h d a ha l (by omega) nn o7 o8 o9 o10
      have hn : s.lab.toNat = e' := by rw [h3]; simp
      rw [hn] at hm ⊢
      obtain ⟨R'', q7, q8, q9, q10, h6⟩ := ih e' R' (l ++ [pcD top goal bs (j, s)]) p7 p8 p9 p10 h2 (by omega) h4 (by rw [List.length_append]; simp only [List.length_cons, List.length_nil]; omega)
      refine ⟨R'', q7, q8, q9, q10, ?_⟩
      have t : pcTest (Ph (k + 6)) (pcMem nn goal cap top most (boxD 3 w h d (.lst ((itemsFrom top bs j).map Nd.toD))) o7 o8 o9 o10, [a, .lst l]) = some (true, pcMem nn goal cap top most (boxD 3 w h d (.lst ((itemsFrom top bs j).map Nd.toD))) o7 o8 o9 o10, [a, .lst l]) := by
        exact den1_r (bop_d (and_d (b := true) rfl (and_1 (cmp_d (y := .d (.int (most : Int))) (len_d (v := .ref 1) (n := l.length) rfl rfl) rfl (c_lt_t (by omega)))))) rfl
      refine while_t t h5 (h6.trans ?_)
      rw [List.map_cons, List.append_assoc]
      rfl

theorem vpack_bd {u cap top : Int} {bs : List Blk} (hc : ColOk u cap top bs) (k : Nat) {σ : Sto} (hσ : Pre σ) (hl : lists σ = true) :
    ∃ w h d r, F (k + 5) 30 [ns (itemsFrom top bs 0), .d (.int 1), .d (.int 0), .d (.int 1073741823)] σ = some (.d (.tup [boxD 3 w h d (.lst ((itemsFrom top bs 0).map Nd.toD)), r]), σ) := by
  have hx : bs[0]? = some (bs[0]'hc.n1) := List.getElem?_eq_getElem hc.n1
  have hd := drop_cons hx
  have hn7 := hc.n7
  have hu0 := hc.u0
  have hu1 := hc.u1
  have hW : (bs.length : Int) ≤ 7 := by omega
  have f1 := fold_wd bs.length (itemsFrom top bs 0) (0, 0, 0) (by simp) (by dsimp only; omega) (items_across (u := u) top bs 0 (by omega))
  have f2 := fold_dp u hc.u0 (itemsFrom top bs 0) (0, 0, 0) (by simp) (by dsimp only; omega) (items_dep hc.u0 top bs 0 hc.ok)
  have f3 := items_total hc.u0 top hc.t0 hc.t1 bs 0 hc.n1 hc.ok
  have m : (bs.length : Int) * (26 * u) ≤ 7 * (26 * u) := Int.mul_le_mul_of_nonneg_right hW (by omega)
  obtain ⟨q1, q2, q3⟩ := natOf_parts 1073741823 (itemsFrom top bs 0)
  have q4 : mn 1073741823 ((itemsFrom top bs 0).foldl natStep (0, 0, 0)).2.2 = ((itemsFrom top bs 0).foldl natStep (0, 0, 0)).2.2 := by unfold mn; split <;> omega
  rw [q4] at q2
  obtain ⟨y, r, hy⟩ : ∃ y r, itemsFrom top bs 0 = y :: r := by
    unfold itemsFrom
    rw [hd]
    dsimp only
    rw [if_pos rfl]
    cases bs with
    | nil => simp at hd
    | cons b rr => exact ⟨_, _, rfl⟩
  rw [hy] at f1 f2 f3 q1 q2 q3 ⊢
  have h := vpack_eq k y r hσ hl 1 0 1073741823 (.inr rfl) (by omega) (by omega) (by omega) (by omega) (natOf (y :: r) 1073741823) rfl (natOf (y :: r) 1073741823).nat (by simp) (by omega) (by omega) (by omega) (by omega) (by omega) (by omega)
  exact ⟨_, _, _, _, h⟩

theorem pieces_eq (k : Nat) {u cap top : Int} {bs : List Blk} (hc : ColOk u cap top bs) (goal : Int) (most : Nat) (g1 : -1073741823 ≤ goal) (g2 : goal ≤ 1073741823) (hmost : most ≤ 2 ^ 20) (hs : (segs cap top goal bs 64 0).length ≤ most) (a : MObj) (ha : a.isLst = true) :
    F (k + 7) 10 [ns (colNodes 1 bs), .d (.int goal), .d (.int cap), .d (.int top), .d (.int most)] [a] = some (.d (.lst ((segs cap top goal bs 64 0).map (pcD top goal bs))), [a]) := by
  have hls : lists [a] = true := by simp only [lists, List.all_cons, List.all_nil, ha]; rfl
  have hls2 : lists [a, .lst []] = true := by simp only [lists, List.all_cons, List.all_nil, ha]; rfl
  have hx : bs[0]? = some (bs[0]'hc.n1) := List.getElem?_eq_getElem hc.n1
  have hit : itemsFrom top bs 0 = colNodes 1 bs := by
    unfold itemsFrom
    rw [drop_cons hx]
    rfl
  obtain ⟨w, h, d, r, hv⟩ := vpack_bd hc (k + 1) (Pre.two a (.lst [])) hls2
  rw [hit] at hv
  obtain ⟨R', p7, p8, p9, p10, hloop⟩ := pc_loop k hc goal most g1 g2 hmost a ha (colNodes 1 bs) fuel 0 (boxD 3 w h d (.lst ((itemsFrom top bs 0).map Nd.toD))) [] none none none none (Nat.zero_le _) (by have := hc.n7; show bs.length - 0 < 64; omega) (by rw [if_neg (by have := hc.n1; omega)]; exact ⟨w, h, d, rfl⟩) (by simpa [fuel] using hs)
  rw [hit] at hloop
  rw [F10]
  refine run_frz (Φ := Ph (k + 6)) (f := f10) (m' := pcMem (colNodes 1 bs) goal cap top most R' p7 p8 p9 p10) (σ' := [a, .lst ((segs cap top goal bs 64 0).map (pcD top goal bs))]) (v := .ref 1) rfl rfl ?_ hls rfl
  refine dens_next (s1 := (pcMem (colNodes 1 bs) goal cap top most (boxD 3 w h d (.lst ((colNodes 1 bs).map Nd.toD))) none none none none, [a, .lst []])) ?_ ?_
  · exact set_den (tup_d (vs := [.ref 1, .d (boxD 3 w h d (.lst ((colNodes 1 bs).map Nd.toD)))]) (dens_cons (v := .ref 1) rfl (dens_cons (idx_d (va := .d (.tup [boxD 3 w h d (.lst ((colNodes 1 bs).map Nd.toD)), r])) (j := 0) (call_d (vs := [ns (colNodes 1 bs)]) rfl (by rw [Ph_fn]; exact hv)) rfl rfl) rfl))) rfl
  refine dens_next (s1 := (pcMem (colNodes 1 bs) goal cap top most R' p7 p8 p9 p10, [a, .lst ((segs cap top goal bs 64 0).map (pcD top goal bs))])) ?_ (dens_ret rfl)
  exact hloop

theorem parts_at (bs : List Blk) : ∀ (lab : Int) (i : Nat) (x : Blk), bs[i]? = some x → (colParts lab bs)[(colNodes lab (bs.take i)).length]? = some ⟨x.c, x.h, x.d, lab + i⟩ := by
  induction bs with
  | nil => intro lab i x h; cases h
  | cons y r ih =>
    intro lab i x h
    cases i with
    | zero =>
      cases h
      show (blkParts lab y ++ _)[0]? = _
      rw [show lab + ((0 : Nat) : Int) = lab from Int.add_zero _]
      rfl
    | succ i =>
      have := ih (lab + 1) i x h
      rw [List.take_succ_cons, colNodes, List.length_append, colParts, List.getElem?_append_right (by rw [blkNodes, List.length_map]; exact Nat.le_add_right _ _), blkNodes, List.length_map, Nat.add_sub_cancel_left, this]
      congr 2
      omega
theorem ahead_at (bs : List Blk) : ∀ (t : Pos) (i : Nat), i < bs.length → (colAhead bs t)[i]? = some ((posAt bs t i).pos, (posAt bs t i).sz) := by
  induction bs with
  | nil => intro t i h; exact absurd h (Nat.not_lt_zero _)
  | cons y r ih =>
    intro t i h
    cases i with
    | zero => rfl
    | succ i => exact ih (blkEnd t y) i (Nat.lt_of_succ_lt_succ h)
theorem ahead_len (bs : List Blk) : ∀ (t : Pos), (colAhead bs t).length = bs.length := by
  induction bs with
  | nil => intro t; rfl
  | cons y r ih => intro t; exact congrArg Nat.succ (ih _)
noncomputable def colV (cap : Int) (bs : List Blk) : V := colD (colParts 1 bs) (stopsFrom cap bs 0) (colAhead bs ⟨0, 0, 0⟩)
theorem high_off (k : Nat) (cap top : Int) (bs : List Blk) (f : Nat) (hf : f < bs.length) (s : Stp) (σ : Sto) : F (k + 1) 8 [colV cap bs, .d (.int top), .d (.int f), .d s.toD] σ = some (.d (.int (s.hi + offB top bs f)), σ) := by
  have hx : bs[f]? = some bs[f] := List.getElem?_eq_getElem hf
  have hp := parts_at bs 1 f _ hx
  have ha := ahead_at bs ⟨0, 0, 0⟩ f hf
  have hn : (posAt bs ⟨0, 0, 0⟩ f).pos = ((colNodes 1 (bs.take f)).length : Int) := by rw [posAt, nodes_pos (bs.take f) 1]; exact Int.zero_add _
  rw [hn] at ha
  refine (high_eq k _ _ _ top f s σ _ _ _ ha hp).trans (congrArg (fun z => some (V.d (.int z), σ)) ?_)
  rw [offB, hx]
  by_cases q : f = 0
  · subst q
    show s.hi - (0 : Int) + 0 = s.hi + 0
    omega
  · rw [if_pos (by omega)]
    dsimp only
    rw [if_neg q, roomOf]
    omega

theorem offB_le {u cap top : Int} {bs : List Blk} (hc : ColOk u cap top bs) (f g : Nat) (h0 : 0 < f) (hfg : f ≤ g) (hg : g < bs.length) : offB top bs g ≤ offB top bs f := by
  rcases Nat.eq_or_lt_of_le hfg with q | q
  · rw [q]; exact Int.le_refl _
  have hx : bs[f]? = some bs[f] := List.getElem?_eq_getElem (by omega)
  have hy : bs[g]? = some bs[g] := List.getElem?_eq_getElem hg
  have o1 : offB top bs f = roomOf top bs[f] - (posAt bs ⟨0, 0, 0⟩ f).sz := by unfold offB; rw [hx]; exact if_neg (by omega)
  have o2 : offB top bs g = roomOf top bs[g] - (posAt bs ⟨0, 0, 0⟩ g).sz := by unfold offB; rw [hy]; exact if_neg (by omega)
  have e : posAt bs ⟨0, 0, 0⟩ g = ((bs.take g).drop (f + 1)).foldl blkEnd (posAt bs ⟨0, 0, 0⟩ (f + 1)) := by
    unfold posAt
    rw [← List.foldl_append]
    congr 1
    have := (List.take_append_drop (f + 1) (bs.take g)).symm
    rw [List.take_take, Nat.min_eq_left (by omega)] at this
    exact this
  have hxo := hc.ok _ (List.mem_of_getElem? hx)
  have hyo := hc.ok _ (List.mem_of_getElem? hy)
  have b1 := (blk_bd hc.u0 hxo (posAt bs ⟨0, 0, 0⟩ f)).1
  rw [← posAt_succ bs _ f _ hx] at b1
  have b2 := (blks_bd hc.u0 ((bs.take g).drop (f + 1)) (posAt bs ⟨0, 0, 0⟩ (f + 1)) (fun y hy => hc.ok y (List.mem_of_mem_take (List.mem_of_mem_drop hy)))).1
  rw [← e] at b2
  have r1 : top - bs[f].h ≤ roomOf top bs[f] := by unfold roomOf mx; split <;> omega
  have r2 : roomOf top bs[g] ≤ top := by
    have := hyo.h0
    have := hc.t0
    unfold roomOf mx; split <;> omega
  have := hxo.d0
  rw [o1, o2]
  generalize roomOf top bs[f] = x1 at *
  generalize roomOf top bs[g] = x2 at *
  generalize (posAt bs ⟨0, 0, 0⟩ g).sz = x3 at *
  generalize (posAt bs ⟨0, 0, 0⟩ f).sz = x4 at *
  generalize (posAt bs ⟨0, 0, 0⟩ (f + 1)).sz = x5 at *
  omega
theorem high_bd {u cap top : Int} {bs : List Blk} (hc : ColOk u cap top bs) (f : Nat) (hf : f < bs.length) (s : Stp) (hs : s ∈ stopsFrom cap bs f) : 0 ≤ s.hi + offB top bs f ∧ s.hi + offB top bs f ≤ 195 * u := by
  have hx : bs[f]? = some bs[f] := List.getElem?_eq_getElem hf
  have hd := drop_cons hx
  have hb' : ∀ y ∈ bs.drop f, y.Ok u := fun y hy => hc.ok y (List.mem_of_mem_drop hy)
  have m0 : mn cap 0 ≤ 0 := by unfold mn; split <;> omega
  have hu0 := hc.u0
  have hn7 := hc.n7
  have hcap := hc.c0
  have hlow : 0 ≤ roomOf top bs[f] ∧ roomOf top bs[f] ≤ 12 * u := by
    have := (hc.ok _ (List.mem_of_getElem? hx)).h0
    have := hc.t1
    have := hc.t0
    unfold roomOf mx; split <;> omega
  -- the piece's own stops start at the top skip
  have key : ∀ (room : Int) (t : Pos) (b : Int), 0 ≤ room → room ≤ 12 * u → t.low = 0 → t.sz = room → s.sh b (offB top bs f) ∈ colStops cap bs.length (f + 1) (bs.drop f) t → 0 ≤ s.hi + offB top bs f ∧ s.hi + offB top bs f ≤ 195 * u := by
    intro room t b r0 r1 tl tz hm
    have h1 := ((cols_hi cap u bs.length (bs.drop f) (f + 1) t (by omega) hb').1 _ hm).1
    have h2 := (stop_bd hc.u0 cap bs.length (bs.drop f) (f + 1) t hb' _ hm).2
    have h3 : hiOf cap t = room - mn cap 0 := by rw [hiOf, tl, tz]
    have h4 : (s.sh b (offB top bs f)).hi = s.hi + offB top bs f := rfl
    obtain ⟨i, y, A, dl, _, _, _, _, _, _, h6⟩ := stop_piece cap bs.length u (bs.drop f) (f + 1) t (by rw [hd]; exact List.cons_ne_nil _ _) (by simp; omega) hb' _ hm
    obtain ⟨_, h7, h8, h9⟩ := h6 (t.sz, 0, 0) (Int.add_zero _)
    have m : ((bs.drop f).length : Int) * (26 * u) ≤ 7 * (26 * u) := Int.mul_le_mul_of_nonneg_right (by simp; omega) (by omega)
    have m1 : -u ≤ mn cap ((y :: A).foldl natStep (t.sz, 0, 0)).2.2 := by unfold mn; split <;> omega
    generalize ((y :: A).foldl natStep (t.sz, 0, 0)).2.2 = z at *
    generalize ((bs.drop f).length : Int) * (26 * u) = mm at *
    omega
  by_cases q : f = 0
  · subst q
    have o : offB top bs 0 = 0 := by unfold offB; split <;> rfl
    refine key 0 ⟨0, 0, 0⟩ 0 (by omega) (by omega) rfl rfl ?_
    rw [o, show s.sh 0 0 = s by simp [Stp.sh]]
    exact hs
  · have ob : offB top bs f = roomOf top bs[f] - (posAt bs ⟨0, 0, 0⟩ f).sz := by unfold offB; rw [hx]; exact if_neg q
    refine key (roomOf top bs[f]) ⟨1, roomOf top bs[f], 0⟩ (1 - (posAt bs ⟨0, 0, 0⟩ f).pos) hlow.1 hlow.2 rfl rfl ?_
    have := colStops_sh (1 - (posAt bs ⟨0, 0, 0⟩ f).pos) (roomOf top bs[f] - (posAt bs ⟨0, 0, 0⟩ f).sz) 0 cap bs.length bs[f] (bs.drop (f + 1)) (f + 1) (posAt bs ⟨0, 0, 0⟩ f)
    rw [show (posAt bs ⟨0, 0, 0⟩ f).pos + (1 - (posAt bs ⟨0, 0, 0⟩ f).pos) = 1 by omega, show (posAt bs ⟨0, 0, 0⟩ f).sz + (roomOf top bs[f] - (posAt bs ⟨0, 0, 0⟩ f).sz) = roomOf top bs[f] by omega, ← hd] at this
    rw [this, ob]
    exact List.mem_map_of_mem hs

noncomputable def Bef (a b : Stp) : Prop := a.pl < b.pl ∧ a.lab ≤ b.lab ∧ a.hi ≤ b.hi
theorem bef_total {l : List Stp} (h : l.Pairwise Bef) : ∀ a ∈ l, ∀ b ∈ l, a = b ∨ Bef a b ∨ Bef b a := by
  induction h with
  | nil => intro a ha; cases ha
  | cons h1 _ ih =>
    intro a ha b hb
    cases ha with
    | head => cases hb with
      | head => exact .inl rfl
      | tail _ hb => exact .inr (.inl (h1 b hb))
    | tail _ ha => cases hb with
      | head => exact .inr (.inr (h1 a ha))
      | tail _ hb => exact ih a ha b hb
theorem bef_hi {l : List Stp} (h : l.Pairwise Bef) {a b : Stp} (ha : a ∈ l) (hb : b ∈ l) (q : a.pl ≤ b.pl) : a.hi ≤ b.hi := by
  rcases bef_total h a ha b hb with e | e | e
  · rw [e]; exact Int.le_refl _
  · exact e.2.2
  · exact absurd e.1 (Int.not_lt.mpr q)
theorem bef_lab {l : List Stp} (h : l.Pairwise Bef) {a b : Stp} (ha : a ∈ l) (hb : b ∈ l) (q : a.lab < b.lab) : a.pl < b.pl := by
  rcases bef_total h a ha b hb with e | e | e
  · rw [e] at q; exact absurd q (Int.lt_irrefl _)
  · exact e.1
  · exact absurd e.2.1 (Int.not_le.mpr q)
theorem near_before {l : List Stp} (h : l.Pairwise Bef) : ∀ t ∈ nearOf l, ∀ x ∈ l, x.pl < t.pl → ¬ x.fc < 0 := by
  induction h with
  | nil => intro t ht; cases ht
  | @cons s r h1 _ ih =>
    intro t ht x hx q
    have no : t = s → False := by
      intro e
      cases hx with
      | head => rw [e] at q; exact Int.lt_irrefl _ q
      | tail _ hx => exact absurd (h1 x hx).1 (Int.not_lt.mpr (Int.le_of_lt (e ▸ q)))
    unfold nearOf at ht
    split at ht
    · cases ht with
      | head => exact (no rfl).elim
      | tail _ ht => cases ht
    · rename_i nf
      cases ht with
      | head => exact (no rfl).elim
      | tail _ ht => cases hx with
        | head => exact nf
        | tail _ hx => exact ih t ht x hx q
theorem near_mem {l : List Stp} (h : l.Pairwise Bef) : ∀ t ∈ l, (∀ x ∈ l, x.pl < t.pl → ¬ x.fc < 0) → t ∈ nearOf l := by
  induction h with
  | nil => intro t ht; cases ht
  | @cons s r h1 _ ih =>
    intro t ht hx
    unfold nearOf
    split
    · rename_i f
      cases ht with
      | head => exact List.mem_singleton.mpr rfl
      | tail _ ht => exact absurd f (hx s List.mem_cons_self (h1 t ht).1)
    · cases ht with
      | head => exact List.mem_cons_self
      | tail _ ht => exact List.mem_cons_of_mem _ (ih t ht fun x hxr => hx x (List.mem_cons_of_mem _ hxr))
theorem near_sublist : ∀ l : List Stp, (nearOf l).Sublist l
  | [] => .slnil
  | s :: r => by
    unfold nearOf
    split
    · exact .cons_cons s (List.nil_sublist r)
    · exact .cons_cons s (near_sublist r)
theorem last_ge {l : List Stp} (h : l.Pairwise Bef) : ∀ z t, l.getLast? = some z → t ∈ l → t = z ∨ Bef t z := by
  induction h with
  | nil => intro z t hz; cases hz
  | @cons s r h1 _ ih =>
    intro z t hz ht
    rw [List.getLast?_cons] at hz
    cases hr : r.getLast? with
    | none =>
      rw [hr] at hz
      cases hz
      rw [List.getLast?_eq_none_iff] at hr
      subst hr
      exact .inl (List.mem_singleton.mp ht)
    | some y =>
      rw [hr] at hz
      cases hz
      cases ht with
      | head => exact .inr (h1 _ (List.mem_of_getLast? hr))
      | tail _ ht => exact ih _ t hr ht
theorem lastFit_ge {l : List Stp} (h : l.Pairwise Bef) {g : Int} {t z : Stp} (ht : t ∈ l) (hg : t.hi ≤ g) (hz : lastFit g l = some z) : t = z ∨ Bef t z :=
  last_ge (h.sublist List.filter_sublist) z t hz (List.mem_filter.mpr ⟨ht, decide_eq_true hg⟩)
theorem lastFit_some {l : List Stp} {g : Int} {t : Stp} (ht : t ∈ l) (hg : t.hi ≤ g) : ∃ z, lastFit g l = some z := by
  unfold lastFit
  cases e : (l.filter fun s => decide (s.hi ≤ g)).getLast? with
  | some z => exact ⟨z, rfl⟩
  | none =>
    rw [List.getLast?_eq_none_iff] at e
    have : t ∈ l.filter fun s => decide (s.hi ≤ g) := List.mem_filter.mpr ⟨ht, decide_eq_true hg⟩
    rw [e] at this
    cases this

structure Sts (n : Nat) (ss : List Stp) : Prop where
  ord : ss.Pairwise Bef
  rg : ∀ s ∈ ss, 0 < s.lab ∧ s.lab ≤ n
  one : ∀ a ∈ ss, ∀ b ∈ ss, a.lab = b.lab → a.fc < 0 → a.lab < n → a = b
  last : ∃ s ∈ ss, s.lab = n

theorem gap_nof (cap lab : Int) (offs : List Int) (g : List (Ltr × Int)) : ∀ (i : Int) (t : Pos), (∀ p ∈ g, isF p.1 = false) → ∀ s ∈ gapStops cap lab offs i g t, s.fc = 0 := by
  induction g with
  | nil => intro i t _ s hs; cases hs
  | cons p r ih =>
    intro i t h s hs
    rw [gapStops, h p List.mem_cons_self] at hs
    rcases List.mem_append.mp hs with hs | hs
    · split at hs
      · rw [List.mem_singleton.mp hs]; rfl
      · cases hs
    · exact ih _ _ (fun q hq => h q (List.mem_cons_of_mem _ hq)) s hs
theorem gap_late (cap lab : Int) (g : List (Ltr × Int)) : ∀ (i : Int) (t : Pos), 0 < i → gapStops cap lab [0] i g t = [] := by
  induction g with
  | nil => intro i t _; rfl
  | cons p r ih =>
    intro i t h
    rw [gapStops, ih _ _ (by omega), if_neg, List.append_nil]
    intro c
    have := List.mem_singleton.mp (List.contains_iff_mem.mp c)
    omega
theorem tab_f : ∀ e ∈ gapTab, (∀ c ∈ e.1, isF c = false) ∨ e.2 = [0] := by
  have : (gapTab.all fun e => e.1.all (fun c => !isF c) || e.2 == [0]) = true := by decide
  intro e he
  have := List.all_eq_true.mp this e he
  rw [Bool.or_eq_true] at this
  rcases this with h | h
  · exact .inl fun c hc => by simpa using List.all_eq_true.mp h c hc
  · exact .inr (eq_of_beq h)
theorem blk_one {u : Int} {x : Blk} (hx : x.Ok u) (cap lab : Int) (t : Pos) (a b : Stp) (ha : a ∈ blkStops cap lab x t) (hb : b ∈ blkStops cap lab x t) (hf : a.fc < 0) : a = b := by
  unfold blkStops at ha hb
  rcases tab_f _ hx.tab with h | h
  · have := gap_nof cap lab x.offs x.gp 0 (boxStep t x) (fun p hp => h p.1 (List.mem_map_of_mem hp)) a ha
    omega
  · dsimp only at h
    rw [h] at ha hb
    generalize x.gp = g at ha hb
    cases g with
    | nil => cases ha
    | cons p r =>
      rw [gapStops, gap_late cap lab r (0 + 1) _ (by decide), List.append_nil] at ha hb
      split at ha
      · rename_i q
        rw [if_pos q] at hb
        rw [List.mem_singleton.mp ha, List.mem_singleton.mp hb]
      · cases ha

theorem gaps_pl (cap lab : Int) (offs : List Int) (g : List (Ltr × Int)) : ∀ (i : Int) (t : Pos),
    (∀ s ∈ gapStops cap lab offs i g t, t.pos ≤ s.pl ∧ s.pl < (g.foldl gapStep t).pos) ∧ (gapStops cap lab offs i g t).Pairwise (fun a b => a.pl < b.pl) := by
  induction g with
  | nil => intro i t; exact ⟨fun s hs => (nomatch hs), List.Pairwise.nil⟩
  | cons p r ih =>
    intro i t
    obtain ⟨i1, i2⟩ := ih (i + 1) (gapStep t p)
    have e1 : (gapStep t p).pos = t.pos + 1 := by unfold gapStep; split <;> rfl
    have e2 := foldl_pos r (gapStep t p)
    rw [gapStops, List.foldl_cons]
    have hs : ∀ s ∈ (if offs.contains i then [mkStp cap lab t (if isF p.1 then -10000 - p.2 else 0)] else []), s.pl = t.pos := by
      intro s hs
      split at hs
      · rw [List.mem_singleton.mp hs]; rfl
      · cases hs
    refine ⟨fun s h => ?_, List.pairwise_append.mpr ⟨by split <;> first | exact List.pairwise_singleton _ _ | exact .nil, i2, fun a ha b hb => ?_⟩⟩
    · rcases List.mem_append.mp h with h | h
      · have := hs s h; omega
      · have := i1 s h; omega
    · have := hs a ha
      have := (i1 b hb).1
      omega
theorem cols_sts (cap u many : Int) (bs : List Blk) : ∀ (lab : Int) (t : Pos), many = lab + bs.length - 1 → (∀ x ∈ bs, x.Ok u) →
    (∀ s ∈ colStops cap many lab bs t, t.pos ≤ s.pl ∧ lab - 1 ≤ s.lab ∧ (bs ≠ [] → lab ≤ s.lab) ∧ s.lab ≤ many) ∧ (colStops cap many lab bs t).Pairwise (fun a b => a.pl < b.pl ∧ a.lab ≤ b.lab) ∧
      (∀ a ∈ colStops cap many lab bs t, ∀ b ∈ colStops cap many lab bs t, a.lab = b.lab → a.fc < 0 → a.lab < many → a = b) ∧ ∃ s ∈ colStops cap many lab bs t, s.lab = many := by
  induction bs with
  | nil =>
    intro lab t hm _
    have e : ∀ s ∈ colStops cap many lab [] t, s = mkStp cap many t (-10000) := fun s hs => List.mem_singleton.mp hs
    have hm : many = lab - 1 := by rw [hm]; show lab + 0 - 1 = _; omega
    refine ⟨fun s hs => ?_, List.pairwise_singleton _ _, fun a ha b hb _ _ _ => (e a ha).trans (e b hb).symm, _, List.mem_singleton.mpr rfl, rfl⟩
    rw [e s hs]
    exact ⟨Int.le_refl _, Int.le_of_eq hm.symm, fun h => absurd rfl h, Int.le_refl _⟩
  | cons x r ih =>
    intro lab t hm hb
    have hx := hb x List.mem_cons_self
    have hm' : many = lab + 1 + r.length - 1 := by rw [hm, List.length_cons]; push_cast; omega
    have hme : many = lab + r.length := by omega
    obtain ⟨i1, i2, i3, s0, i4, i5⟩ := ih (lab + 1) (blkEnd t x) hm' (fun y hy => hb y (List.mem_cons_of_mem _ hy))
    obtain ⟨g1, g2⟩ := gaps_pl cap lab x.offs x.gp 0 (boxStep t x)
    have gl := blkStops_lab cap lab x t
    have e1 : (boxStep t x).pos = t.pos + 1 := rfl
    have e2 : (x.gp.foldl gapStep (boxStep t x)).pos = (blkEnd t x).pos := rfl
    have e3 := blkEnd_pos t x
    have rl : 0 ≤ (r.length : Int) := Int.natCast_nonneg _
    rw [colStops]
    have far : ∀ b ∈ colStops cap many (lab + 1) r (blkEnd t x), lab < many → lab < b.lab := by
      intro b hb q
      have : r ≠ [] := by
        intro h
        rw [h, List.length_nil] at hme
        omega
      have := (i1 b hb).2.2.1 this
      omega
    refine ⟨fun s hs => ?_, List.pairwise_append.mpr ⟨?_, i2, fun a ha b hb => ?_⟩, fun a ha b hb q f m => ?_, s0, List.mem_append_right _ i4, i5⟩
    · rcases List.mem_append.mp hs with hs | hs
      · have h1 := g1 s hs
        have h2 := gl s hs
        exact ⟨by omega, by omega, fun _ => by omega, by omega⟩
      · have h1 := i1 s hs
        exact ⟨by omega, by omega, fun _ => by omega, h1.2.2.2⟩
    · exact (List.pairwise_iff_forall_sublist.mpr fun {a b} hab => ⟨List.pairwise_iff_forall_sublist.mp g2 hab, by
        have h1 := gl a (hab.subset List.mem_cons_self)
        have h2 := gl b (hab.subset (List.mem_cons_of_mem _ List.mem_cons_self))
        omega⟩)
    · have h1 := g1 a ha
      have h2 := gl a ha
      have h3 := i1 b hb
      exact ⟨by omega, by omega⟩
    · rcases List.mem_append.mp ha with ha | ha <;> rcases List.mem_append.mp hb with hb | hb
      · exact blk_one hx cap lab t a b ha hb f
      · have h1 := gl a ha
        have := far b hb (by omega)
        omega
      · have h1 := gl b hb
        have := far a ha (by omega)
        omega
      · exact i3 a ha b hb q f m
theorem stops_sts {u cap top : Int} {bs : List Blk} (hc : ColOk u cap top bs) : Sts bs.length (stopsFrom cap bs 0) := by
  obtain ⟨h1, h2, h3, h4⟩ := cols_sts cap u bs.length bs (((0 : Nat) : Int) + 1) (posAt bs ⟨0, 0, 0⟩ 0) (by omega) hc.ok
  have h5 := (cols_hi cap u bs.length bs (((0 : Nat) : Int) + 1) (posAt bs ⟨0, 0, 0⟩ 0) (Int.le_refl 0) hc.ok).2.1
  have hne : bs ≠ [] := by intro e; have := hc.n1; rw [e] at this; exact Nat.lt_irrefl _ this
  exact ⟨(h2.and h5).imp fun {a b} h => ⟨h.1.1, h.1.2, h.2⟩, fun s hs => ⟨by have := (h1 s hs).2.2.1 hne; omega, (h1 s hs).2.2.2⟩, h3, h4⟩

noncomputable def endsGo : Int → List Stp → List Stp
  | _, [] => []
  | o, s :: r => if o = s.lab then endsGo o r else s :: endsGo s.lab r
structure Ends (ss es : List Stp) : Prop where
  sub : ∀ s ∈ es, s ∈ ss ∧ ∀ x ∈ ss, x.lab = s.lab → s.pl ≤ x.pl
  all : ∀ x ∈ ss, ∃ e ∈ es, e.lab = x.lab
  ord : es.Pairwise fun a b => a.lab < b.lab
theorem ends_go {l : List Stp} (h : l.Pairwise Bef) : ∀ o : Int, (∀ s ∈ l, o ≤ s.lab) → (∀ s ∈ endsGo o l, s ∈ l ∧ o < s.lab ∧ ∀ x ∈ l, x.lab = s.lab → s.pl ≤ x.pl) ∧ (∀ x ∈ l, o = x.lab ∨ ∃ e ∈ endsGo o l, e.lab = x.lab) ∧ (endsGo o l).Pairwise fun a b => a.lab < b.lab := by
  induction h with
  | nil => intro o _; exact ⟨fun s hs => (nomatch hs), fun s hs => (nomatch hs), List.Pairwise.nil⟩
  | @cons s r h1 _ ih =>
    intro o ho
    have os := ho s List.mem_cons_self
    unfold endsGo
    by_cases q : o = s.lab
    · rw [if_pos q]
      obtain ⟨i1, i2, i3⟩ := ih o fun x hx => ho x (List.mem_cons_of_mem _ hx)
      refine ⟨fun x hx => ?_, fun x hx => ?_, i3⟩
      · obtain ⟨a, b, c⟩ := i1 x hx
        refine ⟨List.mem_cons_of_mem _ a, b, fun y hy e => ?_⟩
        cases hy with
        | head => omega
        | tail _ hy => exact c y hy e
      · cases hx with
        | head => exact .inl q
        | tail _ hx => exact i2 x hx
    · rw [if_neg q]
      obtain ⟨i1, i2, i3⟩ := ih s.lab fun x hx => (h1 x hx).2.1
      refine ⟨fun x hx => ?_, fun x hx => ?_, List.pairwise_cons.mpr ⟨fun x hx => (i1 x hx).2.1, i3⟩⟩
      · cases hx with
        | head =>
          refine ⟨List.mem_cons_self, by omega, fun y hy _ => ?_⟩
          cases hy with
          | head => exact Int.le_refl _
          | tail _ hy => exact Int.le_of_lt (h1 y hy).1
        | tail _ hx =>
          obtain ⟨a, b, c⟩ := i1 x hx
          refine ⟨List.mem_cons_of_mem _ a, by omega, fun y hy e => ?_⟩
          cases hy with
          | head => omega
          | tail _ hy => exact c y hy e
      · cases hx with
        | head => exact .inr ⟨s, List.mem_cons_self, rfl⟩
        | tail _ hx =>
          right
          rcases i2 x hx with e | ⟨e, he, h⟩
          · exact ⟨s, List.mem_cons_self, e⟩
          · exact ⟨e, List.mem_cons_of_mem _ he, h⟩
theorem ends_ok {n : Nat} {ss : List Stp} (h : Sts n ss) : Ends ss (endsGo 0 ss) := by
  obtain ⟨h1, h2, h3⟩ := ends_go h.ord 0 fun s hs => Int.le_of_lt (h.rg s hs).1
  refine ⟨fun s hs => ⟨(h1 s hs).1, (h1 s hs).2.2⟩, fun x hx => ?_, h3⟩
  rcases h2 x hx with e | e
  · have := (h.rg x hx).1; omega
  · exact e

inductive Cov : Nat → List Stp → List (Nat × Stp × Bool) → Prop where
  | nil (f : Nat) : Cov f [] []
  | cons (f : Nat) (pre : List Stp) (s : Stp) (r : List Stp) (W : List (Nat × Stp × Bool)) (h : ∀ x ∈ pre, ¬ x.fc < 0) (c : Cov s.lab.toNat r W) : Cov f (pre ++ s :: r) ((f, s, pre.isEmpty) :: W)
noncomputable def behind (f : Nat) (es : List Stp) : List Stp := es.filter fun s => decide ((f : Int) < s.lab)
theorem mem_behind {f : Nat} {es : List Stp} {s : Stp} : s ∈ behind f es ↔ s ∈ es ∧ (f : Int) < s.lab := by
  unfold behind
  rw [List.mem_filter, decide_eq_true_eq]
theorem behind_cut {es : List Stp} (ho : es.Pairwise fun a b => a.lab < b.lab) {f : Nat} {pre r : List Stp} {s : Stp} (h : pre ++ s :: r = behind f es) : r = behind s.lab.toNat es ∧ (∀ x ∈ pre, x.lab < s.lab) ∧ s ∈ es ∧ (f : Int) < s.lab := by
  have hp : (pre ++ s :: r).Pairwise fun a b => a.lab < b.lab := by rw [h]; exact ho.sublist List.filter_sublist
  have hs : s ∈ behind f es := by rw [← h]; exact List.mem_append_right _ List.mem_cons_self
  rw [mem_behind] at hs
  rw [List.pairwise_append, List.pairwise_cons] at hp
  have e : behind s.lab.toNat es = behind s.lab.toNat (behind f es) := by
    unfold behind
    rw [List.filter_filter]
    apply List.filter_congr
    intro x _
    have := hs.2
    rw [← Bool.decide_and]
    apply decide_eq_decide.mpr
    omega
  refine ⟨?_, fun x hx => hp.2.2 x hx s List.mem_cons_self, hs.1, hs.2⟩
  have sn : ((s.lab.toNat : Nat) : Int) = s.lab := by omega
  rw [e, ← h]
  unfold behind
  rw [List.filter_append, List.filter_cons_of_neg (by rw [decide_eq_true_eq]; omega), List.filter_eq_nil_iff.mpr fun x hx => by
    have := hp.2.2 x hx s List.mem_cons_self
    rw [decide_eq_true_eq]; omega, List.nil_append]
  exact (List.filter_eq_self.mpr fun x hx => by
    have := hp.2.1.1 x hx
    rw [decide_eq_true_eq]; omega).symm

section
variable {u cap top goal : Int} {bs : List Blk}
theorem from_filter (f : Nat) (hf : f < bs.length) : stopsFrom cap bs f = (stopsFrom cap bs 0).filter fun s => decide ((f : Int) < s.lab) := (stopsFrom_filter cap bs f hf).symm
theorem mem_from {f : Nat} (hf : f < bs.length) {s : Stp} : s ∈ stopsFrom cap bs f ↔ s ∈ stopsFrom cap bs 0 ∧ (f : Int) < s.lab := by
  rw [from_filter f hf, List.mem_filter, decide_eq_true_eq]
theorem pick_mem {g : Int} {l : List Stp} {t : Stp} (h : pick g l = some t) : t ∈ nearOf l ∧ (lastFit g (nearOf l) = some t ∨ ∃ r, l = t :: r) := by
  unfold pick at h
  cases e : lastFit g (nearOf l) with
  | some z =>
    rw [e] at h
    cases h
    exact ⟨(lastFit_mem e).1, .inl rfl⟩
  | none =>
    rw [e] at h
    cases l with
    | nil => cases h
    | cons a r =>
      cases h
      refine ⟨?_, .inr ⟨r, rfl⟩⟩
      unfold nearOf
      split
      · exact List.mem_singleton.mpr rfl
      · exact List.mem_cons_self
theorem pick_far (hc : ColOk u cap top bs) {es : List Stp} (hE : Ends (stopsFrom cap bs 0) es) {f' f : Nat} (h1 : f' ≤ f) (h2 : 0 < f' ∨ f = f') {s : Stp} (hs : s ∈ es) (h3 : (f : Int) < s.lab) (hp : ∀ x ∈ es, (f' : Int) < x.lab → x.lab < s.lab → ¬ x.fc < 0)
    (hfe : (∀ x ∈ es, (f' : Int) < x.lab → s.lab ≤ x.lab) ∨ s.hi + offB top bs f' ≤ goal) {t : Stp} (ht : pick (goal - offB top bs f) (stopsFrom cap bs f) = some t) : s.lab ≤ t.lab ∧ (s.hi + offB top bs f' ≤ goal → t.hi + offB top bs f ≤ goal) := by
  have hS := stops_sts hc
  obtain ⟨hs1, hs2⟩ := hE.sub s hs
  have hfn : f < bs.length := by have := (hS.rg s hs1).2; omega
  have hsl : s ∈ stopsFrom cap bs f := (mem_from hfn).mpr ⟨hs1, h3⟩
  have hord : (stopsFrom cap bs f).Pairwise Bef := by rw [from_filter f hfn]; exact hS.ord.sublist List.filter_sublist
  have hoff : offB top bs f ≤ offB top bs f' := by
    rcases h2 with h2 | h2
    · exact offB_le hc f' f h2 h1 hfn
    · rw [h2]; exact Int.le_refl _
  obtain ⟨t1, t2⟩ := pick_mem ht
  by_cases q : s.hi + offB top bs f' ≤ goal
  · have hn : s ∈ nearOf (stopsFrom cap bs f) := by
      refine near_mem hord s hsl fun x hx hlt hf => ?_
      rw [mem_from hfn] at hx
      obtain ⟨hx1, hx2⟩ := hx
      have hxl : x.lab < s.lab := by
        rcases bef_total hS.ord x hx1 s hs1 with e | e | e
        · rw [e] at hlt; exact absurd hlt (Int.lt_irrefl _)
        · by_cases z : x.lab = s.lab
          · exact absurd (hs2 x hx1 z) (Int.not_le.mpr hlt)
          · have := e.2.1; omega
        · exact absurd e.1 (by omega)
      obtain ⟨y, hy, hye⟩ := hE.all x hx1
      have hsn := (hS.rg s hs1).2
      have := hS.one x hx1 y (hE.sub y hy).1 hye.symm hf (by omega)
      subst this
      exact hp x hy (by omega) hxl hf
    obtain ⟨z, hz⟩ := lastFit_some hn (show s.hi ≤ goal - offB top bs f by omega)
    have hzt : z = t := by
      have h := ht
      unfold pick at h
      rw [hz] at h
      exact Option.some.inj h
    subst hzt
    have h5 := (lastFit_mem hz).2
    refine ⟨?_, fun _ => by omega⟩
    rcases lastFit_ge (hord.sublist (near_sublist _)) hn (show s.hi ≤ goal - offB top bs f by omega) hz with e | e
    · rw [e]; exact Int.le_refl _
    · exact e.2.1
  · refine ⟨?_, fun h => absurd h q⟩
    rcases hfe with h | h
    · obtain ⟨y, hy, hye⟩ := hE.all t ((mem_from hfn).mp (near_sub _ _ t1)).1
      have := ((mem_from hfn).mp (near_sub _ _ t1)).2
      have := h y hy (by omega)
      omega
    · exact absurd h q
theorem greedy_best (hc : ColOk u cap top bs) {es : List Stp} (hE : Ends (stopsFrom cap bs 0) es) {f' : Nat} {E : List Stp} {W : List (Nat × Stp × Bool)} (h : Cov f' E W) : E = behind f' es → (∀ q ∈ W, q.2.2 = true ∨ q.2.1.hi + offB top bs q.1 ≤ goal) →
    ∀ f k : Nat, f' ≤ f → 0 < f' ∨ f = f' → f ≤ bs.length → bs.length - f < k → (segs cap top goal bs k f).length ≤ W.length ∧ ((∀ q ∈ W, q.2.1.hi + offB top bs q.1 ≤ goal) → ∀ p ∈ segs cap top goal bs k f, p.2.hi + offB top bs p.1 ≤ goal) := by
  have hS := stops_sts hc
  induction h with
  | nil f' =>
    intro he _ f k h1 h2 h3 h4
    have : f = bs.length := by
      obtain ⟨s, hs, hsl⟩ := hS.last
      obtain ⟨y, hy, hye⟩ := hE.all s hs
      by_cases q : (f' : Int) < y.lab
      · have : y ∈ behind f' es := mem_behind.mpr ⟨hy, q⟩
        rw [← he] at this
        cases this
      · omega
    have e : segs cap top goal bs k f = [] := by
      cases k with
      | zero => rfl
      | succ k => rw [segs, if_neg (by omega)]
    rw [e]
    exact ⟨Nat.le_refl _, fun _ p hp => nomatch hp⟩
  | cons f' pre s r W hp c ih =>
    intro he hW f k h1 h2 h3 h4
    obtain ⟨c1, c2, c3, c4⟩ := behind_cut hE.ord he
    have hsr := hS.rg s (hE.sub s c3).1
    have hW' : ∀ q ∈ W, q.2.2 = true ∨ q.2.1.hi + offB top bs q.1 ≤ goal := fun q hq => hW q (List.mem_cons_of_mem _ hq)
    have ih := ih c1 hW'
    by_cases q : s.lab.toNat ≤ f
    · obtain ⟨i1, i2⟩ := ih f k q (.inl (by omega)) h3 h4
      exact ⟨Nat.le_succ_of_le i1, fun h => i2 fun q hq => h q (List.mem_cons_of_mem _ hq)⟩
    · cases k with
      | zero => omega
      | succ k =>
        have hfn : f < bs.length := by omega
        obtain ⟨t, ht, htm⟩ := pick_ex (goal - offB top bs f) (stopsFrom cap bs f) (stopsFrom_ne cap bs f)
        have e : segs cap top goal bs (k + 1) f = (f, t) :: segs cap top goal bs k t.lab.toNat := by rw [segs, if_pos hfn, ht]
        have mem_pre : ∀ x ∈ es, (f' : Int) < x.lab → x.lab < s.lab → x ∈ pre := by
          intro x hx h5 h6
          have : x ∈ pre ++ s :: r := by rw [he]; exact mem_behind.mpr ⟨hx, h5⟩
          rcases List.mem_append.mp this with h | h
          · exact h
          · cases h with
            | head => exact absurd h6 (Int.lt_irrefl _)
            | tail _ h =>
              have h : x ∈ r := h
              rw [c1, mem_behind] at h
              omega
        obtain ⟨p1, p2⟩ := pick_far (goal := goal) hc hE h1 h2 c3 (by omega) (fun x hx h5 h6 => hp x (mem_pre x hx h5 h6)) (by
          rcases hW _ List.mem_cons_self with h | h
          · left
            intro x hx h5
            by_cases h6 : x.lab < s.lab
            · have := mem_pre x hx h5 h6
              rw [List.isEmpty_iff.mp h] at this
              cases this
            · omega
          · exact .inr h) ht
        have htr := (hS.rg t ((mem_from hfn).mp htm).1).2
        have htf := ((mem_from hfn).mp htm).2
        obtain ⟨i1, i2⟩ := ih t.lab.toNat k (by omega) (.inl (by omega)) (by omega) (by omega)
        rw [e]
        refine ⟨Nat.succ_le_succ i1, fun h p hp => ?_⟩
        cases hp with
        | head => exact p2 (h _ List.mem_cons_self)
        | tail _ hp => exact i2 (fun q hq => h q (List.mem_cons_of_mem _ hq)) p hp
theorem greedy_is (hc : ColOk u cap top bs) {es : List Stp} (hE : Ends (stopsFrom cap bs 0) es) : ∀ k f : Nat, f ≤ bs.length → bs.length - f < k → ∃ W, Cov f (behind f es) W ∧ W.length = (segs cap top goal bs k f).length ∧
    (∀ q ∈ W, q.2.2 = true ∨ q.2.1.hi + offB top bs q.1 ≤ goal) ∧ ((∀ p ∈ segs cap top goal bs k f, p.2.hi + offB top bs p.1 ≤ goal) → ∀ q ∈ W, q.2.1.hi + offB top bs q.1 ≤ goal) := by
  have hS := stops_sts hc
  intro k
  induction k with
  | zero => intro f _ h; omega
  | succ k ih =>
    intro f h1 h2
    by_cases q : f = bs.length
    · have e : segs cap top goal bs (k + 1) f = [] := by rw [segs, if_neg (by omega)]
      have e2 : behind f es = [] := by
        refine List.filter_eq_nil_iff.mpr fun x hx => ?_
        have := (hS.rg x (hE.sub x hx).1).2
        rw [decide_eq_true_eq]; omega
      rw [e, e2]
      exact ⟨[], .nil f, rfl, fun q hq => (nomatch hq), fun _ q hq => (nomatch hq)⟩
    · have hfn : f < bs.length := by omega
      obtain ⟨t, ht, htm⟩ := pick_ex (goal - offB top bs f) (stopsFrom cap bs f) (stopsFrom_ne cap bs f)
      have e : segs cap top goal bs (k + 1) f = (f, t) :: segs cap top goal bs k t.lab.toNat := by rw [segs, if_pos hfn, ht]
      have hord : (stopsFrom cap bs f).Pairwise Bef := by rw [from_filter f hfn]; exact hS.ord.sublist List.filter_sublist
      obtain ⟨ht0, htf⟩ := (mem_from hfn).mp htm
      have htr := (hS.rg t ht0).2
      obtain ⟨y, hy, hye⟩ := hE.all t ht0
      obtain ⟨hy1, hy2⟩ := hE.sub y hy
      have hyt := bef_hi hS.ord hy1 ht0 (hy2 t ht0 hye.symm)
      obtain ⟨t1, t2⟩ := pick_mem ht
      have hyb : y ∈ behind f es := mem_behind.mpr ⟨hy, by omega⟩
      obtain ⟨pre, r, hpr⟩ := List.append_of_mem hyb
      obtain ⟨c1, c2, _, _⟩ := behind_cut hE.ord hpr.symm
      obtain ⟨W, w1, w2, w3, w4⟩ := ih t.lab.toNat (by omega) (by omega)
      rw [← hye, ← c1] at w1
      have sub : ∀ x ∈ pre, x ∈ stopsFrom cap bs f ∧ x.pl < t.pl := by
        intro x hx
        have hx' := c2 x hx
        have : x ∈ behind f es := by rw [hpr]; exact List.mem_append_left _ hx
        rw [mem_behind] at this
        have hx0 := (hE.sub x this.1).1
        exact ⟨(mem_from hfn).mpr ⟨hx0, this.2⟩, bef_lab hS.ord hx0 ht0 (by omega)⟩
      have hf : pre.isEmpty = true ∨ t.hi + offB top bs f ≤ goal := by
        rcases t2 with h | ⟨r', h⟩
        · have := (lastFit_mem h).2
          exact .inr (by omega)
        · left
          cases pre with
          | nil => rfl
          | cons x pre =>
            obtain ⟨a, b⟩ := sub x List.mem_cons_self
            rw [h] at a hord
            cases a with
            | head => exact absurd b (Int.lt_irrefl _)
            | tail _ a => exact absurd ((List.pairwise_cons.mp hord).1 x a).1 (by omega)
      rw [e, hpr]
      refine ⟨(f, y, pre.isEmpty) :: W, .cons f pre y r W (fun x hx => near_before hord t t1 x (sub x hx).1 (sub x hx).2) w1, congrArg Nat.succ w2, fun q hq => ?_, fun h q hq => ?_⟩
      · cases hq with
        | head =>
          rcases hf with h | h
          · exact .inl h
          · exact .inr (by dsimp only; omega)
        | tail _ hq => exact w3 q hq
      · cases hq with
        | head =>
          have := h _ List.mem_cons_self
          dsimp only at this ⊢
          omega
        | tail _ hq => exact w4 (fun p hp => h p (List.mem_cons_of_mem _ hp)) q hq
end

noncomputable def waySegs (cl : Nat → Bool) : Nat → Nat → Bool → List Stp → List (Nat × Stp × Bool)
  | _, _, _, [] => []
  | i, f, one, s :: r => if r.isEmpty || (decide (s.fc < 0) || cl i) then (f, s, one) :: waySegs cl (i + 1) s.lab.toNat true r else waySegs cl (i + 1) f false r
theorem way_cov (cl : Nat → Bool) : ∀ (E pre : List Stp) (i f : Nat), (∀ x ∈ pre, ¬ x.fc < 0) → (E = [] → pre = []) → Cov f (pre ++ E) (waySegs cl i f pre.isEmpty E)
  | [], pre, i, f, _, h => by rw [h rfl]; exact .nil f
  | s :: r, pre, i, f, hp, _ => by
    unfold waySegs
    cases q : (r.isEmpty || (decide (s.fc < 0) || cl i)) with
    | true => exact .cons f pre s r _ hp (way_cov cl r [] (i + 1) s.lab.toNat (fun x hx => nomatch hx) fun _ => rfl)
    | false =>
      rw [Bool.or_eq_false_iff, Bool.or_eq_false_iff] at q
      have := way_cov cl r (pre ++ [s]) (i + 1) f (fun x hx => by
        rcases List.mem_append.mp hx with h | h
        · exact hp x h
        · rw [List.mem_singleton.mp h]; exact of_decide_eq_false q.2.1) (fun e => by rw [e] at q; exact absurd q.1 (by decide))
      rw [List.append_assoc] at this
      have e : (pre ++ [s]).isEmpty = false := by cases pre <;> rfl
      rw [e] at this
      exact this
theorem way_congr (a b : Nat → Bool) : ∀ (E : List Stp) (i f : Nat) (one : Bool), (∀ j, i ≤ j → j + 1 < i + E.length → a j = b j) → waySegs a i f one E = waySegs b i f one E
  | [], _, _, _, _ => rfl
  | s :: r, i, f, one, h => by
    have hr := fun f one => way_congr a b r (i + 1) f one fun j h1 h2 => h j (by omega) (by rw [List.length_cons]; omega)
    unfold waySegs
    rw [hr, hr]
    cases r with
    | nil => rfl
    | cons y r => rw [h i (Nat.le_refl _) (by rw [List.length_cons, List.length_cons]; omega)]
theorem way_skip (cl : Nat → Bool) : ∀ (pre : List Stp) (s : Stp) (r : List Stp) (i f : Nat) (one : Bool), (∀ x ∈ pre, ¬ x.fc < 0) → (∀ j, i ≤ j → j < i + pre.length → cl j = false) → cl (i + pre.length) = true →
    waySegs cl i f one (pre ++ s :: r) = (f, s, one && pre.isEmpty) :: waySegs cl (i + pre.length + 1) s.lab.toNat true r
  | [], s, r, i, f, one, _, _, h => by
    have h : cl i = true := h
    show (if r.isEmpty || (decide (s.fc < 0) || cl i) then _ else _) = _
    rw [h, Bool.or_true, Bool.or_true, if_pos rfl]
    rw [List.isEmpty_nil, Bool.and_true]
    rfl
  | x :: pre, s, r, i, f, one, hp, h1, h2 => by
    show (if (pre ++ s :: r).isEmpty || (decide (x.fc < 0) || cl i) then _ else waySegs cl (i + 1) f false (pre ++ s :: r)) = _
    have e : (pre ++ s :: r).isEmpty = false := by cases pre <;> rfl
    rw [e, decide_eq_false (hp x List.mem_cons_self), h1 i (Nat.le_refl _) (by rw [List.length_cons]; omega), if_neg (by decide), way_skip cl pre s r (i + 1) f false (fun y hy => hp y (List.mem_cons_of_mem _ hy)) (fun j h3 h4 => h1 j (by omega) (by rw [List.length_cons]; omega)) (by rw [← h2, List.length_cons]; congr 1; omega)]
    rw [List.isEmpty_cons, Bool.and_false, Bool.false_and, List.length_cons, show i + 1 + pre.length + 1 = i + (pre.length + 1) + 1 by omega]
theorem cov_way {f : Nat} {E : List Stp} {W : List (Nat × Stp × Bool)} (h : Cov f E W) : ∀ i : Nat, ∃ cl : Nat → Bool, waySegs cl i f true E = W := by
  induction h with
  | nil f => exact fun i => ⟨fun _ => true, rfl⟩
  | cons f pre s r W hp c ih =>
    intro i
    obtain ⟨cl, hcl⟩ := ih (i + pre.length + 1)
    refine ⟨fun j => if j < i + pre.length then false else if j = i + pre.length then true else cl j, ?_⟩
    rw [way_skip _ pre s r i f true hp (fun j _ h => if_pos h) (by rw [if_neg (Nat.lt_irrefl _), if_pos rfl]), Bool.true_and]
    refine congrArg _ (Eq.trans (way_congr _ cl r _ _ _ fun j h1 _ => ?_) hcl)
    rw [if_neg (by omega), if_neg (by omega)]
noncomputable def bit (w : Nat) (j : Nat) : Bool := decide ((w : Int) / 2 ^ j % 2 = 1)
theorem bits_of (k : Nat) : ∀ p : Nat → Bool, ∃ w, w < 2 ^ k ∧ ∀ j < k, (w / 2 ^ j % 2 = 1) = (p j = true) := by
  induction k with
  | zero => exact fun p => ⟨0, by decide, fun j h => absurd h (Nat.not_lt_zero _)⟩
  | succ k ih =>
    intro p
    obtain ⟨w, h1, h2⟩ := ih fun j => p (j + 1)
    refine ⟨2 * w + (p 0).toNat, by have := Bool.toNat_le (p 0); rw [Nat.pow_succ]; omega, fun j hj => ?_⟩
    have hb := Bool.toNat_le (p 0)
    cases j with
    | zero =>
      rw [Nat.pow_zero, Nat.div_one]
      cases p 0 <;> simp [Nat.add_mod]
    | succ j =>
      rw [← h2 j (Nat.lt_of_succ_lt_succ hj), Nat.pow_succ, Nat.mul_comm (2 ^ j) 2, ← Nat.div_div_eq_div_mul, show (2 * w + (p 0).toNat) / 2 = w by omega]
theorem bit_eq (w j : Nat) : bit w j = decide (w / 2 ^ j % 2 = 1) := by
  unfold bit
  apply decide_eq_decide.mpr
  have e : (w : Int) / 2 ^ j % 2 = ((w / 2 ^ j % 2 : Nat) : Int) := by push_cast; rfl
  rw [e]
  omega
theorem cov_bit {E : List Stp} {W : List (Nat × Stp × Bool)} (h : Cov 0 E W) : ∃ w, w < 2 ^ (E.length - 1) ∧ waySegs (bit w) 0 0 true E = W := by
  obtain ⟨cl, hcl⟩ := cov_way h 0
  obtain ⟨w, h1, h2⟩ := bits_of (E.length - 1) cl
  refine ⟨w, h1, Eq.trans (way_congr _ cl E 0 0 true fun j _ hj => ?_) hcl⟩
  rw [bit_eq]
  have := h2 j (by omega)
  cases q : cl j with
  | true => rw [q] at this; exact decide_eq_true (this ▸ rfl)
  | false => rw [q] at this; exact decide_eq_false (by rw [this]; decide)

theorem mx_le (a b g : Int) : mx a b ≤ g ↔ a ≤ g ∧ b ≤ g := by unfold mx; split <;> omega
noncomputable def stat (off : Nat → Int) : List (Nat × Stp × Bool) → Int × Int × Int → Int × Int × Int
  | [], t => t
  | q :: W, t => stat off W (t.1 + 1, mx t.2.1 (q.2.1.hi + off q.1), if q.2.2 then t.2.2 else mx t.2.2 (q.2.1.hi + off q.1))
theorem stat_spec (off : Nat → Int) : ∀ (W : List (Nat × Stp × Bool)) (t : Int × Int × Int), (stat off W t).1 = t.1 + W.length ∧ (∀ g, (stat off W t).2.1 ≤ g ↔ t.2.1 ≤ g ∧ ∀ q ∈ W, q.2.1.hi + off q.1 ≤ g) ∧ ∀ g, (stat off W t).2.2 ≤ g ↔ t.2.2 ≤ g ∧ ∀ q ∈ W, q.2.2 = true ∨ q.2.1.hi + off q.1 ≤ g
  | [], t => ⟨(Int.add_zero _).symm, fun g => ⟨fun h => ⟨h, fun q hq => nomatch hq⟩, fun h => h.1⟩, fun g => ⟨fun h => ⟨h, fun q hq => nomatch hq⟩, fun h => h.1⟩⟩
  | q :: W, t => by
    obtain ⟨h1, h2, h3⟩ := stat_spec off W (t.1 + 1, mx t.2.1 (q.2.1.hi + off q.1), if q.2.2 then t.2.2 else mx t.2.2 (q.2.1.hi + off q.1))
    refine ⟨?_, fun g => ?_, fun g => ?_⟩
    · rw [stat, h1, List.length_cons]; dsimp only; push_cast; omega
    · rw [stat, h2, mx_le, List.forall_mem_cons, and_assoc]
    · rw [stat, h3, List.forall_mem_cons]
      cases q.2.2 with
      | true => exact ⟨fun h => ⟨h.1, .inl rfl, h.2⟩, fun h => ⟨h.1, h.2.2⟩⟩
      | false =>
        rw [if_neg (by decide), mx_le]
        exact ⟨fun h => ⟨h.1.1, .inr h.1.2, h.2⟩, fun h => ⟨⟨h.1, h.2.1.resolve_left (by decide)⟩, h.2.2⟩⟩
noncomputable def wayOf (off : Nat → Int) (es : List Stp) (w : Nat) : Int × Int × Int := stat off (waySegs (bit w) 0 0 true es) (0, -1, -1)
noncomputable def waysOf (off : Nat → Int) (es : List Stp) : List (Int × Int × Int) := (List.range (2 ^ (es.length - 1))).map (wayOf off es)

theorem min_is {l : List Int} {m : Int} (h1 : m ∈ l) (h2 : ∀ x ∈ l, m ≤ x) : l.min? = some m := List.min?_eq_some_iff.mpr ⟨h1, h2⟩

section
variable {u cap top goal : Int} {bs : List Blk}
theorem ways_cov (hc : ColOk u cap top bs) (w : Nat) : Cov 0 (behind 0 (endsGo 0 (stopsFrom cap bs 0))) (waySegs (bit w) 0 0 true (endsGo 0 (stopsFrom cap bs 0))) := by
  have hS := stops_sts hc
  have hE := ends_ok hS
  have e : behind 0 (endsGo 0 (stopsFrom cap bs 0)) = endsGo 0 (stopsFrom cap bs 0) := List.filter_eq_self.mpr fun s hs => decide_eq_true (hS.rg s (hE.sub s hs).1).1
  rw [e]
  exact way_cov (bit w) _ [] 0 0 (fun x hx => nomatch hx) fun _ => rfl
theorem seg_mem (hc : ColOk u cap top bs) : ∀ k f : Nat, ∀ p ∈ segs cap top goal bs k f, p.1 < bs.length ∧ p.2 ∈ stopsFrom cap bs p.1 := by
  intro k
  induction k with
  | zero => intro f p hp; cases hp
  | succ k ih =>
    intro f p hp
    unfold segs at hp
    split at hp
    · rename_i q
      obtain ⟨t, ht, htm⟩ := pick_ex (goal - offB top bs f) (stopsFrom cap bs f) (stopsFrom_ne cap bs f)
      rw [ht] at hp
      cases hp with
      | head => exact ⟨q, htm⟩
      | tail _ hp => exact ih _ p hp
    · cases hp
theorem segs_ne (hc : ColOk u cap top bs) (k : Nat) : ∃ p, p ∈ segs cap top goal bs (k + 1) 0 := by
  obtain ⟨t, ht, htm⟩ := pick_ex (goal - offB top bs 0) (stopsFrom cap bs 0) (stopsFrom_ne cap bs 0)
  exact ⟨(0, t), by rw [segs, if_pos hc.n1, ht]; exact List.mem_cons_self⟩
theorem cov_mem {f : Nat} {E : List Stp} {W : List (Nat × Stp × Bool)} (h : Cov f E W) : ∀ {es : List Stp}, (es.Pairwise fun a b => a.lab < b.lab) → E = behind f es → ∀ q ∈ W, q.2.1 ∈ es ∧ (q.1 : Int) < q.2.1.lab := by
  induction h with
  | nil => intro es _ _ q hq; cases hq
  | cons f pre s r W hp c ih =>
    intro es ho he q hq
    obtain ⟨c1, c2, c3, c4⟩ := behind_cut ho he
    cases hq with
    | head => exact ⟨c3, c4⟩
    | tail _ hq => exact ih ho c1 q hq
theorem way_high (hc : ColOk u cap top bs) (w : Nat) : (∀ q ∈ waySegs (bit w) 0 0 true (endsGo 0 (stopsFrom cap bs 0)), 0 ≤ q.2.1.hi + offB top bs q.1 ∧ q.2.1.hi + offB top bs q.1 ≤ 195 * u) ∧ ∃ q, q ∈ waySegs (bit w) 0 0 true (endsGo 0 (stopsFrom cap bs 0)) := by
  have hS := stops_sts hc
  have hE := ends_ok hS
  have hc0 := ways_cov hc w
  refine ⟨fun q hq => ?_, ?_⟩
  · obtain ⟨h1, h2⟩ := cov_mem hc0 hE.ord rfl q hq
    have h3 := (hE.sub _ h1).1
    have h4 := (hS.rg _ h3).2
    have hf : q.1 < bs.length := by omega
    exact high_bd hc q.1 hf q.2.1 ((mem_from hf).mpr ⟨h3, h2⟩)
  · cases hw : waySegs (bit w) 0 0 true (endsGo 0 (stopsFrom cap bs 0)) with
    | cons q W => exact ⟨q, List.mem_cons_self⟩
    | nil =>
      rw [hw] at hc0
      exfalso
      obtain ⟨s, hs, hsl⟩ := hS.last
      obtain ⟨y, hy, hye⟩ := hE.all s hs
      have : y ∈ behind 0 (endsGo 0 (stopsFrom cap bs 0)) := mem_behind.mpr ⟨hy, (hS.rg y (hE.sub y hy).1).1⟩
      generalize behind 0 (endsGo 0 (stopsFrom cap bs 0)) = E at hc0 this
      cases hc0
      cases this
theorem worst_bd (hc : ColOk u cap top bs) (w : Nat) : 0 ≤ (wayOf (offB top bs) (endsGo 0 (stopsFrom cap bs 0)) w).2.1 ∧ (wayOf (offB top bs) (endsGo 0 (stopsFrom cap bs 0)) w).2.1 ≤ 195 * u := by
  obtain ⟨h1, q, hq⟩ := way_high hc w
  obtain ⟨_, h2, _⟩ := stat_spec (offB top bs) (waySegs (bit w) 0 0 true (endsGo 0 (stopsFrom cap bs 0))) (0, -1, -1)
  have := hc.u0
  refine ⟨?_, (h2 _).mpr ⟨by dsimp only; omega, fun q hq => (h1 q hq).2⟩⟩
  have h3 := ((h2 _).mp (Int.le_refl _)).2 q hq
  have h4 := (h1 q hq).1
  unfold wayOf
  omega
theorem least_count (hc : ColOk u cap top bs) (hg : -1 ≤ goal) : (((waysOf (offB top bs) (endsGo 0 (stopsFrom cap bs 0))).filter fun t => decide (t.2.2 ≤ goal)).map (·.1)).min? = some ((segs cap top goal bs 64 0).length : Int) := by
  have hS := stops_sts hc
  have hE := ends_ok hS
  have hn7 := hc.n7
  have e : behind 0 (endsGo 0 (stopsFrom cap bs 0)) = endsGo 0 (stopsFrom cap bs 0) := List.filter_eq_self.mpr fun s hs => decide_eq_true (hS.rg s (hE.sub s hs).1).1
  apply min_is
  · obtain ⟨W, w1, w2, w3, _⟩ := greedy_is (goal := goal) hc hE 64 0 (Nat.zero_le _) (by omega)
    rw [e] at w1
    obtain ⟨w, h1, h2⟩ := cov_bit w1
    obtain ⟨s1, _, s3⟩ := stat_spec (offB top bs) W (0, -1, -1)
    refine List.mem_map.mpr ⟨wayOf (offB top bs) (endsGo 0 (stopsFrom cap bs 0)) w, List.mem_filter.mpr ⟨List.mem_map.mpr ⟨w, List.mem_range.mpr h1, rfl⟩, ?_⟩, ?_⟩
    · unfold wayOf
      rw [h2]
      exact decide_eq_true ((s3 goal).mpr ⟨hg, w3⟩)
    · unfold wayOf
      rw [h2, s1, w2]
      exact Int.zero_add _
  · intro x hx
    obtain ⟨t, ht, rfl⟩ := List.mem_map.mp hx
    obtain ⟨ht, hn⟩ := List.mem_filter.mp ht
    obtain ⟨w, _, rfl⟩ := List.mem_map.mp ht
    have hn := of_decide_eq_true hn
    obtain ⟨s1, _, s3⟩ := stat_spec (offB top bs) (waySegs (bit w) 0 0 true (endsGo 0 (stopsFrom cap bs 0))) (0, -1, -1)
    have := (greedy_best (goal := goal) hc hE (ways_cov hc w) rfl ((s3 goal).mp hn).2 0 64 (Nat.le_refl _) (.inr rfl) (Nat.zero_le _) (by omega)).1
    unfold wayOf
    rw [s1]
    dsimp only
    omega
theorem full_iff (hc : ColOk u cap top bs) (hg : -1 ≤ goal) : ∃ M : Int, ((waysOf (offB top bs) (endsGo 0 (stopsFrom cap bs 0))).map (·.2.1)).min? = some M ∧ ((∃ p ∈ segs cap top goal bs 64 0, goal < p.2.hi + offB top bs p.1) ↔ goal < M) := by
  have hS := stops_sts hc
  have hE := ends_ok hS
  have hn7 := hc.n7
  have e : behind 0 (endsGo 0 (stopsFrom cap bs 0)) = endsGo 0 (stopsFrom cap bs 0) := List.filter_eq_self.mpr fun s hs => decide_eq_true (hS.rg s (hE.sub s hs).1).1
  obtain ⟨M, hM⟩ : ∃ M, ((waysOf (offB top bs) (endsGo 0 (stopsFrom cap bs 0))).map (·.2.1)).min? = some M := by
    cases h : ((waysOf (offB top bs) (endsGo 0 (stopsFrom cap bs 0))).map (·.2.1)).min? with
    | some M => exact ⟨M, rfl⟩
    | none =>
      rw [List.min?_eq_none_iff, List.map_eq_nil_iff, waysOf, List.map_eq_nil_iff, List.range_eq_nil] at h
      exact absurd h (Nat.ne_of_gt (Nat.two_pow_pos _))
  refine ⟨M, hM, ?_⟩
  obtain ⟨m1, m2⟩ := List.min?_eq_some_iff.mp hM
  obtain ⟨t, ht, rfl⟩ := List.mem_map.mp m1
  obtain ⟨w, _, rfl⟩ := List.mem_map.mp ht
  constructor
  · rintro ⟨p, hp, hpg⟩
    by_cases q : goal < (wayOf (offB top bs) (endsGo 0 (stopsFrom cap bs 0)) w).2.1
    · exact q
    · exfalso
      obtain ⟨_, s2, _⟩ := stat_spec (offB top bs) (waySegs (bit w) 0 0 true (endsGo 0 (stopsFrom cap bs 0))) (0, -1, -1)
      have h := ((s2 goal).mp (Int.not_lt.mp q)).2
      have := (greedy_best (goal := goal) hc hE (ways_cov hc w) rfl (fun q hq => .inr (h q hq)) 0 64 (Nat.le_refl _) (.inr rfl) (Nat.zero_le _) (by omega)).2 h p hp
      omega
  · intro hgM
    by_cases q : ∃ p ∈ segs cap top goal bs 64 0, goal < p.2.hi + offB top bs p.1
    · exact q
    · exfalso
      obtain ⟨W, w1, w2, w3, w4⟩ := greedy_is (goal := goal) hc hE 64 0 (Nat.zero_le _) (by omega)
      rw [e] at w1
      obtain ⟨w', h1, h2⟩ := cov_bit w1
      obtain ⟨_, s2, _⟩ := stat_spec (offB top bs) W (0, -1, -1)
      have hle := (s2 goal).mpr ⟨hg, w4 fun p hp => Int.not_lt.mp fun h => q ⟨p, hp, h⟩⟩
      have h5 := m2 _ (List.mem_map.mpr ⟨wayOf (offB top bs) (endsGo 0 (stopsFrom cap bs 0)) w', List.mem_map.mpr ⟨w', List.mem_range.mpr h1, rfl⟩, rfl⟩)
      unfold wayOf at h5 hgM
      rw [h2] at h5
      omega
end

theorem idx_nat {l : List D} {n : Nat} {x : D} (h : l[n]? = some x) : getIdx l (n : Int) = some x := by
  unfold getIdx
  rw [if_pos (by omega)]
  exact h
theorem range_at {N i : Nat} {x : D} (h : ((List.range N).map fun (k : Nat) => D.int (k : Int))[i]? = some x) : i < N ∧ x = .int (i : Int) := by
  rw [List.getElem?_map, Option.map_eq_some_iff] at h
  obtain ⟨a, h1, rfl⟩ := h
  obtain ⟨h2, rfl⟩ := List.getElem?_eq_some_iff.mp h1
  rw [List.getElem_range]
  exact ⟨by simpa using h2, rfl⟩

theorem loop_ok {step : Nat → D → Mem × Sto → Option (Flw × Mem × Sto)} (I : Nat → Mem × Sto → Prop) : ∀ (items : List D) (i : Nat) (s : Mem × Sto), I i s → (∀ j x s, items[j]? = some x → I (i + j) s → ∃ s', step (i + j) x s = some (.next, s') ∧ I (i + j + 1) s') → ∃ s', forGo step i items s = some (.next, s') ∧ I (i + items.length) s'
  | [], i, s, h, _ => ⟨s, rfl, h⟩
  | x :: r, i, s, h, hs => by
    obtain ⟨s', h1, h2⟩ := hs 0 x s rfl h
    obtain ⟨s'', h3, h4⟩ := loop_ok I r (i + 1) s' h2 fun j y t hy ht => by
      have := hs (j + 1) y t hy (by rw [← Nat.add_assoc, Nat.add_right_comm]; exact ht)
      rw [← Nat.add_assoc, Nat.add_right_comm] at this
      exact this
    refine ⟨s'', ?_, by rw [List.length_cons, ← Nat.add_assoc, Nat.add_right_comm]; exact h4⟩
    have h1 : step i x s = some (.next, s') := h1
    rw [forGo, h1]
    exact h3
theorem range_loop {step : Nat → D → Mem × Sto → Option (Flw × Mem × Sto)} (I : Nat → Mem × Sto → Prop) {N : Nat} {s : Mem × Sto} (h0 : I 0 s) (hs : ∀ i s, i < N → I i s → ∃ s', step i (.int (i : Int)) s = some (.next, s') ∧ I (i + 1) s') : ∃ s', forGo step 0 ((List.range N).map fun (k : Nat) => D.int (k : Int)) s = some (.next, s') ∧ I N s' := by
  have := loop_ok I ((List.range N).map fun (k : Nat) => D.int (k : Int)) 0 s h0 fun j x t hx ht => by
    obtain ⟨h1, rfl⟩ := range_at hx
    rw [Nat.zero_add] at ht ⊢
    exact hs j t h1 ht
  rw [List.length_map, List.length_range, Nat.zero_add] at this
  exact this

noncomputable def firstOf (es : List Stp) (b : Nat) : Nat := if b = 0 then 0 else match es[b - 1]? with
  | some s => s.lab.toNat
  | none => 0
noncomputable def rowD (off : Nat → Int) (es : List Stp) (b : Nat) : D := .lst ((es.drop b).map fun s => .int (s.hi + off (firstOf es b)))
noncomputable def rows (off : Nat → Int) (es : List Stp) (b : Nat) : List D := (List.range b).map (rowD off es)
theorem rows_succ (off : Nat → Int) (es : List Stp) (b : Nat) : rows off es (b + 1) = rows off es b ++ [rowD off es b] := by
  unfold rows
  rw [List.range_succ, List.map_append]; rfl
theorem rows_at (off : Nat → Int) (es : List Stp) (n b : Nat) (h : b < n) : (rows off es n)[b]? = some (rowD off es b) := by
  unfold rows
  rw [List.getElem?_map, List.getElem?_range h]; rfl
noncomputable abbrev wyMem (C T L : V) (n : Int) (o6 o7 o8 o9 o10 o11 o12 o13 : Option V) : Mem := [some C, some T, some L, some (.ref 1), some (.ref 2), some (.d (.int n)), o6, o7, o8, o9, o10, o11, o12, o13]
noncomputable def stF (off : Int) (x : D) : Option D := x.onT fun l => (l[3]?).bind (D.onI fun h => some (.int (h + off)))
section
variable {u cap top : Int} {bs : List Blk} (k : Nat)
theorem tall_step (es : List Stp) (b : Nat) (hb : b < es.length) (hp : ∀ s ∈ es, 0 ≤ s.lab) (hf : firstOf es b < bs.length) (hz : es.length ≤ 1000) (j : Nat) (a : MObj) (F0 : List D) (o6 o7 o8 o9 o10 o11 o12 o13 : Option V) :
    ∃ p6 p7, stepOf (Ph (k + 1)) false [6] 2 (loopBody (f9.body.getD 1 .fail)) j (.int (b : Int)) (wyMem (colV cap bs) (.d (.int top)) (.d (.lst (es.map Stp.toD))) es.length o6 o7 o8 o9 o10 o11 o12 o13, [a, .lst F0, .lst (rows (offB top bs) es b)]) =
      some (.next, wyMem (colV cap bs) (.d (.int top)) (.d (.lst (es.map Stp.toD))) es.length p6 p7 o8 o9 o10 o11 o12 o13, [a, .lst F0, .lst (rows (offB top bs) es (b + 1))]) := by
  refine ⟨some (.d (.int (b : Int))), some (.d (.int (firstOf es b : Int))), ?_⟩
  show S.dens (Ph (k + 1)) (loopBody (f9.body.getD 1 .fail)) (wyMem (colV cap bs) (.d (.int top)) (.d (.lst (es.map Stp.toD))) es.length (some (.d (.int (b : Int)))) o7 o8 o9 o10 o11 o12 o13, [a, .lst F0, .lst (rows (offB top bs) es b)]) = _
  refine dens_next (asg_den (v := .d (.int (firstOf es b : Int))) (τ' := [a, .lst F0, .lst (rows (offB top bs) es b)]) ?_) ?_
  · refine ite_d (cmp_d (x := .d (.int (b : Int))) (y := .d (.int 0)) rfl rfl (c_gt _ _)) ?_
    cases b with
    | zero => rfl
    | succ c =>
      rw [show decide ((0 : Int) < ((c + 1 : Nat) : Int)) = true from decide_eq_true (by omega), if_pos rfl]
      have hx : es[c]? = some es[c] := List.getElem?_eq_getElem (by omega)
      have hl := hp es[c] (List.mem_of_getElem? hx)
      have e1 : getIdx (es.map Stp.toD) (((c + 1 : Nat) : Int) - 1) = some es[c].toD := by
        rw [show (((c + 1 : Nat) : Int) - 1) = (c : Int) by omega, idxN, hx]; rfl
      refine idx_d (va := .d es[c].toD) (j := 1) (idx_d (va := .d (.lst (es.map Stp.toD))) rfl (bin_d rfl rfl rfl) (by show (getIdx (es.map Stp.toD) _).map V.d = _; rw [e1]; rfl)) rfl ?_
      have e2 : firstOf es (c + 1) = es[c].lab.toNat := by
        unfold firstOf
        rw [if_neg (Nat.succ_ne_zero c), show c + 1 - 1 = c from rfl, hx]
      rw [e2, Int.toNat_of_nonneg hl]
      rfl
  refine dens_next (expr_den (v := .d .none) (τ' := [a, .lst F0, .lst (rows (offB top bs) es (b + 1))]) ?_) dens_nil
  rw [rows_succ]
  refine app_d (n := 2) (x := rowD (offB top bs) es b) (σ' := [a, .lst F0, .lst (rows (offB top bs) es b)]) rfl rfl ?_ rfl (by unfold rows; rw [List.length_map, List.length_range]; omega)
  have hsrc : E.den (Ph (k + 1)) (wyMem (colV cap bs) (.d (.int top)) (.d (.lst (es.map Stp.toD))) es.length (some (.d (.int (b : Int)))) (some (.d (.int (firstOf es b : Int)))) o8 o9 o10 o11 o12 o13) (.cutFrom (.loc 2) (.loc 6)) [a, .lst F0, .lst (rows (offB top bs) es b)] =
      some (.d (.lst ((es.drop b).map Stp.toD)), [a, .lst F0, .lst (rows (offB top bs) es b)]) := by
    exact cutF_d (va := .d (.lst (es.map Stp.toD))) (j := (b : Int)) rfl rfl (cut_from es Stp.toD b)
  rw [show rowD (offB top bs) es b = .lst (((es.drop b).map Stp.toD).filterMap (stF (offB top bs (firstOf es b)))) by
    rw [rowD, List.filterMap_map, ← List.filterMap_eq_map]; rfl]
  refine (comp_den (fun _ x => stF (offB top bs (firstOf es b)) x) hsrc rfl fun i x hx => ?_).trans (by rw [filterMap_zipIdx])
  rw [List.getElem?_map, Option.map_eq_some_iff] at hx
  obtain ⟨s, _, rfl⟩ := hx
  have hh := high_off k cap top bs (firstOf es b) hf s [a, .lst F0, .lst (rows (offB top bs) es b)]
  refine ⟨[some (colV cap bs), some (.d (.int top)), some (.d (.int (firstOf es b : Int))), some (.d s.toD)], rfl, ?_⟩
  have hcall : E.den (Ph (k + 1)) [some (colV cap bs), some (.d (.int top)), some (.d (.int (firstOf es b : Int))), some (.d s.toD)] (.call 8 [(.loc 0), (.loc 1), (.loc 2), (.loc 3)] [] []) [a, .lst F0, .lst (rows (offB top bs) es b)] = some (.d (.int (s.hi + offB top bs (firstOf es b))), [a, .lst F0, .lst (rows (offB top bs) es b)]) :=
    call_d rfl hh
  exact (el_if (c := true) rfl hcall)
end

noncomputable abbrev iV (i : Int) : Option V := some (.d (.int i))
section
variable (k : Nat) (C T : V) (off : Nat → Int) (es : List Stp) (a : MObj) (F0 : List D)
noncomputable abbrev wS (w b : Nat) (c wo ne : Int) (o7 o12 o13 : Option V) : Mem × Sto := (wyMem C T (.d (.lst (es.map Stp.toD))) es.length (iV (b : Int)) o7 (iV (w : Int)) (iV c) (iV wo) (iV ne) o12 o13, [a, .lst F0, .lst (rows off es es.length)])
theorem way_body (w b e : Nat) (c wo ne : Int) (o7 o13 : Option V) (hbe : b ≤ e) (he : e < es.length) (hw : w < 2 ^ 60) (hz : es.length ≤ 60) (s : Stp) (hs : es[e]? = some s) :
    ∃ b' c' wo' ne' p13, b' ≤ e + 1 ∧ stat off (waySegs (bit w) e (firstOf es b) (decide (b = e)) (es.drop e)) (c, wo, ne) = stat off (waySegs (bit w) (e + 1) (firstOf es b') (decide (b' = e + 1)) (es.drop (e + 1))) (c', wo', ne') ∧
      S.dens (Ph k) (loopBody ((loopBody (f9.body.getD 2 .fail)).getD 1 .fail)) (wS C T off es a F0 w b c wo ne o7 (iV (e : Int)) o13) = some (.next, wS C T off es a F0 w b' c' wo' ne' o7 (iV (e : Int)) p13) := by
  have hd : es.drop e = s :: es.drop (e + 1) := by
    rw [List.drop_eq_getElem_cons he]
    congr 1
    rw [List.getElem?_eq_getElem he] at hs
    exact Option.some.inj hs
  have hem : (es.drop (e + 1)).isEmpty = ((e : Int) == (es.length : Int) - 1) := by
    by_cases q : e + 1 = es.length
    · rw [q, List.drop_length]; symm; show decide _ = true; exact decide_eq_true (by omega)
    · rw [List.drop_eq_getElem_cons (by omega)]; symm; show decide _ = false; exact decide_eq_false (by omega)
  let m : Mem := (wS C T off es a F0 w b c wo ne o7 (iV (e : Int)) o13).1
  let σ : Sto := [a, .lst F0, .lst (rows off es es.length)]
  have hget : getIdx (es.map Stp.toD) (e : Int) = some s.toD := by rw [idxN, hs]; rfl
  have t1 : E.den (Ph k) m (.cmp .Eq (.loc 12) (.bin .Sub (.loc 5) (.lit (.int 1)))) σ = some (.d (.bool ((e : Int) == (es.length : Int) - 1)), σ) := cmp_d rfl (bin_d rfl rfl rfl) rfl
  have t2 : E.den (Ph k) m (.cmp .Lt (.idx (.idx (.loc 2) (.loc 12)) (.lit (.int 4))) (.lit (.int 0))) σ = some (.d (.bool (decide (s.fc < 0))), σ) :=
    cmp_d (x := .d (.int s.fc)) (idx_d (va := .d s.toD) (j := 4) (idx_d (va := .d (.lst (es.map Stp.toD))) (j := (e : Int)) rfl rfl (by show (getIdx (es.map Stp.toD) _).map V.d = _; rw [hget]; rfl)) rfl rfl) rfl rfl
  have t3 : E.den (Ph k) m (.cmp .Eq (.bin .Mod (.bin .FloorDiv (.loc 8) (.bin .Pow (.lit (.int 2)) (.loc 12))) (.lit (.int 2))) (.lit (.int 1))) σ = some (.d (.bool (bit w e)), σ) := by
    have hp : (0 : Int) < 2 ^ (e : Int).toNat := Int.pow_pos (by decide)
    have hp2 : (2 : Int) ^ (e : Int).toNat < 2 ^ 64 := by
      rw [Int.toNat_natCast]
      have := Nat.pow_lt_pow_right (show 1 < 2 by decide) (show e < 64 by omega)
      exact_mod_cast this
    refine cmp_d (x := .d (.int ((w : Int) / 2 ^ (e : Int).toNat % 2))) (bin_d (x := .d (.int ((w : Int) / 2 ^ (e : Int).toNat))) (bin_d (x := .d (.int w)) rfl (bin_d (x := .d (.int 2)) (y := .d (.int e)) rfl rfl (b_pow 2 e rfl (by omega) (by omega))) (b_div _ _ hp hp2)) rfl (b_mod _ 2 (by decide))) rfl ?_
    rw [Int.toNat_natCast]
    rfl
  have tc := bop_d (or_d t1 (or_d t2 (or_d t3 (show E.dens? (Ph k) m false [] σ = some (false, σ) from rfl))))
  rw [hd, waySegs, hem, ← Bool.or_false (bit w e)]
  rw [Bool.or_false] at tc
  rw [Bool.or_false]
  generalize hq : ((e : Int) == (es.length : Int) - 1 || (decide (s.fc < 0) || bit w e)) = q at tc
  cases q with
  | false =>
    refine ⟨b, c, wo, ne, o13, by omega, ?_, dens_next (if_den tc rfl) dens_nil⟩
    rw [if_neg (by decide), decide_eq_false (show ¬ b = e + 1 by omega)]
  | true =>
    have hrow := rows_at off es es.length b (by omega)
    have e1 : getIdx (rows off es es.length) (b : Int) = some (rowD off es b) := idx_nat hrow
    have e2 : getIdx ((es.drop b).map fun s => D.int (s.hi + off (firstOf es b))) ((e : Int) - (b : Int)) = some (.int (s.hi + off (firstOf es b))) := by
      rw [show (e : Int) - (b : Int) = ((e - b : Nat) : Int) by omega]
      refine idx_nat ?_
      rw [List.getElem?_map, List.getElem?_drop, show b + (e - b) = e by omega, hs]; rfl
    generalize hh : s.hi + off (firstOf es b) = h at e2
    have hf' : firstOf es (e + 1) = s.lab.toNat := by
      unfold firstOf
      rw [if_neg (Nat.succ_ne_zero e), show e + 1 - 1 = e from rfl, hs]
    refine ⟨e + 1, c + 1, mx wo h, if decide (b = e) then ne else mx ne h, iV h, Nat.le_refl _, ?_, dens_next (if_den tc ?_) dens_nil⟩
    · rw [if_pos rfl, hf', decide_eq_true rfl, stat]
      dsimp only
      rw [hh]
    rw [if_pos rfl]
    refine dens_next (asg_den (v := .d (.int h)) (τ' := σ) (idx_d (va := .d (rowD off es b)) (j := (e : Int) - (b : Int)) (idx_d (va := .ref 2) (j := (b : Int)) rfl rfl (by show (getIdx (rows off es es.length) _).map V.d = _; rw [e1]; rfl)) (bin_d rfl rfl rfl) (by show (getIdx ((es.drop b).map fun s => D.int (s.hi + off (firstOf es b))) _).map V.d = _; rw [e2]; rfl))) ?_
    refine dens_next (s1 := wS C T off es a F0 w b (c + 1) (mx wo h) ne o7 (iV (e : Int)) (iV h)) rfl ?_
    refine dens_next (s1 := wS C T off es a F0 w b (c + 1) (mx wo h) (if decide (b = e) then ne else mx ne h) o7 (iV (e : Int)) (iV h)) (if_den (t := decide ((b : Int) < (e : Int))) (cmp_d rfl rfl rfl) ?_) (dens_next rfl dens_nil)
    by_cases z : b = e
    · rw [decide_eq_true z, decide_eq_false (show ¬ (b : Int) < (e : Int) by omega)]; rfl
    · rw [decide_eq_false z, decide_eq_true (show (b : Int) < (e : Int) by omega)]; rfl
theorem way_turn (w : Nat) (hw : w < 2 ^ 60) (hz : es.length ≤ 60) (hF : F0.length < 2 ^ 24) (j : Nat) (o6 o7 o8 o9 o10 o11 o12 o13 : Option V) :
    ∃ p6 p8 p9 p10 p11 p12 p13, stepOf (Ph k) false [8] 2 (loopBody (f9.body.getD 2 .fail)) j (.int (w : Int)) (wyMem C T (.d (.lst (es.map Stp.toD))) es.length o6 o7 o8 o9 o10 o11 o12 o13, [a, .lst F0, .lst (rows off es es.length)]) =
      some (.next, wyMem C T (.d (.lst (es.map Stp.toD))) es.length p6 o7 p8 p9 p10 p11 p12 p13, [a, .lst (F0 ++ [tri (wayOf off es w)]), .lst (rows off es es.length)]) := by
  obtain ⟨s, h1, b, c, wo, ne, p12, p13, hb, rfl, ht⟩ := range_loop (step := stepOf (Ph k) false [12] 2 (loopBody ((loopBody (f9.body.getD 2 .fail)).getD 1 .fail))) (N := es.length) (s := wS C T off es a F0 w 0 0 (-1) (-1) o7 o12 o13)
    (fun e s => ∃ b c wo ne o12 o13, b ≤ e ∧ s = wS C T off es a F0 w b c wo ne o7 o12 o13 ∧ stat off (waySegs (bit w) e (firstOf es b) (decide (b = e)) (es.drop e)) (c, wo, ne) = wayOf off es w) ⟨0, 0, -1, -1, o12, o13, Nat.le_refl _, rfl, rfl⟩ fun e s he h => by
      obtain ⟨b, c, wo, ne, p12, p13, hb, rfl, ht⟩ := h
      obtain ⟨b', c', wo', ne', q13, h1, h2, h3⟩ := way_body k C T off es a F0 w b e c wo ne o7 p13 hb he hw hz _ (List.getElem?_eq_getElem he)
      exact ⟨_, h3, b', c', wo', ne', _, q13, h1, rfl, h2 ▸ ht⟩
  rw [List.drop_length] at ht
  have ht : (c, wo, ne) = wayOf off es w := ht
  refine ⟨iV b, iV w, iV c, iV wo, iV ne, p12, p13, ?_⟩
  rw [← ht]
  show S.dens (Ph k) (loopBody (f9.body.getD 2 .fail)) (wyMem C T (.d (.lst (es.map Stp.toD))) es.length o6 o7 (iV w) o9 o10 o11 o12 o13, [a, .lst F0, .lst (rows off es es.length)]) = _
  refine dens_next (s1 := wS C T off es a F0 w 0 0 (-1) (-1) o7 o12 o13) rfl ?_
  refine dens_next (s1 := wS C T off es a F0 w b c wo ne o7 p12 p13) (den_for (v := .d (.int (es.length : Int))) rfl (items2 _ (by omega) (by omega)) h1) ?_
  exact dens_next (expr_den (app_d (n := 1) (l := F0) (x := tri (c, wo, ne)) rfl rfl rfl rfl hF)) dens_nil
end
theorem ways_eq (k : Nat) {u cap top : Int} {bs : List Blk} (hc : ColOk u cap top bs) (a : MObj) (ha : a.isLst = true) (es : List Stp) (hes : es = endsGo 0 (stopsFrom cap bs 0)) :
    F (k + 2) 9 [colV cap bs, .d (.int top), .d (.lst (es.map Stp.toD))] [a] = some (.d (.lst ((waysOf (offB top bs) es).map tri)), [a]) ∧ es ≠ [] ∧ es.length ≤ 7 := by
  have hS := stops_sts hc
  have hE := ends_ok hS
  rw [← hes] at hE
  have hn7 := hc.n7
  have hrg : ∀ s ∈ es, 0 < s.lab ∧ s.lab ≤ bs.length := fun s hs => hS.rg s (hE.sub s hs).1
  have hne : es ≠ [] := by
    obtain ⟨s, hs, _⟩ := hS.last
    obtain ⟨y, hy, _⟩ := hE.all s hs
    exact List.ne_nil_of_mem hy
  -- strictly growing labels up to n: at most n ends
  have hlab : ∀ (l : List Stp) (o : Int), (l.Pairwise fun a b => a.lab < b.lab) → (∀ s ∈ l, o < s.lab ∧ s.lab ≤ bs.length) → 0 ≤ o → (l.length : Int) ≤ bs.length - o ∨ l = [] := by
    intro l
    induction l with
    | nil => intro o _ _ _; exact .inr rfl
    | cons s r ih =>
      intro o h1 h2 h3
      have hs := h2 s List.mem_cons_self
      rw [List.pairwise_cons] at h1
      rcases ih s.lab h1.2 (fun x hx => ⟨h1.1 x hx, (h2 x (List.mem_cons_of_mem _ hx)).2⟩) (by omega) with h | h
      · left; rw [List.length_cons]; push_cast; omega
      · left; rw [h]; show ((1 : Nat) : Int) ≤ _; omega
  have hz7 : es.length ≤ 7 := by
    rcases hlab es 0 hE.ord hrg (Int.le_refl _) with h | h
    · omega
    · exact absurd h hne
  refine ⟨?_, hne, hz7⟩
  have hz0 : 0 < es.length := List.length_pos_iff.mpr hne
  have hf : ∀ b, b < es.length → firstOf es b < bs.length := by
    intro b hb
    unfold firstOf
    split
    · exact hc.n1
    · have hx : es[b - 1]? = some es[b - 1] := List.getElem?_eq_getElem (by omega)
      rw [hx]
      have h1 := List.pairwise_iff_getElem.mp hE.ord (b - 1) b (by omega) hb (by omega)
      have h2 := hrg _ (List.getElem_mem hb)
      have h3 := hrg _ (List.getElem_mem (show b - 1 < es.length by omega))
      dsimp only
      omega
  have hls : lists [a] = true := by rw [lists, List.all_cons, ha]; rfl
  let C := colV cap bs
  let T : V := .d (.int top)
  let off := offB top bs
  obtain ⟨s1, h1, o6, o7, rfl⟩ := range_loop (step := stepOf (Ph (k + 1)) false [6] 2 (loopBody (f9.body.getD 1 .fail))) (N := es.length) (s := (wyMem C T (.d (.lst (es.map Stp.toD))) es.length none none none none none none none none, [a, .lst [], .lst (rows off es 0)]))
    (fun b s => ∃ o6 o7, s = (wyMem C T (.d (.lst (es.map Stp.toD))) es.length o6 o7 none none none none none none, [a, .lst [], .lst (rows off es b)])) ⟨none, none, rfl⟩ fun b s hb h => by
      obtain ⟨o6, o7, rfl⟩ := h
      obtain ⟨p6, p7, h⟩ := tall_step (cap := cap) (top := top) (bs := bs) k es b hb (fun s hs => Int.le_of_lt (hrg s hs).1) (hf b hb) (by omega) b a [] o6 o7 none none none none none none
      exact ⟨_, h, p6, p7, rfl⟩
  have hN : 2 ^ (es.length - 1) ≤ 2 ^ 6 := Nat.pow_le_pow_right (by decide) (by omega)
  obtain ⟨s2, h2, q6, q8, q9, q10, q11, q12, q13, rfl⟩ := range_loop (step := stepOf (Ph (k + 1)) false [8] 2 (loopBody (f9.body.getD 2 .fail))) (N := 2 ^ (es.length - 1)) (s := (wyMem C T (.d (.lst (es.map Stp.toD))) es.length o6 o7 none none none none none none, [a, .lst [], .lst (rows off es es.length)]))
    (fun w s => ∃ q6 q8 q9 q10 q11 q12 q13, s = (wyMem C T (.d (.lst (es.map Stp.toD))) es.length q6 o7 q8 q9 q10 q11 q12 q13, [a, .lst (((List.range w).map (wayOf off es)).map tri), .lst (rows off es es.length)])) ⟨_, _, _, _, _, _, _, rfl⟩ fun w s hw h => by
      obtain ⟨q6, q8, q9, q10, q11, q12, q13, rfl⟩ := h
      obtain ⟨p6, p8, p9, p10, p11, p12, p13, h⟩ := way_turn (k + 1) C T off es a (((List.range w).map (wayOf off es)).map tri) w (Nat.lt_trans (Nat.lt_of_lt_of_le hw hN) (by decide)) (by omega) (by rw [List.length_map, List.length_map, List.length_range]; exact Nat.lt_trans (Nat.lt_of_lt_of_le hw hN) (by decide)) w q6 o7 q8 q9 q10 q11 q12 q13
      refine ⟨_, h, p6, p8, p9, p10, p11, p12, p13, ?_⟩
      rw [List.range_succ, List.map_append, List.map_append]
      rfl
  rw [F9]
  refine run_frz (Φ := Ph (k + 1)) (f := f9) (m' := wyMem C T (.d (.lst (es.map Stp.toD))) es.length q6 o7 q8 q9 q10 q11 q12 q13) (v := .ref 1) (σ' := [a, .lst ((waysOf off es).map tri), .lst (rows off es es.length)]) rfl rfl ?_ hls rfl
  refine dens_next (s1 := (wyMem C T (.d (.lst (es.map Stp.toD))) es.length none none none none none none none none, [a, .lst [], .lst []])) ?_ ?_
  · rw [show ((es.length : Nat) : Int) = ((es.map Stp.toD).length : Nat) by rw [List.length_map]]
    rfl
  refine dens_next (den_for (v := .d (.int (es.length : Int))) (σ1 := [a, .lst [], .lst []]) rfl (items2 _ (by omega) (by omega)) h1) ?_
  refine dens_next (den_for (v := .d (.int ((2 ^ (es.length - 1) : Nat) : Int))) (σ1 := [a, .lst [], .lst (rows off es es.length)]) ?_ ?_ h2) (dens_ret rfl)
  · refine bin_d (x := .d (.int 2)) (y := .d (.int ((es.length : Int) - 1))) rfl (bin_d rfl rfl rfl) ((b_pow 2 _ rfl (by omega) (by omega)).trans ?_)
    rw [show ((es.length : Int) - 1).toNat = es.length - 1 by omega]
    push_cast
    rfl
  · generalize 2 ^ (es.length - 1) = N at hN
    rw [items2 _ (by omega) (by have : (2 : Nat) ^ 6 = 64 := rfl; omega), Int.toNat_natCast]

noncomputable def Pl (n : Nat) (d : D) : Prop := ∃ p, py? d = some p ∧ p.canLay0 = true ∧ p.depth ≤ n
theorem pl_int (i : Int) : Pl 0 (.int i) := ⟨_, rfl, rfl, Nat.le_refl _⟩
theorem pl_str {s : Str} (h : (PyData.str s).canLay0 = true) : Pl 0 (.str s) := ⟨_, rfl, h, Nat.le_refl _⟩
theorem pl_up {n m : Nat} {d : D} (h : Pl n d) (q : n ≤ m) : Pl m d := by
  obtain ⟨p, h1, h2, h3⟩ := h
  exact ⟨p, h1, h2, Nat.le_trans h3 q⟩
theorem pl_all {n : Nat} : ∀ {l : List D}, (∀ x ∈ l, Pl n x) → ∃ ps, pys? l = some ps ∧ PyData.canLayAll0 ps = true ∧ PyData.depthAll ps ≤ n
  | [], _ => ⟨[], rfl, rfl, Nat.zero_le _⟩
  | x :: r, h => by
    obtain ⟨p, h1, h2, h3⟩ := h x List.mem_cons_self
    obtain ⟨ps, i1, i2, i3⟩ := pl_all fun y hy => h y (List.mem_cons_of_mem _ hy)
    exact ⟨p :: ps, by rw [pys?, h1, Option.bind_some, i1]; rfl, by rw [PyData.canLayAll0, h2, i2]; rfl, Nat.max_le.mpr ⟨h3, i3⟩⟩
theorem pl_tup {n : Nat} {l : List D} (h : ∀ x ∈ l, Pl n x) : Pl (n + 1) (.tup l) := by
  obtain ⟨ps, h1, h2, h3⟩ := pl_all h
  exact ⟨.tuple ps, by rw [py?, h1]; rfl, h2, Nat.succ_le_succ h3⟩
theorem pl_lst {n : Nat} {l : List D} (h : ∀ x ∈ l, Pl n x) : Pl (n + 1) (.lst l) := by
  obtain ⟨ps, h1, h2, h3⟩ := pl_all h
  exact ⟨.list ps, by rw [py?, h1]; rfl, h2, Nat.succ_le_succ h3⟩
theorem eqD_self {d : D} (h : Pl 64 d) : eqD d d = some true := by
  obtain ⟨p, h1, h2, h3⟩ := h
  have hs : SeqAt.shaped p = true := by rw [SeqAt.shaped, h2, decide_eq_true h3]; rfl
  have key : eqP d d = some true := bind_r h1 (bind_r h1 ((if_pos (by rw [hs]; rfl)).trans (congrArg some (SeqAt.eqv_refl p h2))))
  cases d with
  | lst l => cases l with
    | nil => rfl
    | cons x l => exact key
  | int i => exact congrArg some (beq_self_eq_true i)
  | bool i => exact congrArg some (beq_self_eq_true i)
  | str i => exact congrArg some (beq_self_eq_true i)
  | _ => exact key
theorem ne_self {d : D} (h : Pl 64 d) : cmpD .NotEq (.d d) (.d d) = some false := by
  show (eqD d d).map _ = _
  rw [eqD_self h]; rfl
theorem pl_ints {l : List D} (h : ∀ x ∈ l, ∃ i, x = .int i) : ∀ x ∈ l, Pl 0 x := fun x hx => by obtain ⟨i, rfl⟩ := h x hx; exact pl_int i
theorem ints_of {l : List Int} : ∀ x ∈ l.map D.int, ∃ i, x = .int i := fun x hx => (List.mem_map.mp hx).elim fun i h => ⟨i, h.2.symm⟩
theorem pl_tri (t : Int × Int × Int) : Pl 64 (tri t) := pl_up (pl_tup (l := [t.1, t.2.1, t.2.2].map D.int) (pl_ints ints_of)) (by decide)
theorem pl_stp (s : Stp) : Pl 64 s.toD := pl_up (pl_tup (l := [s.pl, s.lab, s.sz, s.hi, s.fc].map D.int) (pl_ints ints_of)) (by decide)
theorem pl_two (a b : Int) : Pl 64 (.tup [.int a, .int b]) := pl_up (pl_tup (l := [a, b].map D.int) (pl_ints ints_of)) (by decide)
theorem pl_rng (a : Int) (k : Nat) : Pl 64 (.lst (rng a k)) := pl_up (pl_lst (pl_ints fun x hx => by
  obtain ⟨i, _, rfl⟩ := List.mem_map.mp hx
  exact ⟨_, rfl⟩)) (by decide)
theorem pl_part (p : Part) : Pl 1 p.toD := by
  refine pl_tup fun x hx => ?_
  cases hx with
  | head => exact pl_str (by cases p.c <;> kernel_rfl)
  | tail _ hx =>
    exact pl_up (pl_ints (l := [p.h, p.d, p.l].map D.int) ints_of x hx) (Nat.zero_le _)

theorem items3 (σ : Sto) {a b : Int} (h1 : -(2 ^ 60) ≤ a) (h2 : a ≤ 2 ^ 60) (h3 : -(2 ^ 60) ≤ b) (h4 : b - a ≤ 2 ^ 24) : itemsOf σ 3 (.d (.tup [.int a, .int b])) = some (rng a (b - a).toNat) := by
  exact if_pos (by rw [decide_eq_true h1, decide_eq_true h2, decide_eq_true h3, decide_eq_true h4]; rfl)

noncomputable abbrev rgMem (C T G P Pa St Ah : V) (first : Int) (o8 o9 o10 o11 o12 o13 o14 : Option V) : Mem := [some C, some T, some G, some P, some Pa, some St, some Ah, iV first, o8, o9, o10, o11, o12, o13, o14]
noncomputable def hereF (place beh : Int) (x : D) : Option D := x.onT fun l => (l[0]?).bind (D.onI fun p => (l[1]?).bind (D.onI fun q => if p == place && q == beh then some x else none))
noncomputable def laterF (first : Int) (x : D) : Option D := x.onT fun l => (l[1]?).bind (D.onI fun c => if decide (first < c) then some x else none)
theorem hereF_map (place beh : Int) (l : List Stp) : (l.map Stp.toD).filterMap (hereF place beh) = (l.filter fun s => s.pl == place && s.lab == beh).map Stp.toD := filt_map (p := fun s => s.pl == place && s.lab == beh) (fun _ => rfl) l
theorem laterF_map (first : Int) (l : List Stp) : (l.map Stp.toD).filterMap (laterF first) = (l.filter fun s => decide (first < s.lab)).map Stp.toD := filt_map (p := fun s => decide (first < s.lab)) (fun _ => rfl) l
section
variable (k : Nat) {u cap top goal : Int} {bs : List Blk}
theorem right_step (hc : ColOk u cap top bs) (P : V) (f : Nat) (hf : f < bs.length) (s : Stp) (hs : pick (goal - offB top bs f) (stopsFrom cap bs f) = some s) (j : Nat) (σ : Sto) (o8 o9 o10 o11 o12 o13 o14 : Option V) :
    ∃ p8 p9 p10 p11 p12 p13 p14, stepOf (Ph (k + 1)) true [8, 9, 10] 0 (loopBody (f11.body.getD 2 .fail)) j (pcD top goal bs (f, s)) (rgMem (colV cap bs) (.d (.int top)) (.d (.int goal)) P (.d (.lst ((colParts 1 bs).map Part.toD))) (.d (.lst ((stopsFrom cap bs 0).map Stp.toD))) (.d (.lst ((colAhead bs ⟨0, 0, 0⟩).map pairD))) f o8 o9 o10 o11 o12 o13 o14, σ) =
      some (.next, rgMem (colV cap bs) (.d (.int top)) (.d (.int goal)) P (.d (.lst ((colParts 1 bs).map Part.toD))) (.d (.lst ((stopsFrom cap bs 0).map Stp.toD))) (.d (.lst ((colAhead bs ⟨0, 0, 0⟩).map pairD))) s.lab.toNat p8 p9 p10 p11 p12 p13 p14, σ) := by
  have hS := stops_sts hc
  have hn7 := hc.n7
  obtain ⟨hm1, hm2⟩ := pick_mem hs
  obtain ⟨hs0, hsf⟩ := (mem_from hf).mp (near_sub _ _ hm1)
  have hsn := (hS.rg s hs0).2
  obtain ⟨e, he⟩ : ∃ e : Nat, s.lab = e := ⟨s.lab.toNat, by omega⟩
  have het : s.lab.toNat = e := by omega
  generalize hC : colV cap bs = C
  generalize hPa : V.d (.lst ((colParts 1 bs).map Part.toD)) = Pa
  generalize hSt : V.d (.lst ((stopsFrom cap bs 0).map Stp.toD)) = St
  generalize hAh : V.d (.lst ((colAhead bs ⟨0, 0, 0⟩).map pairD)) = Ah
  have hpc : pcD top goal bs (f, s) = .tup [.lst (rng (f + 1) (e - f)), .int (s.pl + offA top bs f), rep (goal - (s.hi + offB top bs f))] := by
    unfold pcD
    dsimp only
    rw [het]
  rw [hpc, het]
  have hhigh := high_off k cap top bs f hf s σ
  rw [hC] at hhigh
  generalize hH : s.hi + offB top bs f = H at hhigh ⊢
  let T : V := .d (.int top)
  let G : V := .d (.int goal)
  let N : Option V := some (.d (.lst (rng (f + 1) (e - f))))
  let CN : Option V := iV (s.pl + offA top bs f)
  let RP : Option V := some (.d (rep (goal - H)))
  have hplace : (posAt bs ⟨0, 0, 0⟩ f).pos + (s.pl + offA top bs f) - (if decide ((0 : Int) < (f : Int)) then 1 else 0) = s.pl := by
    unfold offA
    by_cases q : f = 0
    · subst q
      show (0 : Int) + (s.pl + 0) - 0 = s.pl
      omega
    · rw [if_neg q, decide_eq_true (by omega), if_pos rfl]; omega
  obtain ⟨hr, hhere⟩ : ∃ r, ((stopsFrom cap bs 0).filter fun x => x.pl == s.pl && x.lab == (e : Int)) = s :: r := by
    cases hfi : (stopsFrom cap bs 0).filter fun x => x.pl == s.pl && x.lab == (e : Int) with
    | nil =>
      rw [List.filter_eq_nil_iff] at hfi
      exact absurd (by rw [he, beq_self_eq_true, beq_self_eq_true]; rfl) (hfi s hs0)
    | cons y r =>
      have hy := List.mem_filter.mp (by rw [hfi]; exact List.mem_cons_self : y ∈ (stopsFrom cap bs 0).filter fun x => x.pl == s.pl && x.lab == (e : Int))
      rw [Bool.and_eq_true, beq_iff_eq] at hy
      refine ⟨r, ?_⟩
      rcases bef_total hS.ord y hy.1 s hs0 with h | h | h
      · rw [h]
      · have := h.1; omega
      · have := h.1; omega
  refine ⟨N, CN, RP, iV e, iV s.pl, some (.d (.lst ((s :: hr).map Stp.toD))), iV H, ?_⟩
  show S.dens (Ph (k + 1)) (loopBody (f11.body.getD 2 .fail)) (rgMem C T G P Pa St Ah f N CN RP o11 o12 o13 o14, σ) = _
  refine dens_next (asg_den (v := .d (.int e)) (τ' := σ) (bin_d (x := .d (.int f)) (y := .d (.int ((rng (f + 1) (e - f)).length : Nat))) rfl rfl ?_)) ?_
  · rw [rng_len]
    show some (D.int ((f : Int) + ((e - f : Nat) : Int))) = _
    rw [show (f : Int) + ((e - f : Nat) : Int) = e by omega]
  obtain ⟨c, hec⟩ : ∃ c, e - f = c + 1 := ⟨e - f - 1, by omega⟩
  refine dens_next (s1 := (rgMem C T G P Pa St Ah f N CN RP (iV e) o12 o13 o14, σ)) (if_den (t := false) (bop_d (or_d (b := false) (c := false) (cmp_d (x := .d (.lst (rng (f + 1) (e - f)))) (y := .d (.lst [])) rfl rfl ?_) (or_d (b := false) (c := false) (cmp_d (x := .d (.lst (rng (f + 1) (e - f)))) (y := .d (.lst (rng (f + 1) (e - f)))) rfl ?_ (ne_self (pl_rng _ _))) rfl))) rfl) ?_
  · rw [hec, rng_succ]; rfl
  · refine lrange_d (i := (f : Int) + 1) (j := (e : Int) + 1) rfl rfl ((items3 σ (by omega) (by omega) (by omega) (by omega)).trans ?_)
    rw [show ((e : Int) + 1 - ((f : Int) + 1)).toNat = e - f by omega]
  refine dens_next (asg_den (v := .d (.int s.pl)) (τ' := σ) ?_) ?_
  · have ha : getIdx ((colAhead bs ⟨0, 0, 0⟩).map pairD) (f : Int) = some (pairD ((posAt bs ⟨0, 0, 0⟩ f).pos, (posAt bs ⟨0, 0, 0⟩ f).sz)) := by rw [idxN, ahead_at bs ⟨0, 0, 0⟩ f hf]; rfl
    rw [← hplace]
    refine bin_d (x := .d (.int ((posAt bs ⟨0, 0, 0⟩ f).pos + (s.pl + offA top bs f)))) (y := .d (.int (if decide ((0 : Int) < (f : Int)) then 1 else 0))) (bin_d (x := .d (.int (posAt bs ⟨0, 0, 0⟩ f).pos)) (idx_d (va := .d (pairD ((posAt bs ⟨0, 0, 0⟩ f).pos, (posAt bs ⟨0, 0, 0⟩ f).sz))) (j := 0) (idx_d (va := Ah) (j := f) rfl rfl ?_) rfl rfl) rfl rfl) (ite_d (t := decide ((0 : Int) < (f : Int))) (cmp_d rfl rfl rfl) ?_) rfl
    · rw [← hAh]
      show (getIdx ((colAhead bs ⟨0, 0, 0⟩).map pairD) (f : Int)).map V.d = _
      rw [ha]; rfl
    · cases decide ((0 : Int) < (f : Int)) <;> rfl
  refine dens_next (asg_den (v := .d (.lst ((s :: hr).map Stp.toD))) (τ' := σ) ?_) ?_
  · rw [← hhere, ← hereF_map, ← filterMap_zipIdx (hereF s.pl e) _ 0]
    subst hSt
    refine comp_den (fun _ x => hereF s.pl e x) (v := .d (.lst ((stopsFrom cap bs 0).map Stp.toD))) rfl rfl fun i x hx => ?_
    rw [List.getElem?_map, Option.map_eq_some_iff] at hx
    obtain ⟨y, _, rfl⟩ := hx
    refine ⟨[iV s.pl, iV e, some (.d y.toD)], rfl, ?_⟩
    exact el_if (and_1 (bop_d (and_d (cmp_d (x := .d (.int y.pl)) (y := .d (.int s.pl)) rfl rfl rfl) (and_1 (cmp_d (x := .d (.int y.lab)) (y := .d (.int e)) rfl rfl rfl))))) rfl
  refine dens_next (s1 := (rgMem C T G P Pa St Ah f N CN RP (iV e) (iV s.pl) (some (.d (.lst ((s :: hr).map Stp.toD)))) o14, σ)) (if_den (t := false) rfl rfl) ?_
  refine dens_next (asg_den (v := .d (.int H)) (τ' := σ) (call_d (vs := [C, T, .d (.int f), .d s.toD]) rfl hhigh)) ?_
  refine dens_next (s1 := (rgMem C T G P Pa St Ah f N CN RP (iV e) (iV s.pl) (some (.d (.lst ((s :: hr).map Stp.toD)))) (iV H), σ)) (if_den (t := decide (goal < H)) (cmp_d (x := .d (.int H)) (y := .d (.int goal)) rfl rfl rfl) ?_) (dens_next (asg_den rfl) dens_nil)
  by_cases q : goal < H
  · rw [decide_eq_true q, if_pos rfl]
    have hrep : rep (goal - H) = .tup [.int 3, .int (H - goal)] := by
      unfold rep
      rw [if_neg (by omega), if_neg (by omega), show -(goal - H) = H - goal by omega]
    obtain ⟨r', hr'⟩ : ∃ r, stopsFrom cap bs f = s :: r := by
      rcases hm2 with h | h
      · have := (lastFit_mem h).2
        omega
      · exact h
    refine dens_next (if_den (t := false) (bop_d (or_d (b := false) (c := false) (cmp_d (x := .d (rep (goal - H))) (y := .d (.tup [.int 3, .int (H - goal)])) rfl rfl (by rw [hrep]; exact ne_self (pl_two _ _))) (or_d (b := false) (c := false) (cmp_d (x := .d s.toD) (y := .d s.toD) rfl (idx_d (va := .d (.lst ((s :: r').map Stp.toD))) (j := 0) ?_ rfl rfl) (ne_self (pl_stp s))) rfl))) rfl) dens_nil
    rw [← hr', from_filter f hf, ← laterF_map, ← filterMap_zipIdx (laterF f) _ 0]
    subst hSt
    refine comp_den (fun _ x => laterF f x) (v := .d (.lst ((stopsFrom cap bs 0).map Stp.toD))) rfl rfl fun i x hx => ?_
    rw [List.getElem?_map, Option.map_eq_some_iff] at hx
    obtain ⟨y, _, rfl⟩ := hx
    refine ⟨[iV f, some (.d y.toD)], rfl, ?_⟩
    exact el_if (and_1 (cmp_d (x := .d (.int y.lab)) (y := .d (.int f)) rfl rfl rfl)) rfl
  · rw [decide_eq_false q, if_neg (by decide)]
    refine dens_next (if_den (t := false) (cmp_d (x := .d (rep (goal - H))) (y := .d (if H == goal then .tup [.int 0, .int 0] else .tup [.int 1, .int 10000])) rfl (ite_d (t := H == goal) (cmp_d rfl rfl rfl) ?_) ?_) rfl) dens_nil
    · cases H == goal <;> rfl
    · by_cases z : H = goal
      · have : rep (goal - H) = .tup [.int 0, .int 0] := by unfold rep; rw [if_pos (by omega)]
        rw [this, z, beq_self_eq_true]
        exact ne_self (pl_two _ _)
      · have : rep (goal - H) = .tup [.int 1, .int 10000] := by unfold rep; rw [if_neg (by omega), if_pos (by omega)]
        rw [this, beq_eq_false_iff_ne.mpr z]
        exact ne_self (pl_two _ _)
theorem right_eq (hc : ColOk u cap top bs) (σ : Sto) : F (k + 2) 11 [colV cap bs, .d (.int top), .d (.int goal), .d (.lst ((segs cap top goal bs 64 0).map (pcD top goal bs)))] σ = some (.d (.bool true), σ) := by
  have hS := stops_sts hc
  have hn7 := hc.n7
  generalize hP : V.d (.lst ((segs cap top goal bs 64 0).map (pcD top goal bs))) = P
  have loop : ∀ (q f i : Nat) (o8 o9 o10 o11 o12 o13 o14 : Option V), f ≤ bs.length → bs.length - f < q → ∃ p8 p9 p10 p11 p12 p13 p14,
      forGo (stepOf (Ph (k + 1)) true [8, 9, 10] 0 (loopBody (f11.body.getD 2 .fail))) i ((segs cap top goal bs q f).map (pcD top goal bs)) (rgMem (colV cap bs) (.d (.int top)) (.d (.int goal)) P (.d (.lst ((colParts 1 bs).map Part.toD))) (.d (.lst ((stopsFrom cap bs 0).map Stp.toD))) (.d (.lst ((colAhead bs ⟨0, 0, 0⟩).map pairD))) f o8 o9 o10 o11 o12 o13 o14, σ) =
        some (.next, rgMem (colV cap bs) (.d (.int top)) (.d (.int goal)) P (.d (.lst ((colParts 1 bs).map Part.toD))) (.d (.lst ((stopsFrom cap bs 0).map Stp.toD))) (.d (.lst ((colAhead bs ⟨0, 0, 0⟩).map pairD))) bs.length p8 p9 p10 p11 p12 p13 p14, σ) := by
    intro q
    induction q with
    | zero => intro f i _ _ _ _ _ _ _ _ h; omega
    | succ q ih =>
      intro f i o8 o9 o10 o11 o12 o13 o14 h1 h2
      by_cases z : f = bs.length
      · rw [segs, if_neg (by omega), z]
        exact ⟨o8, o9, o10, o11, o12, o13, o14, rfl⟩
      · have hf : f < bs.length := by omega
        obtain ⟨s, hs, hsm⟩ := pick_ex (goal - offB top bs f) (stopsFrom cap bs f) (stopsFrom_ne cap bs f)
        obtain ⟨hs0, hsf⟩ := (mem_from hf).mp hsm
        have hsn := (hS.rg s hs0).2
        obtain ⟨q8, q9, q10, q11, q12, q13, q14, hst⟩ := right_step k hc P f hf s hs i σ o8 o9 o10 o11 o12 o13 o14
        obtain ⟨p8, p9, p10, p11, p12, p13, p14, h⟩ := ih s.lab.toNat (i + 1) q8 q9 q10 q11 q12 q13 q14 (by omega) (by omega)
        refine ⟨p8, p9, p10, p11, p12, p13, p14, ?_⟩
        rw [segs, if_pos hf, hs, List.map_cons, forGo, hst]
        exact h
  obtain ⟨p8, p9, p10, p11, p12, p13, p14, h⟩ := loop 64 0 0 none none none none none none none (Nat.zero_le _) (by omega)
  rw [F11]
  refine run_ret rfl rfl (dens_next (s1 := ([some (colV cap bs), some (.d (.int top)), some (.d (.int goal)), some P, some (.d (.lst ((colParts 1 bs).map Part.toD))), some (.d (.lst ((stopsFrom cap bs 0).map Stp.toD))), some (.d (.lst ((colAhead bs ⟨0, 0, 0⟩).map pairD))), none, none, none, none, none, none, none, none], σ)) rfl (dens_next (asg_den rfl) (dens_next (den_for (v := P) rfl (by rw [← hP]; rfl) h) (dens_ret (ret_den (cmp_d (x := .d (.int bs.length)) (y := .d (.int bs.length)) rfl ?_ (by rw [c_eq, beq_self_eq_true])))))))
  show some (V.d (.int (((colAhead bs ⟨0, 0, 0⟩).map pairD).length : Nat)), σ) = _
  rw [List.length_map, ahead_len]
end

noncomputable def JarOk (n : Int) (j : MObj) : Prop := ∃ g b c, j = .lst [.int g, .int b, .int c] ∧ 0 ≤ g ∧ 0 ≤ b ∧ b < 2 ^ 32 ∧ 0 ≤ c ∧ c ≤ n
theorem JarOk.lst {n : Int} {j : MObj} (h : JarOk n j) : j.isLst = true := by obtain ⟨g, b, c, rfl, _⟩ := h; rfl
theorem JarOk.up {n m : Int} {j : MObj} (h : JarOk n j) (q : n ≤ m) : JarOk m j := by
  obtain ⟨g, b, c, e, h1, h2, h3, h4, h5⟩ := h
  exact ⟨g, b, c, e, h1, h2, h3, h4, Int.le_trans h5 q⟩
theorem jar_take (k : Nat) {n : Int} {j : MObj} (h : JarOk n j) (hn : n < 10 ^ 6) (many : Int) (hm : 0 < many) (hm2 : many < 1000) (rest : Sto) : ∃ d j', 0 ≤ d ∧ d < many ∧ JarOk (n + 1) j' ∧ F (k + 1) 2 [.ref 0, .d (.int many)] (j :: rest) = some (.d (.int d), j' :: rest) := by
  obtain ⟨g, b, c, rfl, h1, h2, h3, h4, h5⟩ := h
  obtain ⟨d, g', c', q1, q2, q3, q4, q5, q6⟩ := take_ok k g b c n many rest h1 h2 h3 h4 h5 hn hm hm2
  exact ⟨d, _, q1, q2, ⟨g', b, c', rfl, q3, h2, h3, q4, q5⟩, q6⟩
theorem mul_take (k : Nat) {m : Mem} {a b : E} {n u many : Int} {j : MObj} {rest : Sto} (h : JarOk n j) (hn : n < 10 ^ 6) (hm : 0 < many) (hm2 : many < 1000) (ha : ∀ σ, E.den (Ph (k + 1)) m a σ = some (.d (.int u), σ)) (hb : E.dens (Ph (k + 1)) m [b, .lit (.int many)] (j :: rest) = some ([.ref 0, .d (.int many)], j :: rest)) (hu0 : 0 ≤ u) (hu : u ≤ 4000000) :
    ∃ d j', 0 ≤ d ∧ d ≤ (many - 1) * u ∧ JarOk (n + 1) j' ∧ E.den (Ph (k + 1)) m (.bin .Mult a (.call 2 [b, .lit (.int many)] [] [])) (j :: rest) = some (.d (.int d), j' :: rest) := by
  obtain ⟨d, j', q1, q2, q3, q4⟩ := jar_take k h hn many hm hm2 rest
  refine ⟨u * d, j', Int.mul_nonneg hu0 q1, ?_, q3, ?_⟩
  · rw [Int.mul_comm]; exact Int.mul_le_mul_of_nonneg_right (by omega) hu0
  · have hc := call_d (Φ := Ph (k + 1)) (f := 2) (dfl := []) hb q4
    exact bin_s (ha _) hc (b_mul u d (.inl (small_of (by omega) (by omega))))

noncomputable def Ltr.code : Ltr → Nat
  | .b => 98 | .v => 118 | .r => 114 | .g => 103 | .k => 107 | .m => 109 | .n => 110 | .f => 102
theorem code_str (c : Ltr) : (⟨#[c.code]⟩ : Str) = c.str := by cases c <;> rfl
noncomputable def lettersOf (ls : List Ltr) : Str := ⟨(ls.map Ltr.code).toArray⟩
noncomputable def gapD (e : List Ltr × List Int) : D := .tup [.str (lettersOf e.1), .tup (e.2.map .int)]
theorem letters_items (σ : Sto) (ls : List Ltr) (h : ls.length ≤ 1000) : itemsOf σ 0 (.d (.str (lettersOf ls))) = some (ls.map fun c => .str c.str) := by
  refine (if_pos (decide_eq_true (show ((ls.map Ltr.code).toArray).size ≤ 2 ^ 20 by rw [List.size_toArray, List.length_map]; omega))).trans ?_
  show some ((ls.map Ltr.code).map fun c => D.str ⟨#[c]⟩) = _
  rw [List.map_map]
  exact congrArg some (List.map_congr_left fun c _ => congrArg D.str (code_str c))
theorem gap_comp (k : Nat) {u : Int} (hu0 : 0 ≤ u) (hu : u ≤ 4000000) (m : Mem) (hm : m = [iV u, some (.ref 0), none]) (rest : Sto) : ∀ (ls : List Ltr) (i : Nat) (acc : List D) (n : Int) (j : MObj), JarOk n j → n + ls.length < 10 ^ 6 →
    ∃ (gp : List (Ltr × Int)) (j' : MObj), gp.map (·.1) = ls ∧ (∀ p ∈ gp, 0 ≤ p.2 ∧ p.2 ≤ 5 * u) ∧ JarOk (n + ls.length) j' ∧
      compGo (compEl (fun m' σ => E.dens? (Ph (k + 1)) m' true [] σ) (fun m' σ => E.den (Ph (k + 1)) m' (.tup [(.loc 2), (.bin .Mult (.loc 0) (.call 2 [(.loc 1), (.lit (.int 6))] [] [])), (.lit (.int 0)), (.lit (.int 0))]) σ)) (bindItem false [2] 0) m i (ls.map fun c => .str c.str) acc (j :: rest) =
        some (acc ++ gp.map fun p => (gapPart p).toD, j' :: rest) := by
  subst hm
  intro ls
  induction ls with
  | nil =>
    intro i acc n j h _
    exact ⟨[], j, rfl, fun p hp => (nomatch hp), h.up (by show n ≤ n + 0; omega), by rw [List.map_nil, List.map_nil, List.append_nil]; rfl⟩
  | cons c ls ih =>
    intro i acc n j h hn
    rw [List.length_cons] at hn
    obtain ⟨d, j1, q1, q2, q3, q4⟩ := mul_take k (m := [iV u, some (.ref 0), some (.d (.str c.str))]) (a := .loc 0) (b := .loc 1) (rest := rest) h (by omega) (show (0 : Int) < 6 by decide) (by decide) (fun _ => rfl) rfl hu0 hu
    obtain ⟨gp, j', r1, r2, r3, r4⟩ := ih (i + 1) (acc ++ [(gapPart (c, d)).toD]) (n + 1) j1 q3 (by omega)
    refine ⟨(c, d) :: gp, j', by rw [List.map_cons, r1], fun p hp => ?_, r3.up (by rw [List.length_cons]; omega), ?_⟩
    · cases hp with
      | head => exact ⟨q1, q2⟩
      | tail _ hp => exact r2 p hp
    · refine go_r rfl (el_t rfl (tup_d (vs := [.d (.str c.str), .d (.int d), .d (.int 0), .d (.int 0)]) (dens_cons (v := .d (.str c.str)) rfl (dens_cons q4 (dens_cons (v := .d (.int 0)) rfl (dens_cons (v := .d (.int 0)) rfl rfl)))))) (r4.trans ?_)
      rw [List.append_assoc]
      rfl
noncomputable def gapTabE : E := .lst false [(.tup [(.lit (.str (Str.ofString "g"))), (.tup [(.lit (.int 0))])]), (.tup [(.lit (.str (Str.ofString "kg"))), (.tup [(.lit (.int 0))])]), (.tup [(.lit (.str (Str.ofString "gkg"))), (.tup [(.lit (.int 0)), (.lit (.int 1))])]), (.tup [(.lit (.str (Str.ofString "mg"))), (.tup [(.lit (.int 1))])]), (.tup [(.lit (.str (Str.ofString "gk"))), (.tup [(.lit (.int 0))])]), (.tup [(.lit (.str (Str.ofString "gg"))), (.tup [(.lit (.int 0))])]), (.tup [(.lit (.str (Str.ofString "nkg"))), (.tup [(.lit (.int 1))])]), (.tup [(.lit (.str (Str.ofString "f"))), (.tup [(.lit (.int 0))])]), (.tup [(.lit (.str (Str.ofString "fg"))), (.tup [(.lit (.int 0))])]), (.tup [(.lit (.str (Str.ofString "k"))), (.tup [])]), (.tup [(.lit (.str (Str.ofString "ng"))), (.tup [])]), (.tup [(.lit (.str (Str.ofString ""))), (.tup [])])]
theorem gap_eq (k : Nat) {u : Int} (hu0 : 0 ≤ u) (hu : u ≤ 4000000) {n : Int} {j : MObj} (h : JarOk n j) (hn : n < 10 ^ 5) (rest : Sto) :
    ∃ (gp : List (Ltr × Int)) (offs : List Int) (j' : MObj), (gp.map (·.1), offs) ∈ gapTab ∧ (∀ p ∈ gp, 0 ≤ p.2 ∧ p.2 ≤ 5 * u) ∧ JarOk (n + 4) j' ∧ F (k + 2) 3 [.ref 0, .d (.int u)] (j :: rest) = some (.d (.tup [.lst (gp.map fun p => (gapPart p).toD), .tup (offs.map .int)]), j' :: rest) := by
  obtain ⟨d, j1, q1, q2, q3, q4⟩ := jar_take k h (by omega) 12 (by decide) (by decide) rest
  obtain ⟨e, he⟩ : ∃ e, gapTab[d.toNat]? = some e := ⟨_, List.getElem?_eq_getElem (by show d.toNat < 12; omega)⟩
  have hem := List.mem_of_getElem? he
  have hlen : e.1.length ≤ 3 := by
    have : (gapTab.all fun e => decide (e.1.length ≤ 3)) = true := by decide
    exact of_decide_eq_true (List.all_eq_true.mp this e hem)
  obtain ⟨gp, j', r1, r2, r3, r4⟩ := gap_comp k hu0 hu _ rfl rest e.1 0 [] (n + 1) j1 q3 (by omega)
  refine ⟨gp, e.2, j', by rw [r1]; exact hem, r2, r3.up (by omega), ?_⟩
  rw [F3]
  refine run_ret (m' := [some (.ref 0), iV u, some (.d (.str (lettersOf e.1))), some (.d (.tup (e.2.map .int)))]) rfl rfl ?_
  refine dens_next (s1 := ([some (.ref 0), iV u, some (.d (.str (lettersOf e.1))), some (.d (.tup (e.2.map .int)))], j1 :: rest)) (set_den (τ' := j1 :: rest) (v := .d (gapD e)) ?_ rfl) (dens_ret (ret_den ?_))
  · have t1 : E.den (Ph (k + 1)) [some (.ref 0), iV u, none, none] gapTabE (j :: rest) = some (.d (.lst (gapTab.map gapD)), j :: rest) := by kernel_rfl
    have t2 : E.den (Ph (k + 1)) [some (.ref 0), iV u, none, none] (.call 2 [(.loc 0), (.lit (.int 12))] [] []) (j :: rest) = some (.d (.int d), j1 :: rest) := call_d rfl q4
    have t3 : getIdx (gapTab.map gapD) d = some (gapD e) := by
      rw [show d = (d.toNat : Int) by omega]
      refine idx_nat ?_
      rw [List.getElem?_map, he]; rfl
    show E.den (Ph (k + 1)) [some (.ref 0), iV u, none, none] (.idx gapTabE (.call 2 [(.loc 0), (.lit (.int 12))] [] [])) (j :: rest) = _
    exact idx_s t1 t2 t3
  · have t : E.den (Ph (k + 1)) [some (.ref 0), iV u, some (.d (.str (lettersOf e.1))), some (.d (.tup (e.2.map .int)))] (.comp [some 1, some 0, none] false [2] 0 (.loc 2) [] (.tup [(.loc 2), (.bin .Mult (.loc 0) (.call 2 [(.loc 1), (.lit (.int 6))] [] [])), (.lit (.int 0)), (.lit (.int 0))])) (j1 :: rest) = some (.d (.lst (gp.map fun p => (gapPart p).toD)), j' :: rest) := by
      exact comp_r (v := .d (.str (lettersOf e.1))) rfl (letters_items _ _ (by omega)) r4
    exact tup_d (vs := [.d (.lst (gp.map fun p => (gapPart p).toD)), .d (.tup (e.2.map .int))]) (dens_cons t (dens_cons (v := .d (.tup (e.2.map .int))) rfl rfl))

noncomputable def preStops (cap : Int) : Int → List Blk → Pos → List Stp
  | _, [], _ => []
  | lab, x :: r, t => blkStops cap lab x t ++ preStops cap (lab + 1) r (blkEnd t x)
theorem colStops_pre (cap many : Int) : ∀ (bs : List Blk) (lab : Int) (t : Pos), colStops cap many lab bs t = preStops cap lab bs t ++ [mkStp cap many (bs.foldl blkEnd t) (-10000)]
  | [], _, _ => rfl
  | x :: r, lab, t => by rw [colStops, preStops, colStops_pre cap many r, List.append_assoc]; rfl
theorem preStops_snoc (cap : Int) (y : Blk) : ∀ (bs : List Blk) (lab : Int) (t : Pos), preStops cap lab (bs ++ [y]) t = preStops cap lab bs t ++ blkStops cap (lab + bs.length) y (bs.foldl blkEnd t)
  | [], lab, t => by
    show blkStops cap lab y t ++ [] = [] ++ blkStops cap (lab + 0) y t
    rw [List.append_nil, Int.add_zero]; rfl
  | x :: r, lab, t => by
    rw [List.cons_append, preStops, preStops, preStops_snoc cap y r, List.append_assoc, List.length_cons, show lab + 1 + (r.length : Int) = lab + ((r.length + 1 : Nat) : Int) by push_cast; omega]
    rfl
theorem colParts_snoc (y : Blk) : ∀ (bs : List Blk) (lab : Int), colParts lab (bs ++ [y]) = colParts lab bs ++ blkParts (lab + bs.length) y
  | [], lab => by
    show blkParts lab y ++ [] = [] ++ blkParts (lab + 0) y
    rw [List.append_nil, Int.add_zero]; rfl
  | x :: r, lab => by
    rw [List.cons_append, colParts, colParts, colParts_snoc y r, List.append_assoc, List.length_cons, show lab + 1 + (r.length : Int) = lab + ((r.length + 1 : Nat) : Int) by push_cast; omega]
theorem colAhead_snoc (y : Blk) : ∀ (bs : List Blk) (t : Pos), colAhead (bs ++ [y]) t = colAhead bs t ++ [((bs.foldl blkEnd t).pos, (bs.foldl blkEnd t).sz)]
  | [], _ => rfl
  | x :: r, t => by rw [List.cons_append, colAhead, colAhead, colAhead_snoc y r]; rfl
theorem colParts_len (lab : Int) (bs : List Blk) : (colParts lab bs).length = (colNodes lab bs).length := by rw [colNodes_eq, List.length_map]
theorem ints_map : ∀ l : List Int, ints? (l.map .int) = some l
  | [] => rfl
  | x :: r => by rw [List.map_cons, ints?, ints_map r]; rfl
theorem isF_str (c : Ltr) : (c.str == Str.ofString "f") = isF c := by cases c <;> kernel_rfl
theorem moves_str (c : Ltr) : (c.str == Str.ofString "g" || (c.str == Str.ofString "k" || false)) = moves c := by cases c <;> kernel_rfl

noncomputable abbrev clMem (u many cap sz low : Int) (o9 o10 o11 o12 o13 o14 : Option V) : Mem := [some (.ref 0), iV u, iV many, iV cap, some (.ref 1), some (.ref 2), some (.ref 3), iV sz, iV low, o9, o10, o11, o12, o13, o14]
noncomputable abbrev gapBody : List S := loopBody ((loopBody (f4.body.getD 1 .fail)).getD 5 .fail)
section
variable (k : Nat) (u many cap lab : Int) (bx gpv : Option V) (offs : List Int) (AH : List D) (j : MObj)
theorem col_gap1 (i : Nat) (p : Ltr × Int) (t : Pos) (PA ST : List D) (o13 o14 : Option V) (hp : (PA.length : Int) = t.pos) (h1 : PA.length < 2 ^ 20) (h2 : ST.length < 2 ^ 20) :
    stepOf (Ph k) true [13, 14] 1 gapBody i (gapPart p).toD (clMem u many cap t.sz t.low (iV lab) bx gpv (some (.d (.tup (offs.map .int)))) o13 o14, [j, .lst PA, .lst ST, .lst AH]) =
      some (.next, clMem u many cap (gapStep t p).sz (gapStep t p).low (iV lab) bx gpv (some (.d (.tup (offs.map .int)))) (iV i) (some (.d (gapPart p).toD)),
        [j, .lst (PA ++ [(gapPart p).toD]), .lst (ST ++ (if offs.contains (i : Int) then [mkStp cap lab t (if isF p.1 then -10000 - p.2 else 0)] else []).map Stp.toD), .lst AH]) := by
  let m : Mem := clMem u many cap t.sz t.low (iV lab) bx gpv (some (.d (.tup (offs.map .int)))) (iV i) (some (.d (gapPart p).toD))
  show S.dens (Ph k) gapBody (m, [j, .lst PA, .lst ST, .lst AH]) = _
  have c1 : ∀ σ, E.den (Ph k) m (.cmp .In (.loc 13) (.loc 12)) σ = some (.d (.bool (offs.contains (i : Int))), σ) := fun σ => cmp_d (x := .d (.int i)) (y := .d (.tup (offs.map .int))) rfl rfl (by rw [c_in, ints_map]; rfl)
  have key : ∀ ST', S.dens (Ph k) (gapBody.drop 1) (m, [j, .lst PA, .lst ST', .lst AH]) = some (.next, clMem u many cap (gapStep t p).sz (gapStep t p).low (iV lab) bx gpv (some (.d (.tup (offs.map .int)))) (iV i) (some (.d (gapPart p).toD)), [j, .lst (PA ++ [(gapPart p).toD]), .lst ST', .lst AH]) := by
    intro ST'
    refine dens_next (expr_den (app_d (n := 1) (l := PA) (x := (gapPart p).toD) rfl rfl rfl rfl (by omega))) ?_
    refine dens_next (if_den (τ' := [j, .lst (PA ++ [(gapPart p).toD]), .lst ST', .lst AH]) (t := moves p.1) ?_ ?_) dens_nil
    · rw [← moves_str]
      exact bop_d (or_d (cmp_d (x := .d (.str p.1.str)) (y := .d (.str (Str.ofString "g"))) rfl rfl rfl) (or_d (cmp_d (x := .d (.str p.1.str)) (y := .d (.str (Str.ofString "k"))) rfl rfl rfl) rfl))
    · unfold gapStep
      cases moves p.1 <;> rfl
  refine dens_next (s1 := (m, [j, .lst PA, .lst (ST ++ (if offs.contains (i : Int) then [mkStp cap lab t (if isF p.1 then -10000 - p.2 else 0)] else []).map Stp.toD), .lst AH])) (if_den (c1 _) ?_) (key _)
  cases offs.contains (i : Int) with
  | false => show some (Flw.next, m, _) = _; rw [if_neg (by decide), List.map_nil, List.append_nil]
  | true =>
    refine dens_next (expr_den (app_d (n := 2) (l := ST) (x := (mkStp cap lab t (if isF p.1 then -10000 - p.2 else 0)).toD) (σ' := [j, .lst PA, .lst ST, .lst AH]) rfl rfl ?_ rfl (by omega))) dens_nil
    have hfc : E.den (Ph k) m (.ite (.cmp .Eq (.idx (.loc 14) (.lit (.int 0))) (.lit (.str (Str.ofString "f")))) (.bin .Sub (.neg (.lit (.int 10000))) (.idx (.loc 14) (.lit (.int 1)))) (.lit (.int 0))) [j, .lst PA, .lst ST, .lst AH] = some (.d (.int (if isF p.1 then -10000 - p.2 else 0)), [j, .lst PA, .lst ST, .lst AH]) := by
      refine ite_d (t := isF p.1) (cmp_d (x := .d (.str p.1.str)) (y := .d (.str (Str.ofString "f"))) rfl rfl (by rw [c_eqs, isF_str])) ?_
      cases isF p.1 <;> rfl
    have e : mkTup [.d (.int (PA.length : Int)), .d (.int lab), .d (.int t.sz), .d (.int (t.sz - mn cap t.low)), .d (.int (if isF p.1 then -10000 - p.2 else 0))] = .d (mkStp cap lab t (if isF p.1 then -10000 - p.2 else 0)).toD := by
      rw [hp]; rfl
    rw [← e]
    exact tup_d (dens_cons (v := .d (.int (PA.length : Int))) rfl (dens_cons (v := .d (.int lab)) rfl (dens_cons (v := .d (.int t.sz)) rfl (dens_cons (v := .d (.int (t.sz - mn cap t.low))) rfl (dens_cons hfc rfl)))))
theorem col_gap : ∀ (g : List (Ltr × Int)) (i : Nat) (t : Pos) (PA ST : List D) (o13 o14 : Option V), (PA.length : Int) = t.pos → PA.length + g.length < 2 ^ 20 → ST.length + g.length < 2 ^ 20 → ∃ p13 p14,
    forGo (stepOf (Ph k) true [13, 14] 1 gapBody) i (g.map fun p => (gapPart p).toD) (clMem u many cap t.sz t.low (iV lab) bx gpv (some (.d (.tup (offs.map .int)))) o13 o14, [j, .lst PA, .lst ST, .lst AH]) =
      some (.next, clMem u many cap (g.foldl gapStep t).sz (g.foldl gapStep t).low (iV lab) bx gpv (some (.d (.tup (offs.map .int)))) p13 p14, [j, .lst (PA ++ g.map fun p => (gapPart p).toD), .lst (ST ++ (gapStops cap lab offs i g t).map Stp.toD), .lst AH])
  | [], i, t, PA, ST, o13, o14, _, _, _ => ⟨o13, o14, by rw [List.map_nil, gapStops, List.map_nil, List.append_nil, List.append_nil]; rfl⟩
  | p :: g, i, t, PA, ST, o13, o14, hp, h1, h2 => by
    rw [List.length_cons] at h1 h2
    have hl : ((if offs.contains (i : Int) then [mkStp cap lab t (if isF p.1 then -10000 - p.2 else 0)] else []).map Stp.toD).length ≤ 1 := by cases offs.contains (i : Int) <;> first | exact Nat.zero_le _ | exact Nat.le_refl _
    have e1 : (gapStep t p).pos = t.pos + 1 := by unfold gapStep; split <;> rfl
    obtain ⟨p13, p14, h⟩ := col_gap g (i + 1) (gapStep t p) (PA ++ [(gapPart p).toD]) (ST ++ (if offs.contains (i : Int) then [mkStp cap lab t (if isF p.1 then -10000 - p.2 else 0)] else []).map Stp.toD) (iV i) (some (.d (gapPart p).toD))
      (by rw [List.length_append, e1, ← hp]; rfl) (by rw [List.length_append]; show PA.length + 1 + _ < _; omega) (by rw [List.length_append]; omega)
    refine ⟨p13, p14, ?_⟩
    rw [List.map_cons, forGo, col_gap1 k u many cap lab bx gpv offs AH j i p t PA ST o13 o14 hp (by omega) (by omega)]
    refine h.trans ?_
    rw [List.append_assoc, List.append_assoc, gapStops, List.map_append, List.foldl_cons]
    rfl
end
noncomputable abbrev clSto (cap : Int) (bs : List Blk) (j : MObj) : Sto := [j, .lst ((colParts 1 bs).map Part.toD), .lst ((preStops cap 1 bs ⟨0, 0, 0⟩).map Stp.toD), .lst ((colAhead bs ⟨0, 0, 0⟩).map pairD)]
theorem pre_len (cap : Int) {u : Int} : ∀ (bs : List Blk) (lab : Int) (t : Pos), (∀ x ∈ bs, x.Ok u) → (preStops cap lab bs t).length ≤ 3 * bs.length
  | [], _, _, _ => Nat.zero_le _
  | x :: r, lab, t, h => by
    have hg : ∀ (g : List (Ltr × Int)) (i : Int) (t : Pos), (gapStops cap lab x.offs i g t).length ≤ g.length := by
      intro g
      induction g with
      | nil => intro i t; exact Nat.le_refl _
      | cons p g ih =>
        intro i t
        have := ih (i + 1) (gapStep t p)
        rw [gapStops, List.length_append, List.length_cons]
        have : (if x.offs.contains i then [mkStp cap lab t (if isF p.1 then -10000 - p.2 else 0)] else []).length ≤ 1 := by split <;> first | exact Nat.zero_le _ | exact Nat.le_refl _
        omega
    have h1 := hg x.gp 0 (boxStep t x)
    have h2 := gap_len (h x List.mem_cons_self)
    have h3 := pre_len cap r (lab + 1) (blkEnd t x) fun y hy => h y (List.mem_cons_of_mem _ hy)
    rw [preStops, List.length_append, List.length_cons]
    unfold blkStops
    omega
theorem parts_len {u : Int} (bs : List Blk) (lab : Int) (h : ∀ x ∈ bs, x.Ok u) : (colParts lab bs).length ≤ 4 * bs.length := by rw [colParts_len]; exact colNodes_len bs lab h
theorem box_kind (d : Int) (h0 : 0 ≤ d) (h1 : d < 5) : ∃ c : Ltr, isBoxL c = true ∧ getIdx [D.str (Str.ofString "b"), .str (Str.ofString "v"), .str (Str.ofString "b"), .str (Str.ofString "v"), .str (Str.ofString "r")] d = some (.str c.str) := by
  have : d = 0 ∨ d = 1 ∨ d = 2 ∨ d = 3 ∨ d = 4 := by omega
  rcases this with rfl | rfl | rfl | rfl | rfl
  · exact ⟨.b, rfl, by kernel_rfl⟩
  · exact ⟨.v, rfl, by kernel_rfl⟩
  · exact ⟨.b, rfl, by kernel_rfl⟩
  · exact ⟨.v, rfl, by kernel_rfl⟩
  · exact ⟨.r, rfl, by kernel_rfl⟩
theorem col_block (k : Nat) {u : Int} (hu0 : 0 ≤ u) (hu : u ≤ 4000000) (many cap : Int) (bs : List Blk) (hb : ∀ x ∈ bs, x.Ok u) (hz : bs.length ≤ 100) {n : Int} {j : MObj} (h : JarOk n j) (hn : n < 10 ^ 4) (i : Nat) (o9 o10 o11 o12 o13 o14 : Option V) :
    ∃ (x : Blk) (j' : MObj) (p9 p10 p11 p12 p13 p14 : Option V), x.Ok u ∧ JarOk (n + 7) j' ∧
      stepOf (Ph (k + 2)) false [9] 3 (loopBody (f4.body.getD 1 .fail)) i (.int (1 + (bs.length : Int))) (clMem u many cap (bs.foldl blkEnd ⟨0, 0, 0⟩).sz (bs.foldl blkEnd ⟨0, 0, 0⟩).low o9 o10 o11 o12 o13 o14, clSto cap bs j) =
        some (.next, clMem u many cap ((bs ++ [x]).foldl blkEnd ⟨0, 0, 0⟩).sz ((bs ++ [x]).foldl blkEnd ⟨0, 0, 0⟩).low p9 p10 p11 p12 p13 p14, clSto cap (bs ++ [x]) j') := by
  have hpl := parts_len bs 1 hb
  have hsl := pre_len cap bs 1 ⟨0, 0, 0⟩ hb
  have hal := ahead_len bs ⟨0, 0, 0⟩
  have hpos : ((((colParts 1 bs).map Part.toD).length : Nat) : Int) = (bs.foldl blkEnd ⟨0, 0, 0⟩).pos := by
    rw [List.length_map, colParts_len, nodes_pos bs 1]; exact (Int.zero_add _).symm
  unfold clSto
  generalize ht : bs.foldl blkEnd ⟨0, 0, 0⟩ = t at hpos ⊢
  generalize hPA : (colParts 1 bs).map Part.toD = PA at hpos
  generalize hST : (preStops cap 1 bs ⟨0, 0, 0⟩).map Stp.toD = ST
  generalize hAH : (colAhead bs ⟨0, 0, 0⟩).map pairD = AH
  have hPAl : PA.length ≤ 4 * bs.length := by rw [← hPA, List.length_map]; exact hpl
  have hSTl : ST.length ≤ 3 * bs.length := by rw [← hST, List.length_map]; exact hsl
  have hAHl : AH.length = bs.length := by rw [← hAH, List.length_map]; exact hal
  let AH' := AH ++ [pairD (t.pos, t.sz)]
  let σ1 (j : MObj) : Sto := [j, .lst PA, .lst ST, .lst AH']
  let lb : Option V := iV (1 + (bs.length : Int))
  let m1 : Mem := clMem u many cap t.sz t.low lb o10 o11 o12 o13 o14
  -- the box's draws
  obtain ⟨d, j1, a1, a2, a3, a4⟩ := jar_take (k + 1) h (by omega) 5 (by decide) (by decide) [.lst PA, .lst ST, .lst AH']
  obtain ⟨c, hc1, hc2⟩ := box_kind d a1 a2
  obtain ⟨hh, j2, b1, b2, b3, b4⟩ := mul_take (k + 1) (m := m1) (a := .loc 1) (b := .loc 0) (rest := [.lst PA, .lst ST, .lst AH']) a3 (by omega) (show (0 : Int) < 9 by decide) (by decide) (fun _ => rfl) rfl hu0 hu
  obtain ⟨dd, j3, e1, e2, e3, e4⟩ := mul_take (k + 1) (m := m1) (a := .loc 1) (b := .loc 0) (rest := [.lst PA, .lst ST, .lst AH']) b3 (by omega) (show (0 : Int) < 4 by decide) (by decide) (fun _ => rfl) rfl hu0 hu
  let bx : Part := ⟨c, hh, dd, 1 + (bs.length : Int)⟩
  obtain ⟨gp, offs, j4, g1, g2, g3, g4⟩ := gap_eq k hu0 hu e3 (by omega) [.lst (PA ++ [bx.toD]), .lst ST, .lst AH']
  let x : Blk := ⟨c, hh, dd, gp, offs⟩
  have hx : x.Ok u := ⟨hc1, b1, b2, e1, e2, g1, g2⟩
  obtain ⟨p13, p14, hg⟩ := col_gap (k + 2) u many cap (1 + (bs.length : Int)) (some (.d bx.toD)) (some (.d (.lst (gp.map fun p => (gapPart p).toD)))) offs AH' j4 gp 0 (boxStep t x) (PA ++ [bx.toD]) ST o13 o14
    (by rw [List.length_append]; show ((PA.length + 1 : Nat) : Int) = t.pos + 1; omega) (by rw [List.length_append]; have := gap_len hx; show PA.length + 1 + gp.length < _; have : gp.length ≤ 3 := this; omega) (by have : gp.length ≤ 3 := gap_len hx; omega)
  refine ⟨x, j4, lb, some (.d bx.toD), some (.d (.lst (gp.map fun p => (gapPart p).toD))), some (.d (.tup (offs.map .int))), p13, p14, hx, g3.up (by omega), ?_⟩
  show S.dens (Ph (k + 2)) (loopBody (f4.body.getD 1 .fail)) (m1, [j, .lst PA, .lst ST, .lst AH]) = _
  refine dens_next (s1 := (m1, σ1 j)) (expr_den (app_d (n := 3) (l := AH) (x := pairD (t.pos, t.sz)) (σ' := [j, .lst PA, .lst ST, .lst AH]) rfl rfl ?_ rfl (by omega))) ?_
  · rw [← hpos]; rfl
  refine dens_next (asg_den (v := .d bx.toD) (τ' := σ1 j3) ?_) ?_
  · have t1 : E.den (Ph (k + 2)) m1 (.idx (.lst false [(.lit (.str (Str.ofString "b"))), (.lit (.str (Str.ofString "v"))), (.lit (.str (Str.ofString "b"))), (.lit (.str (Str.ofString "v"))), (.lit (.str (Str.ofString "r")))]) (.call 2 [(.loc 0), (.lit (.int 5))] [] [])) (σ1 j) = some (.d (.str c.str), σ1 j1) := by
      have t2 : E.den (Ph (k + 2)) m1 (.call 2 [(.loc 0), (.lit (.int 5))] [] []) (σ1 j) = some (.d (.int d), σ1 j1) := call_p rfl a4
      exact idx_s rfl t2 hc2
    have t3 : E.den (Ph (k + 2)) m1 (.bin .Mult (.loc 1) (.call 2 [(.loc 0), (.lit (.int 9))] [] [])) (σ1 j1) = some (.d (.int hh), σ1 j2) := b4
    have t4 : E.den (Ph (k + 2)) m1 (.bin .Mult (.loc 1) (.call 2 [(.loc 0), (.lit (.int 4))] [] [])) (σ1 j2) = some (.d (.int dd), σ1 j3) := e4
    exact tup_d (vs := [.d (.str c.str), .d (.int hh), .d (.int dd), .d (.int (1 + (bs.length : Int)))]) (dens_cons t1 (dens_cons t3 (dens_cons t4 (dens_cons (v := .d (.int (1 + (bs.length : Int)))) rfl rfl))))
  refine dens_next (s1 := (clMem u many cap t.sz t.low lb (some (.d bx.toD)) o11 o12 o13 o14, [j3, .lst (PA ++ [bx.toD]), .lst ST, .lst AH'])) (expr_den (v := .d .none) (app_d (σ' := σ1 j3) (n := 1) (l := PA) (x := bx.toD) rfl rfl rfl rfl (by omega))) ?_
  refine dens_next (s1 := (clMem u many cap (boxStep t x).sz (boxStep t x).low lb (some (.d bx.toD)) o11 o12 o13 o14, [j3, .lst (PA ++ [bx.toD]), .lst ST, .lst AH'])) rfl ?_
  have tg : E.den (Ph (k + 2)) (clMem u many cap (boxStep t x).sz (boxStep t x).low lb (some (.d bx.toD)) o11 o12 o13 o14) (.call 3 [(.loc 0), (.loc 1)] [] []) [j3, .lst (PA ++ [bx.toD]), .lst ST, .lst AH'] = some (.d (.tup [.lst (gp.map fun p => (gapPart p).toD), .tup (offs.map .int)]), [j4, .lst (PA ++ [bx.toD]), .lst ST, .lst AH']) :=
    call_p (vs := [.ref 0, .d (.int u)]) (σ' := [j3, .lst (PA ++ [bx.toD]), .lst ST, .lst AH']) rfl g4
  refine dens_next (s1 := (clMem u many cap (boxStep t x).sz (boxStep t x).low lb (some (.d bx.toD)) (some (.d (.lst (gp.map fun p => (gapPart p).toD)))) (some (.d (.tup (offs.map .int)))) o13 o14, [j4, .lst (PA ++ [bx.toD]), .lst ST, .lst AH'])) (set_den tg rfl) ?_
  refine dens_next (den_for (v := .d (.lst (gp.map fun p => (gapPart p).toD))) rfl rfl hg) ?_
  rw [dens_nil, colParts_snoc, preStops_snoc, colAhead_snoc, ht, List.map_append, List.map_append, List.map_append, hPA, hST, hAH, List.foldl_append, ht, List.append_assoc, blkParts, List.map_cons, List.map_map]
  rfl
theorem column_eq (k : Nat) {u : Int} (hu0 : 0 ≤ u) (hu : u ≤ 4000000) (many : Nat) (hm : many ≤ 100) (cap : Int) {n : Int} {j : MObj} (h : JarOk n j) (hn : n < 1000) :
    ∃ (bs : List Blk) (j' : MObj), bs.length = many ∧ (∀ x ∈ bs, x.Ok u) ∧ JarOk (n + 7 * many) j' ∧ F (k + 3) 4 [.ref 0, .d (.int u), .d (.int many), .d (.int cap)] [j] = some (colV cap bs, [j']) := by
  have loop := loop_ok (step := stepOf (Ph (k + 2)) false [9] 3 (loopBody (f4.body.getD 1 .fail))) (fun i s => ∃ (bs : List Blk) (j : MObj) (o9 o10 o11 o12 o13 o14 : Option V), bs.length = i ∧ (∀ x ∈ bs, x.Ok u) ∧ JarOk (n + 7 * i) j ∧ s = (clMem u many cap (bs.foldl blkEnd ⟨0, 0, 0⟩).sz (bs.foldl blkEnd ⟨0, 0, 0⟩).low o9 o10 o11 o12 o13 o14, clSto cap bs j))
    (rng 1 many) 0 (clMem u many cap 0 0 none none none none none none, [j, .lst [], .lst [], .lst []]) ⟨[], j, none, none, none, none, none, none, rfl, fun x hx => (nomatch hx), h.up (by omega), rfl⟩ fun i x s hx hI => by
      obtain ⟨bs, j, o9, o10, o11, o12, o13, o14, h1, h2, h3, rfl⟩ := hI
      rw [Nat.zero_add] at h1 h3 ⊢
      unfold rng at hx
      rw [List.getElem?_map, Option.map_eq_some_iff] at hx
      obtain ⟨a, ha, rfl⟩ := hx
      obtain ⟨hi, rfl⟩ := List.getElem?_eq_some_iff.mp ha
      rw [List.length_range] at hi
      rw [List.getElem_range]
      obtain ⟨y, j', p9, p10, p11, p12, p13, p14, q1, q2, q3⟩ := col_block k hu0 hu many cap bs h2 (by omega) h3 (by omega) i o9 o10 o11 o12 o13 o14
      rw [h1] at q3
      refine ⟨_, q3, bs ++ [y], j', p9, p10, p11, p12, p13, p14, by rw [List.length_append, h1]; rfl, fun z hz => ?_, q2.up (by omega), rfl⟩
      rcases List.mem_append.mp hz with hz | hz
      · exact h2 z hz
      · rw [List.mem_singleton.mp hz]; exact q1
  obtain ⟨s, h1, bs, j', o9, o10, o11, o12, o13, o14, h2, h3, h4, rfl⟩ := loop
  rw [rng_len, Nat.zero_add] at h2 h4
  refine ⟨bs, j', h2, h3, h4, ?_⟩
  have hls : lists [j'] = true := by rw [lists, List.all_cons, h4.lst]; rfl
  have hsl := pre_len cap bs 1 ⟨0, 0, 0⟩ h3
  have hpos : ((((colParts 1 bs).map Part.toD).length : Nat) : Int) = (bs.foldl blkEnd ⟨0, 0, 0⟩).pos := by
    rw [List.length_map, colParts_len, nodes_pos bs 1]; exact (Int.zero_add _).symm
  have hst : stopsFrom cap bs 0 = preStops cap 1 bs ⟨0, 0, 0⟩ ++ [mkStp cap bs.length (bs.foldl blkEnd ⟨0, 0, 0⟩) (-10000)] := colStops_pre cap bs.length bs 1 ⟨0, 0, 0⟩
  generalize ht : bs.foldl blkEnd ⟨0, 0, 0⟩ = t at h1 hpos hst
  rw [F4]
  refine run_frz (Φ := Ph (k + 2)) (f := f4) (m' := clMem u many cap t.sz t.low o9 o10 o11 o12 o13 o14) (σ' := [j', .lst ((colParts 1 bs).map Part.toD), .lst ((stopsFrom cap bs 0).map Stp.toD), .lst ((colAhead bs ⟨0, 0, 0⟩).map pairD)]) (v := .tup [.ref 1, .ref 2, .ref 3]) rfl rfl ?_ hls rfl
  refine dens_next (s1 := (clMem u many cap 0 0 none none none none none none, [j, .lst [], .lst [], .lst []])) rfl ?_
  refine dens_next (s1 := (clMem u many cap t.sz t.low o9 o10 o11 o12 o13 o14, clSto cap bs j')) (den_for (v := .d (.tup [.int 1, .int ((many : Int) + 1)])) (σ1 := [j, .lst [], .lst [], .lst []]) rfl ((items3 _ (by omega) (by omega) (by omega) (by omega)).trans (by rw [show ((many : Int) + 1 - 1).toNat = many by omega])) h1) ?_
  refine dens_next (s1 := (clMem u many cap t.sz t.low o9 o10 o11 o12 o13 o14, [j', .lst ((colParts 1 bs).map Part.toD), .lst ((stopsFrom cap bs 0).map Stp.toD), .lst ((colAhead bs ⟨0, 0, 0⟩).map pairD)])) (expr_den (v := .d .none) ?_) (dens_ret rfl)
  rw [hst, List.map_append]
  refine app_d (n := 2) (l := (preStops cap 1 bs ⟨0, 0, 0⟩).map Stp.toD) (x := (mkStp cap bs.length t (-10000)).toD) (σ' := clSto cap bs j') rfl rfl ?_ rfl (by rw [List.length_map]; omega)
  have e : mkTup [.d (.int ((((colParts 1 bs).map Part.toD).length : Nat) : Int)), .d (.int many), .d (.int t.sz), .d (.int (t.sz - mn cap t.low)), .d (.int (-10000))] = .d (mkStp cap bs.length t (-10000)).toD := by
    rw [hpos, ← h2]; rfl
  rw [← e]
  rfl

theorem law_jar (k : Nat) (ns : List Int) (hn : ns.length ≤ 63) : ∃ j, JarOk 0 j ∧ F (k + 1) 1 [.d (.lst (ns.map .int))] [] = some (.ref 0, [j]) := by
  let L : V := .d (.lst (ns.map .int))
  have c18 : ∀ m, E.den (Ph k) m (.bin .Pow (.lit (.int 10)) (.lit (.int 18))) [] = some (.d (.int (10 ^ 18)), []) := fun m => bin_d rfl rfl (b_pow 10 18 rfl (by decide) (by decide))
  have c90 : ∀ m, E.den (Ph k) m (.bin .Pow (.lit (.int 10)) (.lit (.int 90))) [] = some (.d (.int (10 ^ 90)), []) := fun m => bin_d rfl rfl (b_pow 10 90 rfl (by decide) (by decide))
  obtain ⟨s, h1, g, b, o, h2, h3, h4, rfl⟩ := loop_ok (step := stepOf (Ph k) false [3] 0 (loopBody (f1.body.getD 1 .fail))) (fun i s => ∃ (g b : Int) (o : Option V), 0 ≤ g ∧ 0 ≤ b ∧ b < 2 ^ 32 ∧ s = ([some L, iV g, iV b, o], []))
    ((ns.map .int).take 63) 0 ([some L, iV 0, iV (31 + (ns.length : Int)), none], []) ⟨0, _, none, Int.le_refl _, by omega, by omega, rfl⟩ fun i x s hx hI => by
      obtain ⟨g, b, o, q1, q2, q3, rfl⟩ := hI
      obtain ⟨c, _, rfl⟩ := List.mem_map.mp (List.mem_of_mem_take (List.mem_of_getElem? hx))
      let m : Mem := [some L, iV g, iV b, iV c]
      show ∃ s', S.dens (Ph k) (loopBody (f1.body.getD 1 .fail)) (m, []) = _ ∧ _
      obtain ⟨v, hv⟩ := abs_d (Φ := Ph k) (m := m) (a := .loc 3) (σ := []) (i := c) rfl
      obtain ⟨t, ht⟩ : ∃ t, E.den (Ph k) m (.bop true [(.cmp .Eq (.loc 1) (.lit (.int 0))), (.cmp .GtE (.abs (.loc 3)) (.bin .Pow (.lit (.int 10)) (.lit (.int 18))))]) [] = some (.d (.bool t), []) :=
        ⟨_, bop_d (and_d (cmp_d (x := .d (.int g)) (y := .d (.int 0)) rfl rfl rfl) (and_1 (cmp_d (x := .d (.int v)) (y := .d (.int (10 ^ 18))) hv (c18 _) rfl)))⟩
      cases t with
      | true =>
        have h10 : (0 : Int) < 10 ^ 90 := by decide
        refine ⟨([some L, iV ((v - 10 ^ 18) % 10 ^ 90), iV b, iV c], []), dens_next (if_den ht (dens_next (asg_den (v := .d (.int ((v - 10 ^ 18) % 10 ^ 90))) (τ' := []) ?_) dens_nil)) dens_nil, _, b, iV c, Int.emod_nonneg _ (Int.ne_of_gt h10), q2, q3, rfl⟩
        exact bin_d (x := .d (.int (v - 10 ^ 18))) (y := .d (.int (10 ^ 90))) (bin_d hv (c18 _) rfl) (c90 _) (b_mod _ _ h10)
      | false =>
        refine ⟨([some L, iV g, iV ((b * 4099 + c) % 1000003), iV c], []), dens_next (if_den ht (dens_next (asg_den (v := .d (.int ((b * 4099 + c) % 1000003))) (τ' := []) ?_) dens_nil)) dens_nil, g, _, iV c, q1, Int.emod_nonneg _ (by decide), Int.lt_trans (Int.emod_lt_of_pos _ (by decide)) (by decide), rfl⟩
        exact bin_d (x := .d (.int (b * 4099 + c))) (y := .d (.int 1000003)) (bin_d (x := .d (.int (b * 4099))) (y := .d (.int c)) (bin_d rfl rfl (b_mul b 4099 (.inr rfl))) rfl rfl) rfl (b_mod _ _ (by decide))
  refine ⟨.lst [.int g, .int b, .int 0], ⟨g, b, 0, rfl, h2, h3, h4, Int.le_refl _, Int.le_refl _⟩, ?_⟩
  rw [F1]
  refine run_ret (m' := [some L, iV g, iV b, o]) rfl rfl (dens_next (s1 := ([some L, iV 0, iV (31 + (ns.length : Int)), none], [])) ?_ (dens_next (s1 := ([some L, iV g, iV b, o], [])) (den_for (σ1 := []) (v := .d (.lst ((ns.map D.int).take 63))) rfl rfl h1) (dens_ret rfl)))
  rw [show ((ns.length : Nat) : Int) = ((ns.map D.int).length : Nat) by rw [List.length_map]]
  rfl

theorem bxs_box (c : Ltr) (a d l : Int) : (Part.mk c a d l).bxs = isBoxL c := by cases c <;> rfl
theorem parts_ok {u cap top : Int} {bs : List Blk} (hc : ColOk u cap top bs) : ∀ p ∈ colParts 1 bs, p.Ok := by
  have hu := hc.u1
  have hu0 := hc.u0
  have hn := hc.n7
  have : ∀ (l : List Blk) (lab : Int), (∀ x ∈ l, x.Ok u) → 0 ≤ lab → lab + l.length ≤ 100 → ∀ p ∈ colParts lab l, p.Ok := by
    intro l
    induction l with
    | nil => intro lab _ _ _ p hp; cases hp
    | cons x r ih =>
      intro lab hb h0 h1 p hp
      have hx := hb x List.mem_cons_self
      rw [List.length_cons] at h1
      rcases List.mem_append.mp hp with hp | hp
      · cases hp with
        | head =>
          have a1 := hx.h0
          have a2 := hx.h1
          have a3 := hx.d0
          have a4 := hx.d1
          refine ⟨a1, by dsimp only; omega, a3, by dsimp only; omega, h0, by dsimp only; omega, fun h => ?_⟩
          rw [bxs_box, hx.bx] at h
          cases h
        | tail _ hp =>
          obtain ⟨q, hq, rfl⟩ := List.mem_map.mp hp
          obtain ⟨b1, b2⟩ := hx.g0 q hq
          exact ⟨b1, by show q.2 ≤ _; omega, Int.le_refl _, by show (0 : Int) ≤ _; decide, Int.le_refl _, by show (0 : Int) ≤ _; decide, fun _ => ⟨rfl, rfl⟩⟩
      · exact ih (lab + 1) (fun y hy => hb y (List.mem_cons_of_mem _ hy)) (by omega) (by push_cast at h1; omega) p hp
  exact this bs 1 hc.ok (by decide) (by omega)
theorem node_comp (k : Nat) (m : Mem) (j : MObj) (hj : j.isLst = true) (ps : List Part) (hp : ∀ p ∈ ps, p.Ok) (hm : m[7]? = some (some (.d (.lst (ps.map Part.toD))))) :
    E.den (Ph (k + 4)) m (.comp [none] false [0] 0 (.loc 7) [] (.call 5 [(.loc 0)] [] [])) [j] = some (.d (.lst ((ps.map Part.node).map Nd.toD)), [j]) := by
  have hs : E.den (Ph (k + 4)) m (.loc 7) [j] = some (.d (.lst (ps.map Part.toD)), [j]) := loc_d hm
  have key : ∀ (ps : List Part) (i : Nat) (acc : List D), (∀ p ∈ ps, p.Ok) → compGo (compEl (fun m' σ => E.dens? (Ph (k + 4)) m' true [] σ) (fun m' σ => E.den (Ph (k + 4)) m' (.call 5 [(.loc 0)] [] []) σ)) (bindItem false [0] 0) [none] i (ps.map Part.toD) acc [j] = some (acc ++ (ps.map Part.node).map Nd.toD, [j]) := by
    intro ps
    induction ps with
    | nil => intro i acc _; show some (acc, [j]) = some (acc ++ [], [j]); rw [List.append_nil]
    | cons p ps ih =>
      intro i acc h
      refine go_r rfl (el_t rfl (call_p rfl (node_ok k p (h p List.mem_cons_self) j hj))) ((ih (i + 1) (acc ++ [p.node.toD]) fun q hq => h q (List.mem_cons_of_mem _ hq)).trans ?_)
      rw [List.append_assoc]
      rfl
  exact comp_r hs rfl (key ps 0 [] hp)
theorem told_comp (k : Nat) (m : Mem) (j : MObj) (ps : List Part) (hp : ∀ p ∈ ps, p.Ok) (hm : m[10]? = some (some (.d (.lst ((ps.map Part.node).map Nd.toD))))) :
    E.den (Ph (k + 1)) m (.comp [none] false [0] 0 (.loc 10) [] (.call 6 [(.loc 0)] [] [])) [j] = some (.d (.lst (ps.map Part.toD)), [j]) := by
  have hs : E.den (Ph (k + 1)) m (.loc 10) [j] = some (.d (.lst ((ps.map Part.node).map Nd.toD)), [j]) := loc_d hm
  have key : ∀ (ps : List Part) (i : Nat) (acc : List D), (∀ p ∈ ps, p.Ok) → compGo (compEl (fun m' σ => E.dens? (Ph (k + 1)) m' true [] σ) (fun m' σ => E.den (Ph (k + 1)) m' (.call 6 [(.loc 0)] [] []) σ)) (bindItem false [0] 0) [none] i ((ps.map Part.node).map Nd.toD) acc [j] = some (acc ++ ps.map Part.toD, [j]) := by
    intro ps
    induction ps with
    | nil => intro i acc _; show some (acc, [j]) = some (acc ++ [], [j]); rw [List.append_nil]
    | cons p ps ih =>
      intro i acc h
      refine go_r rfl (el_t rfl (call_p rfl (told_ok k p (h p List.mem_cons_self) [j]))) ((ih (i + 1) (acc ++ [p.toD]) fun q hq => h q (List.mem_cons_of_mem _ hq)).trans ?_)
      rw [List.append_assoc]
      rfl
  exact comp_r hs rfl (key ps 0 [] hp)

noncomputable def prevLab (ss : List Stp) (i : Nat) : Int := match ss[i - 1]? with
  | some s => s.lab
  | none => 0
noncomputable def endF (ss : List Stp) (i : Nat) (x : D) : Option D := x.onT fun l => (l[1]?).bind (D.onI fun q => if decide (i = 0) || !(prevLab ss i == q) then some x else none)
theorem ends_fold (ss : List Stp) (h0 : ∀ s ∈ ss, 0 < s.lab) : ∀ (r pre : List Stp), ss = pre ++ r → ((r.map Stp.toD).zipIdx pre.length).filterMap (fun p => endF ss p.2 p.1) = (endsGo (if pre.length = 0 then 0 else prevLab ss pre.length) r).map Stp.toD
  | [], pre, _ => rfl
  | s :: r, pre, h => by
    have hx : ss[pre.length]? = some s := by rw [h, List.getElem?_append_right (Nat.le_refl _), Nat.sub_self]; rfl
    have hs := h0 s (List.mem_of_getElem? hx)
    have ih := ends_fold ss h0 r (pre ++ [s]) (by rw [h, List.append_assoc]; rfl)
    rw [List.length_append] at ih
    have ep : prevLab ss (pre.length + 1) = s.lab := by
      unfold prevLab
      rw [Nat.add_sub_cancel, hx]
    have e1 : (if pre.length + [s].length = 0 then (0 : Int) else prevLab ss (pre.length + [s].length)) = s.lab := by
      show (if pre.length + 1 = 0 then (0 : Int) else prevLab ss (pre.length + 1)) = s.lab
      rw [if_neg (Nat.succ_ne_zero _)]; exact ep
    rw [e1] at ih
    rw [List.map_cons, List.zipIdx_cons, List.filterMap_cons]
    have e2 : endF ss pre.length s.toD = if decide (pre.length = 0) || !(prevLab ss pre.length == s.lab) then some s.toD else none := rfl
    rw [e2, endsGo]
    by_cases q : pre.length = 0
    · rw [decide_eq_true q, if_pos q, if_neg (Int.ne_of_lt hs), Bool.true_or, if_pos rfl, List.map_cons]
      exact congrArg _ ih
    · rw [decide_eq_false q, if_neg q, Bool.false_or]
      by_cases z : prevLab ss pre.length = s.lab
      · rw [if_pos z, beq_iff_eq.mpr z, Bool.not_true, if_neg (by decide), z]
        exact ih
      · rw [if_neg z, beq_eq_false_iff_ne.mpr z, Bool.not_false, if_pos rfl, List.map_cons]
        exact congrArg _ ih
theorem ends_comp (k : Nat) (m : Mem) (σ : Sto) (ss : List Stp) (h0 : ∀ s ∈ ss, 0 < s.lab) (hm : m[8]? = some (some (.d (.lst (ss.map Stp.toD))))) :
    E.den (Ph k) m (.comp [some 8, none, none] true [1, 2] 1 (.loc 8) [(.bop false [(.cmp .Eq (.loc 1) (.lit (.int 0))), (.cmp .NotEq (.idx (.idx (.loc 0) (.bin .Sub (.loc 1) (.lit (.int 1)))) (.lit (.int 1))) (.idx (.loc 2) (.lit (.int 1))))])] (.loc 2)) σ = some (.d (.lst ((endsGo 0 ss).map Stp.toD)), σ) := by
  have hs : E.den (Ph k) m (.loc 8) σ = some (.d (.lst (ss.map Stp.toD)), σ) := loc_d hm
  have e := ends_fold ss h0 ss [] rfl
  have e : ((ss.map Stp.toD).zipIdx).filterMap (fun p => endF ss p.2 p.1) = (endsGo 0 ss).map Stp.toD := e
  rw [← e]
  refine comp_den (endF ss) hs rfl fun i x hx => ?_
  rw [List.getElem?_map, Option.map_eq_some_iff] at hx
  obtain ⟨s, hsi, rfl⟩ := hx
  have hcap : ([some 8, none, none].map fun c => c.bind fun i => m.getD i none) = [some (.d (.lst (ss.map Stp.toD))), none, none] := by
    show [m.getD 8 none, none, none] = _
    rw [List.getD_eq_getElem?_getD, hm]; rfl
  rw [hcap]
  refine ⟨[some (.d (.lst (ss.map Stp.toD))), iV i, some (.d s.toD)], rfl, ?_⟩
  let m' : Mem := [some (.d (.lst (ss.map Stp.toD))), iV i, some (.d s.toD)]
  have t1 : E.den (Ph k) m' (.cmp .Eq (.loc 1) (.lit (.int 0))) σ = some (.d (.bool (decide (i = 0))), σ) := cmp_d (x := .d (.int i)) (y := .d (.int 0)) rfl rfl (by
    rw [c_eq]
    by_cases q : i = 0
    · rw [q]; rfl
    · rw [decide_eq_false q, beq_eq_false_iff_ne.mpr (by omega)])
  refine el_if (c := decide (i = 0) || !(prevLab ss i == s.lab)) (and_1 (bop_d ?_)) rfl
  by_cases q : i = 0
  · rw [decide_eq_true q] at t1 ⊢
    exact or_t t1
  · have hi : i - 1 < ss.length := by have := (List.getElem?_eq_some_iff.mp hsi).1; omega
    have hy : ss[i - 1]? = some ss[i - 1] := List.getElem?_eq_getElem hi
    have hp : prevLab ss i = ss[i - 1].lab := by unfold prevLab; rw [hy]
    have e1 : getIdx (ss.map Stp.toD) ((i : Int) - 1) = some ss[i - 1].toD := by
      rw [show (i : Int) - 1 = ((i - 1 : Nat) : Int) by omega, idxN, hy]; rfl
    rw [hp]
    have t2 := or_d (es := []) (c := false) (cmp_d (Φ := Ph k) (m := m') (σ := σ) (op := .NotEq) (a := .idx (.idx (.loc 0) (.bin .Sub (.loc 1) (.lit (.int 1)))) (.lit (.int 1))) (b := .idx (.loc 2) (.lit (.int 1))) (x := .d (.int ss[i - 1].lab)) (y := .d (.int s.lab))
      (idx_d (va := .d ss[i - 1].toD) (j := 1) (idx_d (va := .d (.lst (ss.map Stp.toD))) (j := (i : Int) - 1) rfl (bin_d rfl rfl rfl) (by show (getIdx (ss.map Stp.toD) _).map V.d = _; rw [e1]; rfl)) rfl rfl) rfl (c_ne _ _)) rfl
    rw [Bool.or_false] at t2
    exact or_d t1 t2

noncomputable def wayF (c : Int × Int × Int → Bool) (g : Int × Int × Int → Int) (x : D) : Option D := x.onT fun l => (l[0]?).bind (D.onI fun a => (l[1]?).bind (D.onI fun b => (l[2]?).bind (D.onI fun d => if c (a, b, d) then some (.int (g (a, b, d))) else none)))
theorem wayF_map (c : Int × Int × Int → Bool) (g : Int × Int × Int → Int) (ts : List (Int × Int × Int)) : (ts.map tri).filterMap (wayF c g) = ((ts.filter c).map g).map D.int := by
  induction ts with
  | nil => rfl
  | cons t ts ih =>
    rw [List.map_cons, List.filterMap_cons, List.filter_cons, show wayF c g (tri t) = if c t then some (.int (g t)) else none from rfl, ih]
    cases c t <;> rfl
theorem min_comp {Φ : Tab} {m : Mem} {σ : Sto} {caps : List (Option Nat)} {many : Bool} {ts : List Nat} {src elt : E} {ifs : List E} {ws : List (Int × Int × Int)} (c : Int × Int × Int → Bool) (g : Int × Int × Int → Int) {M : Int} (hs : E.den Φ m src σ = some (.d (.lst (ws.map tri)), σ))
    (h : ∀ (i : Nat) t, ∃ m', bindItem many ts 0 i (tri t) (caps.map fun c => c.bind fun i => m.getD i none) = some m' ∧ E.dens? Φ m' true ifs σ = some (c t, σ) ∧ E.den Φ m' elt σ = some (.d (.int (g t)), σ)) (hM : ((ws.filter c).map g).min? = some M) :
    E.den Φ m (.minl (.comp caps many ts 0 src ifs elt)) σ = some (.d (.int M), σ) := by
  have hc : E.den Φ m (.comp caps many ts 0 src ifs elt) σ = some (.d (.lst (((ws.filter c).map g).map .int)), σ) := by
    rw [← wayF_map, ← filterMap_zipIdx (wayF c g) _ 0]
    refine comp_den (fun _ x => wayF c g x) hs rfl fun i x hx => ?_
    rw [List.getElem?_map, Option.map_eq_some_iff] at hx
    obtain ⟨t, _, rfl⟩ := hx
    obtain ⟨m', h1, h2, h3⟩ := h i t
    exact ⟨m', h1, el_if h2 h3⟩
  exact den1_r hc (congrArg (retD · σ) (map_r (bind_r (ints_map _) hM) rfl : minlD (.d (.lst (((ws.filter c).map g).map .int))) = some (.int M)))

theorem in_four {P : Int → Prop} {a b c d : Int} (ha : P a) (hb : P b) (hc : P c) (hd : P d) (i : Int) (h0 : 0 ≤ i) (h1 : i < 4) : ∃ x, P x ∧ getIdx [D.int a, .int b, .int c, .int d] i = some (.int x) := by
  have : i = 0 ∨ i = 1 ∨ i = 2 ∨ i = 3 := by omega
  rcases this with rfl | rfl | rfl | rfl
  · exact ⟨a, ha, rfl⟩
  · exact ⟨b, hb, rfl⟩
  · exact ⟨c, hc, rfl⟩
  · exact ⟨d, hd, rfl⟩
theorem in_caps (i : Int) (h0 : 0 ≤ i) (h1 : i < 5) : ∃ x, -1 ≤ x ∧ x ≤ 20 ∧ getIdx [D.int 20, .int 2, .int 1, .int 0, .int (-1)] i = some (.int x) := by
  have : i = 0 ∨ i = 1 ∨ i = 2 ∨ i = 3 ∨ i = 4 := by omega
  rcases this with rfl | rfl | rfl | rfl | rfl
  · exact ⟨20, by decide, by decide, rfl⟩
  · exact ⟨2, by decide, by decide, rfl⟩
  · exact ⟨1, by decide, by decide, rfl⟩
  · exact ⟨0, by decide, by decide, rfl⟩
  · exact ⟨-1, by decide, by decide, rfl⟩
noncomputable abbrev l0 (s jar lone unit cap top col parts stops ahead nodes : Option V) : Mem := [s, jar, lone, unit, cap, top, col, parts, stops, ahead, nodes, none, none, none, none, none, none, none, none, none]
theorem law_a (k : Nat) (ns : List Int) (hn : ns.length ≤ 63) : ∃ (u cap top : Int) (bs : List Blk) (j : MObj) (lone : Option V), 0 < u ∧ ColOk u cap top bs ∧ JarOk 60 j ∧ ∀ q,
    S.dens (Ph (k + 7)) (f0.body.drop 7) (l0 (some (.d (.lst (ns.map .int)))) (some (.ref 0)) lone (iV u) (iV cap) (iV top) (some (colV cap bs)) (some (.d (.lst ((colParts 1 bs).map Part.toD)))) (some (.d (.lst ((stopsFrom cap bs 0).map Stp.toD)))) (some (.d (.lst ((colAhead bs ⟨0, 0, 0⟩).map pairD)))) (some (.d (.lst ((colNodes 1 bs).map Nd.toD)))), [j]) = q →
      S.dens (Ph (k + 7)) f0.body ([V.d (.lst (ns.map .int))].map some ++ List.replicate (f0.vars.length - f0.nargs) none, []) = q := by
  let L : Option V := some (.d (.lst (ns.map .int)))
  obtain ⟨ns', hl, harg⟩ : ∃ ns' : List Int, ns'.length ≤ 63 ∧ E.den (Ph (k + 7)) (l0 L none none none none none none none none none none) (.ite (.cmp .NotEq (.loc 0) (.lst false [])) (.loc 0) (.lst false [(.lit (.int 79060327964391246585639668))])) [] = some (.d (.lst (ns'.map .int)), []) := by
    cases ns with
    | nil => exact ⟨[79060327964391246585639668], by decide, rfl⟩
    | cons x r => exact ⟨x :: r, hn, rfl⟩
  obtain ⟨j0, hj0, hjar⟩ := law_jar (k + 6) ns' hl
  have t0 : E.den (Ph (k + 7)) (l0 L none none none none none none none none none none) (.call 1 [(.ite (.cmp .NotEq (.loc 0) (.lst false [])) (.loc 0) (.lst false [(.lit (.int 79060327964391246585639668))]))] [] []) [] = some (.ref 0, [j0]) :=
    call_p (dens_cons harg rfl) hjar
  let m1 : Mem := l0 L (some (.ref 0)) none none none none none none none none none
  obtain ⟨lone, t1⟩ : ∃ b, E.den (Ph (k + 7)) m1 (.bop true [(.cmp .Eq (.idx (.loc 1) (.lit (.int 0))) (.lit (.int 0))), (.cmp .Lt (.len (.loc 0)) (.lit (.int 2)))]) [j0] = some (.d (.bool b), [j0]) := by
    obtain ⟨g, b, c, rfl, _⟩ := hj0
    exact ⟨_, bop_d (and_d (cmp_d (x := .d (.int g)) (y := .d (.int 0)) rfl rfl rfl) (and_1 (cmp_d (x := .d (.int (((ns.map D.int).length : Nat) : Int))) (y := .d (.int 2)) rfl rfl rfl)))⟩
  let lo : Option V := some (.d (.bool lone))
  let m2 : Mem := l0 L (some (.ref 0)) lo none none none none none none none none
  obtain ⟨d1, j1, a1, a2, a3, a4⟩ := jar_take (k + 6) hj0 (by decide) 4 (by decide) (by decide) []
  obtain ⟨u, ⟨hu0, hu1⟩, hu2⟩ := in_four (P := fun x => 0 < x ∧ x ≤ 4000000) (a := 1) (b := 1) (c := 65536) (d := 4000000) (by decide) (by decide) (by decide) (by decide) d1 a1 a2
  have t2 : E.den (Ph (k + 7)) m2 (.idx (.lst false [(.lit (.int 1)), (.lit (.int 1)), (.lit (.int 65536)), (.lit (.int 4000000))]) (.call 2 [(.loc 1), (.lit (.int 4))] [] [])) [j0] = some (.d (.int u), [j1]) := idx_s rfl (call_p rfl a4) hu2
  let m3 : Mem := l0 L (some (.ref 0)) lo (iV u) none none none none none none none
  obtain ⟨d2, j2, b1, b2, b3, b4⟩ := jar_take (k + 6) a3 (by decide) 5 (by decide) (by decide) []
  obtain ⟨cc, hc1, hc2, hc3⟩ := in_caps d2 b1 b2
  have t3a : E.den (Ph (k + 7)) m3 (.bin .Mult (.loc 3) (.idx (.lst false [(.lit (.int 20)), (.lit (.int 2)), (.lit (.int 1)), (.lit (.int 0)), (.neg (.lit (.int 1)))]) (.call 2 [(.loc 1), (.lit (.int 5))] [] []))) [j1] = some (.d (.int (u * cc)), [j2]) :=
    bin_s (x := .d (.int u)) rfl (idx_s rfl (call_p rfl b4) hc3) (b_mul u cc (.inl (small_of (by omega) (by omega))))
  obtain ⟨top, j3, e1, e2, e3, e4⟩ := mul_take (k + 6) (m := m3) (a := .loc 3) (b := .loc 1) (rest := []) b3 (by decide) (show (0 : Int) < 13 by decide) (by decide) (fun _ => rfl) rfl (Int.le_of_lt hu0) hu1
  have t3 : E.den (Ph (k + 7)) m3 (.tup [(.bin .Mult (.loc 3) (.idx (.lst false [(.lit (.int 20)), (.lit (.int 2)), (.lit (.int 1)), (.lit (.int 0)), (.neg (.lit (.int 1)))]) (.call 2 [(.loc 1), (.lit (.int 5))] [] []))), (.bin .Mult (.loc 3) (.call 2 [(.loc 1), (.lit (.int 13))] [] []))]) [j1] = some (.d (.tup [.int (u * cc), .int top]), [j3]) := by
    exact tup_d (vs := [.d (.int (u * cc)), .d (.int top)]) (dens_cons t3a (dens_cons e4 rfl))
  have q1 : -u ≤ u * cc := by
    have := Int.mul_le_mul_of_nonneg_left hc1 (Int.le_of_lt hu0)
    omega
  have q2 : u * cc ≤ 20 * u := by
    have := Int.mul_le_mul_of_nonneg_left hc2 (Int.le_of_lt hu0)
    omega
  generalize u * cc = cap at t3 q1 q2
  let m4 : Mem := l0 L (some (.ref 0)) lo (iV u) (iV cap) (iV top) none none none none none
  obtain ⟨many, j4, h1, h2, hj4, t4⟩ : ∃ (many : Nat) (j4 : MObj), 0 < many ∧ many ≤ 7 ∧ JarOk 4 j4 ∧ E.den (Ph (k + 7)) m4 (.ite (.loc 2) (.bin .Add (.lit (.int 2)) (.call 2 [(.loc 1), (.lit (.int 2))] [] [])) (.bin .Add (.lit (.int 1)) (.call 2 [(.loc 1), (.lit (.int 7))] [] []))) [j3] = some (.d (.int many), [j4]) := by
    cases hlo : lone with
    | true =>
      obtain ⟨d, j4, f1, f2, f3, f4⟩ := jar_take (k + 6) e3 (by decide) 2 (by decide) (by decide) []
      refine ⟨(2 + d).toNat, j4, by omega, by omega, f3, ?_⟩
      rw [show (((2 + d).toNat : Nat) : Int) = 2 + d by omega]
      refine ite_d (t := true) (by show some (V.d (.bool lone), _) = _; rw [hlo]) ?_
      rw [if_pos rfl]
      exact bin_s (x := .d (.int 2)) (y := .d (.int d)) rfl (call_p rfl f4) rfl
    | false =>
      obtain ⟨d, j4, f1, f2, f3, f4⟩ := jar_take (k + 6) e3 (by decide) 7 (by decide) (by decide) []
      refine ⟨(1 + d).toNat, j4, by omega, by omega, f3, ?_⟩
      rw [show (((1 + d).toNat : Nat) : Int) = 1 + d by omega]
      refine ite_d (t := false) (by show some (V.d (.bool lone), _) = _; rw [hlo]) ?_
      rw [if_neg (by decide)]
      exact bin_s (x := .d (.int 1)) (y := .d (.int d)) rfl (call_p rfl f4) rfl
  obtain ⟨bs, j5, g1, g2, g3, g4⟩ := column_eq (k + 4) (Int.le_of_lt hu0) hu1 many (by omega) cap hj4 (by decide)
  have hc : ColOk u cap top bs := ⟨Int.le_of_lt hu0, hu1, q1, q2, e1, by omega, by omega, by omega, g2⟩
  have t5 : E.den (Ph (k + 7)) m4 (.call 4 [(.loc 1), (.loc 3), (.ite (.loc 2) (.bin .Add (.lit (.int 2)) (.call 2 [(.loc 1), (.lit (.int 2))] [] [])) (.bin .Add (.lit (.int 1)) (.call 2 [(.loc 1), (.lit (.int 7))] [] []))), (.loc 4)] [] []) [j3] = some (colV cap bs, [j5]) :=
    call_p (dens_cons (v := .ref 0) rfl (dens_cons (v := .d (.int u)) rfl (dens_cons t4 (dens_cons (v := .d (.int cap)) rfl rfl)))) g4
  have t6 := node_comp (k + 3) (l0 L (some (.ref 0)) lo (iV u) (iV cap) (iV top) (some (colV cap bs)) (some (.d (.lst ((colParts 1 bs).map Part.toD)))) (some (.d (.lst ((stopsFrom cap bs 0).map Stp.toD)))) (some (.d (.lst ((colAhead bs ⟨0, 0, 0⟩).map pairD)))) none) j5 g3.lst (colParts 1 bs) (parts_ok hc) rfl
  rw [← colNodes_eq] at t6
  refine ⟨u, cap, top, bs, j5, lo, hu0, hc, g3.up (by omega), fun q hq => ?_⟩
  refine dens_next (asg_den t0) (dens_next (asg_den t1) (dens_next (asg_den t2) (dens_next (s1 := (m4, [j3])) (set_den t3 rfl) (dens_next (asg_den t5) ?_))))
  refine dens_next (s1 := (l0 L (some (.ref 0)) lo (iV u) (iV cap) (iV top) (some (colV cap bs)) (some (.d (.lst ((colParts 1 bs).map Part.toD)))) (some (.d (.lst ((stopsFrom cap bs 0).map Stp.toD)))) (some (.d (.lst ((colAhead bs ⟨0, 0, 0⟩).map pairD)))) none, [j5])) rfl ?_
  exact dens_next (asg_den t6) hq

section
variable (k : Nat) {u cap top : Int} {bs : List Blk}
theorem stops_len (hc : ColOk u cap top bs) : 0 < (stopsFrom cap bs 0).length ∧ (stopsFrom cap bs 0).length ≤ 22 := by
  have h := pre_len cap bs 1 ⟨0, 0, 0⟩ hc.ok
  have hn := hc.n7
  have e : stopsFrom cap bs 0 = preStops cap 1 bs ⟨0, 0, 0⟩ ++ [mkStp cap bs.length (bs.foldl blkEnd ⟨0, 0, 0⟩) (-10000)] := colStops_pre cap bs.length bs 1 ⟨0, 0, 0⟩
  rw [e, List.length_append, List.length_singleton]
  omega
theorem stops_forced (hc : ColOk u cap top bs) : ∃ s ∈ stopsFrom cap bs 0, s.fc < 0 := (cols_hi cap u bs.length bs 1 ⟨0, 0, 0⟩ (Int.le_refl 0) hc.ok).2.2
theorem stops_bd (hc : ColOk u cap top bs) (s : Stp) (hs : s ∈ stopsFrom cap bs 0) : 0 ≤ s.hi ∧ s.hi ≤ 195 * u := by
  have := high_bd hc 0 hc.n1 s hs
  have o : offB top bs 0 = 0 := by unfold offB; split <;> rfl
  rw [o, Int.add_zero] at this
  exact this
theorem bb_law (hc : ColOk u cap top bs) (g : Int) (g1 : -1 ≤ g) (g2 : g ≤ 10 ^ 9) (j : MObj) (hj : j.isLst = true) : F (k + 4) 33 [.d (.lst ((colNodes 1 bs).map Nd.toD)), .d (.int g), .d (.int cap)] [j] = some (.d (tri (dueOf g (stopsFrom cap bs 0))), [j]) := by
  have hls : lists [j] = true := by rw [lists, List.all_cons, hj]; rfl
  have hl := colNodes_len bs 1 hc.ok
  have hn := hc.n7
  have c0 := hc.c0
  have c1 := hc.c1
  have u1 := hc.u1
  have := best_break_eq k (colNodes 1 bs) g cap (Pre.one j) hls (by omega) (by omega) (by omega) (by omega) (by omega)
  rw [bb_due g cap bs.length u bs 1 ⟨0, 0, 0⟩ 0 0 rfl (fun h => by have := hc.n1; rw [h] at this; exact absurd this (Nat.lt_irrefl _)) (Int.le_refl 0) hc.ok none 0 rfl] at this
  exact this
theorem cov_len {f : Nat} {E : List Stp} {W : List (Nat × Stp × Bool)} (h : Cov f E W) : W.length ≤ E.length := by
  induction h with
  | nil => exact Nat.le_refl _
  | cons f pre s r W hp c ih => rw [List.length_cons, List.length_append, List.length_cons]; omega
theorem segs_len (hc : ColOk u cap top bs) (goal : Int) : (segs cap top goal bs 64 0).length ≤ (endsGo 0 (stopsFrom cap bs 0)).length := by
  have hS := stops_sts hc
  have hE := ends_ok hS
  have hn := hc.n7
  obtain ⟨W, w1, w2, _, _⟩ := greedy_is (goal := goal) hc hE 64 0 (Nat.zero_le _) (by omega)
  rw [← w2]
  exact Nat.le_trans (cov_len w1) (List.length_filter_le _ _)
noncomputable abbrev l1 (s lone unit cap top col parts stops ahead nodes o11 o12 o13 o14 o15 o16 o17 o18 o19 : Option V) : Mem := [s, some (.ref 0), lone, unit, cap, top, col, parts, stops, ahead, nodes, o11, o12, o13, o14, o15, o16, o17, o18, o19]
noncomputable abbrev turnBody : List S := loopBody (f0.body.getD 7 .fail)
theorem law_turn (hc : ColOk u cap top bs) {n : Int} {j : MObj} (hj : JarOk n j) (hn : n < 1000) (i : Nat) (x : D) (s lone unit tp col parts ahead o11 o12 : Option V) :
    ∃ j' p11 p12, JarOk (n + 1) j' ∧ stepOf (Ph (k + 7)) false [11] 2 turnBody i x (l1 s lone unit (iV cap) tp col parts (some (.d (.lst ((stopsFrom cap bs 0).map Stp.toD)))) ahead (some (.d (.lst ((colNodes 1 bs).map Nd.toD)))) o11 o12 none none none none none none none, [j]) =
      some (.next, l1 s lone unit (iV cap) tp col parts (some (.d (.lst ((stopsFrom cap bs 0).map Stp.toD)))) ahead (some (.d (.lst ((colNodes 1 bs).map Nd.toD)))) p11 p12 none none none none none none none, [j']) := by
  obtain ⟨z1, z2⟩ := stops_len hc
  have hf := stops_forced hc
  have hbd := stops_bd hc
  have u1 := hc.u1
  have bb := fun g g1 g2 (j : MObj) hj => bb_law (k + 3) hc g g1 g2 j hj
  generalize stopsFrom cap bs 0 = ss at *
  obtain ⟨d, j1, a1, a2, a3, a4⟩ := jar_take (k + 6) hj (by omega) ss.length (by omega) (by omega) []
  have hx : ss[d.toNat]? = some (ss[d.toNat]'(by omega)) := List.getElem?_eq_getElem (by omega)
  generalize ss[d.toNat]'(by omega) = st at hx
  obtain ⟨b0, b1⟩ := hbd st (List.mem_of_getElem? hx)
  have hidx : getIdx (ss.map Stp.toD) d = some st.toD := by
    rw [show d = (d.toNat : Int) by omega, idxN, hx]; rfl
  let N : Option V := some (.d (.lst ((colNodes 1 bs).map Nd.toD)))
  let St : Option V := some (.d (.lst (ss.map Stp.toD)))
  have due : ∀ g, F (k + 7) 7 [.d (.lst (ss.map Stp.toD)), .d (.int g)] [j1] = some (.d (tri (dueOf g ss)), [j1]) := fun g => due_eq (k + 6) ss g [j1] hf
  refine ⟨j1, some (.d x), iV st.hi, a3, ?_⟩
  show S.dens (Ph (k + 7)) turnBody (l1 s lone unit (iV cap) tp col parts St ahead N (some (.d x)) o12 none none none none none none none, [j]) = _
  refine dens_next (asg_den (v := .d (.int st.hi)) (τ' := [j1]) ?_) ?_
  · have t : E.den (Ph (k + 7)) (l1 s lone unit (iV cap) tp col parts St ahead N (some (.d x)) o12 none none none none none none none) (.call 2 [(.loc 1), (.len (.loc 8))] [] []) [j] = some (.d (.int d), [j1]) := by
      refine call_p (vs := [.ref 0, .d (.int ss.length)]) ?_ a4
      rw [show ((ss.length : Nat) : Int) = ((ss.map Stp.toD).length : Nat) by rw [List.length_map]]
      rfl
    exact idx_v (va := .d st.toD) (j := 3) (idx_s rfl t hidx) rfl rfl
  let m : Mem := l1 s lone unit (iV cap) tp col parts St ahead N (some (.d x)) (iV st.hi) none none none none none none none
  have c1 : E.den (Ph (k + 7)) m (.call 33 [(.loc 10), (.bin .Sub (.loc 12) (.lit (.int 1))), (.loc 4)] [] []) [j1] = some (.d (tri (dueOf (st.hi - 1) ss)), [j1]) := call_p (vs := [.d (.lst ((colNodes 1 bs).map Nd.toD)), .d (.int (st.hi - 1)), .d (.int cap)]) rfl (bb (st.hi - 1) (by omega) (by omega) j1 a3.lst)
  have c2 : E.den (Ph (k + 7)) m (.call 33 [(.loc 10), (.loc 12), (.loc 4)] [] []) [j1] = some (.d (tri (dueOf st.hi ss)), [j1]) := call_p (vs := [.d (.lst ((colNodes 1 bs).map Nd.toD)), .d (.int st.hi), .d (.int cap)]) rfl (bb st.hi (by omega) (by omega) j1 a3.lst)
  have c3 : E.den (Ph (k + 7)) m (.call 7 [(.loc 8), (.bin .Sub (.loc 12) (.lit (.int 1)))] [] []) [j1] = some (.d (tri (dueOf (st.hi - 1) ss)), [j1]) := call_p (vs := [.d (.lst (ss.map Stp.toD)), .d (.int (st.hi - 1))]) rfl (due _)
  have c4 : E.den (Ph (k + 7)) m (.call 7 [(.loc 8), (.loc 12)] [] []) [j1] = some (.d (tri (dueOf st.hi ss)), [j1]) := call_p (vs := [.d (.lst (ss.map Stp.toD)), .d (.int st.hi)]) rfl (due _)
  exact dens_next (if_den (t := false) (bop_d (or_d (cmp_d c1 c3 (ne_self (pl_tri _))) (or_d (c := false) (cmp_d c2 c4 (ne_self (pl_tri _))) rfl))) rfl) dens_nil
noncomputable def fullF (x : D) : Option D := x.onT fun l => (l[2]?).bind (D.onT fun r => (r[0]?).bind (D.onI fun a => if a == 3 then some x else none))
theorem rep_kind (g : Int) : ∃ a b : Int, rep g = .tup [.int a, .int b] ∧ (a == 3) = decide (g < 0) := by
  unfold rep
  by_cases h : g = 0
  · exact ⟨0, 0, if_pos h, by rw [h]; rfl⟩
  · by_cases h2 : 0 < g
    · exact ⟨1, 10000, by rw [if_neg h, if_pos h2], by rw [decide_eq_false (by omega)]; rfl⟩
    · exact ⟨3, -g, by rw [if_neg h, if_neg h2], by rw [decide_eq_true (by omega)]; rfl⟩
theorem full_comp (goal : Int) (m : Mem) (σ : Sto) (l : List (Nat × Stp)) (hm : m[18]? = some (some (.d (.lst (l.map (pcD top goal bs)))))) :
    ∃ b, E.den (Ph k) m (.cmp .NotEq (.comp [none] false [0] 0 (.loc 18) [(.cmp .Eq (.idx (.idx (.loc 0) (.lit (.int 2))) (.lit (.int 0))) (.lit (.int 3)))] (.loc 0)) (.lst false [])) σ = some (.d (.bool b), σ) ∧ (b = true ↔ ∃ p ∈ l, goal < p.2.hi + offB top bs p.1) := by
  have hs : E.den (Ph k) m (.loc 18) σ = some (.d (.lst (l.map (pcD top goal bs))), σ) := loc_d hm
  have hfp : ∀ p : Nat × Stp, fullF (pcD top goal bs p) = if decide (goal < p.2.hi + offB top bs p.1) then some (pcD top goal bs p) else none := by
    intro p
    obtain ⟨a, b, h1, h2⟩ := rep_kind (goal - (p.2.hi + offB top bs p.1))
    unfold pcD
    rw [h1]
    show (if a == 3 then _ else _) = _
    rw [h2, show decide (goal - (p.2.hi + offB top bs p.1) < 0) = decide (goal < p.2.hi + offB top bs p.1) from decide_eq_decide.mpr (by omega)]
  have hc := comp_den (Φ := Ph k) (m := m) (caps := [none]) (many := false) (ts := [0]) (kind := 0) (elt := .loc 0) (ifs := [(.cmp .Eq (.idx (.idx (.loc 0) (.lit (.int 2))) (.lit (.int 0))) (.lit (.int 3)))]) (fun _ x => fullF x) hs rfl fun i x hx => by
    rw [List.getElem?_map, Option.map_eq_some_iff] at hx
    obtain ⟨p, _, rfl⟩ := hx
    refine ⟨[some (.d (pcD top goal bs p))], rfl, ?_⟩
    obtain ⟨a, b, h1, h2⟩ := rep_kind (goal - (p.2.hi + offB top bs p.1))
    have e : fullF (pcD top goal bs p) = if a == 3 then some (pcD top goal bs p) else none := by
      rw [hfp, h2, show decide (goal - (p.2.hi + offB top bs p.1) < 0) = decide (goal < p.2.hi + offB top bs p.1) from decide_eq_decide.mpr (by omega)]
    rw [e]
    refine el_if (c := a == 3) (and_1 (cmp_d (x := .d (.int a)) (y := .d (.int 3)) (idx_d (va := .d (rep (goal - (p.2.hi + offB top bs p.1)))) (j := 0) (idx_d (va := .d (pcD top goal bs p)) (j := 2) rfl rfl rfl) rfl ?_) rfl rfl)) rfl
    rw [h1]; rfl
  refine ⟨_, cmp_d (y := .d (.lst [])) hc rfl (c_nel _), ?_⟩
  rw [filterMap_zipIdx fullF, Bool.not_eq_true', List.isEmpty_eq_false_iff_exists_mem]
  constructor
  · rintro ⟨x, hx⟩
    obtain ⟨y, hy, hyx⟩ := List.mem_filterMap.mp hx
    obtain ⟨p, hp, rfl⟩ := List.mem_map.mp hy
    rw [hfp] at hyx
    refine ⟨p, hp, ?_⟩
    by_cases q : goal < p.2.hi + offB top bs p.1
    · exact q
    · rw [decide_eq_false q] at hyx
      cases hyx
  · rintro ⟨p, hp, q⟩
    exact ⟨pcD top goal bs p, List.mem_filterMap.mpr ⟨_, List.mem_map_of_mem hp, by rw [hfp, decide_eq_true q]; rfl⟩⟩
theorem law_b (hc : ColOk u cap top bs) (hu : 0 < u) {j : MObj} (hj : JarOk 60 j) (s lone : Option V) : ∃ m' j',
    S.dens (Ph (k + 7)) (f0.body.drop 7) (l0 s (some (.ref 0)) lone (iV u) (iV cap) (iV top) (some (colV cap bs)) (some (.d (.lst ((colParts 1 bs).map Part.toD)))) (some (.d (.lst ((stopsFrom cap bs 0).map Stp.toD)))) (some (.d (.lst ((colAhead bs ⟨0, 0, 0⟩).map pairD)))) (some (.d (.lst ((colNodes 1 bs).map Nd.toD)))), [j]) = some (.ret (.d (.bool true)), m', [j']) := by
  have hS := stops_sts hc
  have u1 := hc.u1
  let Pa : Option V := some (.d (.lst ((colParts 1 bs).map Part.toD)))
  let St : Option V := some (.d (.lst ((stopsFrom cap bs 0).map Stp.toD)))
  let Ah : Option V := some (.d (.lst ((colAhead bs ⟨0, 0, 0⟩).map pairD)))
  let N : Option V := some (.d (.lst ((colNodes 1 bs).map Nd.toD)))
  let C : Option V := some (colV cap bs)
  obtain ⟨s1, t7, j1, o11, o12, hj1, rfl⟩ := range_loop (step := stepOf (Ph (k + 7)) false [11] 2 turnBody) (N := 3) (s := (l1 s lone (iV u) (iV cap) (iV top) C Pa St Ah N none none none none none none none none none, [j]))
    (fun i st => ∃ j o11 o12, JarOk (60 + i) j ∧ st = (l1 s lone (iV u) (iV cap) (iV top) C Pa St Ah N o11 o12 none none none none none none none, [j])) ⟨j, none, none, hj.up (by decide), rfl⟩ fun i st hi h => by
      obtain ⟨j, o11, o12, hj, rfl⟩ := h
      obtain ⟨j', p11, p12, h1, h2⟩ := law_turn k hc hj (by omega) i (.int (i : Int)) s lone (iV u) (iV top) C Pa Ah o11 o12
      exact ⟨_, h2, j', p11, p12, h1.up (by omega), rfl⟩
  have t8 := ends_comp (k + 7) (l1 s lone (iV u) (iV cap) (iV top) C Pa St Ah N o11 o12 none none none none none none none) [j1] (stopsFrom cap bs 0) (fun s hs => (hS.rg s hs).1) rfl
  obtain ⟨w1, hne, hz7⟩ := ways_eq (k + 5) hc j1 hj1.lst _ rfl
  have hsl := segs_len hc
  have hworst := fun w => worst_bd hc w
  have hleast := fun (goal : Int) hg => least_count (goal := goal) hc hg
  have hfull := fun (goal : Int) hg => full_iff (goal := goal) hc hg
  generalize endsGo 0 (stopsFrom cap bs 0) = es at t8 w1 hne hz7 hsl hworst hleast hfull
  let En : Option V := some (.d (.lst (es.map Stp.toD)))
  have t9 : E.den (Ph (k + 7)) (l1 s lone (iV u) (iV cap) (iV top) C Pa St Ah N o11 o12 En none none none none none none) (.call 9 [(.loc 6), (.loc 5), (.loc 13)] [] []) [j1] = some (.d (.lst ((waysOf (offB top bs) es).map tri)), [j1]) := call_p rfl w1
  have hwl : (waysOf (offB top bs) es).length = 2 ^ (es.length - 1) := by unfold waysOf; rw [List.length_map, List.length_range]
  have hwm : ∀ t ∈ waysOf (offB top bs) es, 0 ≤ t.2.1 ∧ t.2.1 ≤ 195 * u := by
    intro t ht
    obtain ⟨w, _, rfl⟩ := List.mem_map.mp ht
    exact hworst w
  have hN : 2 ^ (es.length - 1) ≤ 2 ^ 6 := Nat.pow_le_pow_right (by decide) (by omega)
  have hN0 : 0 < 2 ^ (es.length - 1) := Nat.two_pow_pos _
  rw [← hwl] at hN hN0
  generalize hW : waysOf (offB top bs) es = ways at *
  let Wy : Option V := some (.d (.lst (ways.map tri)))
  obtain ⟨d, j2, a1, a2, a3, a4⟩ := jar_take (k + 6) hj1 (by decide) (ways.length : Int) (by omega) (by have : (2 : Nat) ^ 6 = 64 := rfl; omega) []
  have hx : ways[d.toNat]? = some (ways[d.toNat]'(by omega)) := List.getElem?_eq_getElem (by omega)
  generalize ways[d.toNat]'(by omega) = tw at hx
  have htw := List.mem_of_getElem? hx
  have t10 : E.den (Ph (k + 7)) (l1 s lone (iV u) (iV cap) (iV top) C Pa St Ah N o11 o12 En Wy none none none none none) (.idx (.idx (.loc 14) (.call 2 [(.loc 1), (.len (.loc 14))] [] [])) (.lit (.int 0))) [j1] = some (.d (.int tw.1), [j2]) := by
    have t : E.den (Ph (k + 7)) (l1 s lone (iV u) (iV cap) (iV top) C Pa St Ah N o11 o12 En Wy none none none none none) (.call 2 [(.loc 1), (.len (.loc 14))] [] []) [j1] = some (.d (.int d), [j2]) := by
      refine call_p (vs := [.ref 0, .d (.int ways.length)]) ?_ a4
      rw [show ((ways.length : Nat) : Int) = ((ways.map tri).length : Nat) by rw [List.length_map]]
      rfl
    have hidx : getIdx (ways.map tri) d = some (tri tw) := by rw [show d = (d.toNat : Int) by omega, idxN, hx]; rfl
    exact idx_v (va := .d (tri tw)) (j := 0) (idx_s rfl t hidx) rfl rfl
  obtain ⟨M, hM, hM0, hM1⟩ : ∃ M, ((ways.filter fun t => decide (t.1 ≤ tw.1)).map (·.2.1)).min? = some M ∧ 0 ≤ M ∧ M ≤ 195 * u := by
    cases h : ((ways.filter fun t => decide (t.1 ≤ tw.1)).map (·.2.1)).min? with
    | none =>
      rw [List.min?_eq_none_iff, List.map_eq_nil_iff, List.filter_eq_nil_iff] at h
      exact absurd (decide_eq_true (Int.le_refl _)) (h tw htw)
    | some M =>
      obtain ⟨h1, _⟩ := List.min?_eq_some_iff.mp h
      obtain ⟨t, ht, rfl⟩ := List.mem_map.mp h1
      have := hwm t (List.mem_filter.mp ht).1
      exact ⟨_, rfl, this.1, this.2⟩
  have t11 : E.den (Ph (k + 7)) (l1 s lone (iV u) (iV cap) (iV top) C Pa St Ah N o11 o12 En Wy (iV tw.1) none none none none) (.minl (.comp [some 15, none] false [1] 0 (.loc 14) [(.cmp .LtE (.idx (.loc 1) (.lit (.int 0))) (.loc 0))] (.idx (.loc 1) (.lit (.int 1))))) [j2] = some (.d (.int M), [j2]) :=
    min_comp (fun t => decide (t.1 ≤ tw.1)) (·.2.1) rfl (fun i t => ⟨[iV tw.1, some (.d (tri t))], rfl, and_1 (cmp_d (x := .d (.int t.1)) (y := .d (.int tw.1)) rfl rfl rfl), rfl⟩) hM
  let m12 : Mem := l1 s lone (iV u) (iV cap) (iV top) C Pa St Ah N o11 o12 En Wy (iV tw.1) (iV M) none none none
  obtain ⟨v, j3, b1, b2, b3, b4⟩ := mul_take (k + 6) (m := m12) (a := .loc 3) (b := .loc 1) (rest := []) a3 (by decide) (show (0 : Int) < 40 by decide) (by decide) (fun _ => rfl) rfl (Int.le_of_lt hu) u1
  obtain ⟨d', j4, c1, c2, c3, c4⟩ := jar_take (k + 6) b3 (by decide) 4 (by decide) (by decide) []
  obtain ⟨goal, ⟨g1, g2⟩, g3⟩ := in_four (P := fun x => -1 ≤ x ∧ x ≤ 10 ^ 9) (a := M) (b := M - 1) (c := M) (d := v - 1) (by omega) (by omega) (by omega) (by omega) d' c1 c2
  have t12 : E.den (Ph (k + 7)) m12 (.idx (.lst false [(.loc 16), (.bin .Sub (.loc 16) (.lit (.int 1))), (.loc 16), (.bin .Sub (.bin .Mult (.loc 3) (.call 2 [(.loc 1), (.lit (.int 40))] [] [])) (.lit (.int 1)))]) (.call 2 [(.loc 1), (.lit (.int 4))] [] [])) [j2] = some (.d (.int goal), [j4]) := by
    have tb : E.den (Ph (k + 7)) m12 (.bin .Sub (.bin .Mult (.loc 3) (.call 2 [(.loc 1), (.lit (.int 40))] [] [])) (.lit (.int 1))) [j2] = some (.d (.int (v - 1)), [j3]) := bin_s (x := .d (.int v)) (y := .d (.int 1)) b4 rfl rfl
    refine idx_s (σ1 := [j3]) ?_ (call_p rfl c4) g3
    exact lst0_d (vs := [.d (.int M), .d (.int (M - 1)), .d (.int M), .d (.int (v - 1))]) (dens_cons (v := .d (.int M)) rfl (dens_cons (v := .d (.int (M - 1))) rfl (dens_cons (v := .d (.int M)) rfl (dens_cons tb rfl)))) rfl
  let m13 : Mem := l1 s lone (iV u) (iV cap) (iV top) C Pa St Ah N o11 o12 En Wy (iV tw.1) (iV M) (iV goal) none none
  have hp := pieces_eq k hc goal (es.length + 1) (by omega) (by omega) (by omega) (Nat.le_succ_of_le (hsl goal)) j4 c3.lst
  have t13 : E.den (Ph (k + 7)) m13 (.call 10 [(.loc 10), (.loc 17), (.loc 4), (.loc 5), (.bin .Add (.len (.loc 13)) (.lit (.int 1)))] [] []) [j4] = some (.d (.lst ((segs cap top goal bs 64 0).map (pcD top goal bs))), [j4]) := by
    refine call_p (vs := [ns (colNodes 1 bs), .d (.int goal), .d (.int cap), .d (.int top), .d (.int ((es.length + 1 : Nat) : Int))]) ?_ hp
    rw [show ((es.length + 1 : Nat) : Int) = ((es.map Stp.toD).length : Nat) + 1 by rw [List.length_map]; push_cast; rfl]
    rfl
  let Pc : Option V := some (.d (.lst ((segs cap top goal bs 64 0).map (pcD top goal bs))))
  let m14 : Mem := l1 s lone (iV u) (iV cap) (iV top) C Pa St Ah N o11 o12 En Wy (iV tw.1) (iV M) (iV goal) Pc none
  have t14 : E.den (Ph (k + 7)) m14 (.bop false [(.cmp .NotEq (.len (.loc 18)) (.minl (.comp [some 17, none] false [1] 0 (.loc 14) [(.cmp .LtE (.idx (.loc 1) (.lit (.int 2))) (.loc 0))] (.idx (.loc 1) (.lit (.int 0)))))), (.not (.call 11 [(.loc 6), (.loc 5), (.loc 17), (.loc 18)] [] []))]) [j4] = some (.d (.bool false), [j4]) := by
    have r := right_eq (goal := goal) (k + 5) hc [j4]
    have r2 : E.den (Ph (k + 7)) m14 (.call 11 [(.loc 6), (.loc 5), (.loc 17), (.loc 18)] [] []) [j4] = some (.d (.bool true), [j4]) := call_p rfl r
    have r3 : E.den (Ph (k + 7)) m14 (.not (.call 11 [(.loc 6), (.loc 5), (.loc 17), (.loc 18)] [] [])) [j4] = some (.d (.bool false), [j4]) := not_d r2
    refine bop_d (or_d (b := false) (cmp_d (x := .d (.int (segs cap top goal bs 64 0).length)) (y := .d (.int (segs cap top goal bs 64 0).length)) ?_ (min_comp (fun t => decide (t.2.2 ≤ goal)) (·.1) rfl (fun i t => ⟨[iV goal, some (.d (tri t))], rfl, and_1 (cmp_d (x := .d (.int t.2.2)) (y := .d (.int goal)) rfl rfl rfl), rfl⟩) (hleast goal g1)) (ne_self (pl_up (pl_int _) (by decide)))) (or_d (c := false) r3 rfl))
    rw [show (((segs cap top goal bs 64 0).length : Nat) : Int) = (((segs cap top goal bs 64 0).map (pcD top goal bs)).length : Nat) by rw [List.length_map]]
    rfl
  obtain ⟨b, t15, hb⟩ := full_comp (top := top) (bs := bs) (k + 7) goal m14 [j4] (segs cap top goal bs 64 0) rfl
  obtain ⟨M', hM', hiff⟩ := hfull goal g1
  let m16 : Mem := l1 s lone (iV u) (iV cap) (iV top) C Pa St Ah N o11 o12 En Wy (iV tw.1) (iV M) (iV goal) Pc (some (.d (.bool b)))
  have t16a : E.den (Ph (k + 7)) m16 (.cmp .Eq (.loc 19) (.cmp .Gt (.minl (.comp [none] false [0] 0 (.loc 14) [] (.idx (.loc 0) (.lit (.int 1))))) (.loc 17))) [j4] = some (.d (.bool true), [j4]) := by
    refine cmp_d (x := .d (.bool b)) (y := .d (.bool (decide (goal < M')))) rfl (cmp_d (x := .d (.int M')) (y := .d (.int goal)) (min_comp (fun _ => true) (·.2.1) rfl (fun i t => ⟨[some (.d (tri t))], rfl, rfl, rfl⟩) ?_) rfl rfl) ?_
    · rw [List.filter_eq_self.mpr fun _ _ => rfl]; exact hM'
    · rw [c_eqb]
      have : b = decide (goal < M') := by
        cases b with
        | true => exact (decide_eq_true (hiff.mp (hb.mp rfl))).symm
        | false => exact (decide_eq_false fun h => absurd (hb.mpr (hiff.mpr h)) (by decide)).symm
      rw [this, beq_self_eq_true]
  have t16b : E.den (Ph (k + 7)) m16 (.cmp .Eq (.comp [none] false [0] 0 (.loc 10) [] (.call 6 [(.loc 0)] [] [])) (.loc 7)) [j4] = some (.d (.bool true), [j4]) := by
    have tt := told_comp (k + 6) m16 j4 (colParts 1 bs) (parts_ok hc) (by rw [← colNodes_eq]; rfl)
    exact cmp_d (x := .d (.lst ((colParts 1 bs).map Part.toD))) (y := .d (.lst ((colParts 1 bs).map Part.toD))) tt rfl (eqD_self (pl_up (pl_lst (n := 1) fun x hx => by obtain ⟨p, _, rfl⟩ := List.mem_map.mp hx; exact pl_part p) (by decide)))
  refine ⟨m16, j4, ?_⟩
  refine dens_next (s1 := (l1 s lone (iV u) (iV cap) (iV top) C Pa St Ah N o11 o12 none none none none none none none, [j1])) (den_for (v := .d (.int 3)) (σ1 := [j]) rfl (items2 _ (by decide) (by decide)) t7) ?_
  refine dens_next (asg_den t8) (dens_next (asg_den t9) (dens_next (asg_den t10) (dens_next (asg_den t11) (dens_next (asg_den t12) (dens_next (asg_den t13) ?_)))))
  refine dens_next (s1 := (m14, [j4])) (if_den t14 rfl) (dens_next (asg_den t15) (dens_ret (ret_den (bop_d (and_d (c := true) t16a (and_1 t16b))))))
end
theorem law_plain_holds : LawPlain := by
  intro ns hn
  obtain ⟨u, cap, top, bs, j, lone, hu, hc, hj, h⟩ := law_a 4 ns hn
  obtain ⟨m', j', h2⟩ := law_b 4 hc hu hj (some (.d (.lst (ns.map .int)))) lone
  have := run_ret (Φ := Ph 11) (f := f0) rfl rfl (h _ h2)
  exact ⟨[j'], this⟩
open PySem PySem.W PySem.Calls PyProof.Rows

theorem fnAt_eq (K : Frag) : ∀ k, (cxK K).fnAt allFns k = cx0.fnAt allFns k
  | 0 => rfl
  | k + 1 => by
    funext f args σ
    exact congrArg (fun fn : Nat → List V → Sto → Option (V × Sto) => match allFns[f]? with | some mf => mf.run (cx0.tab fn) args σ | none => none) (fnAt_eq K k)
theorem fn_at {K : Frag} {a : Addr} (h : fnB K a = true) : keepIn K (.ref a) = true ∧ K.lookup a = some ⟨(getObj K a).cls, (getObj K a).dict, .func (getFd K a), (getObj K a).slots⟩ :=
  and_el h fun h1 h => ⟨h1, optB_el h fun o ho h => by
    have e : getObj K a = o := congrArg (Option.getD · default) ho
    unfold getFd
    rw [e, ho]
    obtain ⟨c, d, dt, sl⟩ := o
    exact dtfunc_el (G := fun dt => some (Obj.mk c d dt sl) = some ⟨c, d, .func (match dt with | .func fd => fd | _ => default), sl⟩) h fun _ _ => rfl⟩
theorem sh_of {K : Frag} {a : Addr} {k : Nat} {dfl : List D} {kwn names : List Str} (dv : List Value) (hf : fnB K a = true) (hn : namesAt K a = names) (h2 : ∀ (an : Nat → Str) (P : Params) (g : G), IsDs an P g dfl dv) (h4 : names.length = k + dv.length + kwn.length)
    (h5 : ∀ vs kvs : List Value, vs.length = k → kvs.length = kwn.length → ∀ S, bindAt K S a vs (kwn.zip kvs) = some (names.zip (vs ++ dv ++ kvs))) : Shape K a k dfl kwn := by
  obtain ⟨h1, h3⟩ := fn_at hf
  refine ⟨h1, dv, h2, fun vs kvs hl hk => ⟨_, _, _, _, h3, ?_, fun s X => kp_binds X ?_⟩⟩
  · have : (getFd K a).params.args.length = names.length := by rw [← hn, namesAt, List.length_map]
    rw [this, h4, List.length_append, List.length_append, hl, hk]
  · intro S
    show peek K S (bindArgs (getFd K a) _) = some ((namesAt K a).zip _)
    rw [hn]
    exact h5 vs kvs hl hk S
theorem is_int {an : Nat → Str} {P : Params} {g : G} {i : Int} {t : Tok} : IsD an P g (.int i) (.int i t) := ⟨t, rfl⟩
theorem len_el {α : Type} {l : List α} {n : Nat} (h : l.length = n + 1) {P : List α → Prop} (k : ∀ a r, r.length = n → P (a :: r)) : P l := by
  cases l with
  | nil => cases h
  | cons a r => exact k a r (Nat.succ.inj h)
theorem len0_el {α : Type} {l : List α} (h : l.length = 0) {P : List α → Prop} (k : P []) : P l := List.eq_nil_of_length_eq_zero h ▸ k
noncomputable abbrev BindP (K : Frag) (a : Addr) (S : Setting) (names : List Str) (kwn : List Str) (dv : List Value) (vs kvs : List Value) : Prop := bindAt K S a vs (kwn.zip kvs) = some (names.zip (vs ++ dv ++ kvs))
theorem shapes_ok {K : Frag} (h : obsA K = valA) : ∀ s ∈ (cxK K).shapes, Shape (cxK K).K s.1 s.2.1 s.2.2.1 s.2.2.2 := by
  have b : (chkA K && (fnB K 185 && (fnB K 403 && fnB K 560))) = true := congrArg (·.1) h
  refine and_el b fun _ b => and_el b fun f1 b => and_el b fun f2 f3 => ?_
  have n1 : namesAt K 185 = n185 := congrArg (·.2.1.1) h
  have n2 : namesAt K 403 = n403 := congrArg (·.2.1.2.1) h
  have n3 : namesAt K 560 = n560 := congrArg (·.2.1.2.2) h
  have s1 : Shape K 185 2 [.int 0, .int 0, .int 0, .int 0] [] := sh_of d185 f1 n1 (fun _ _ _ => ⟨is_int, is_int, is_int, is_int, trivial⟩) rfl fun vs kvs h1 h2 S =>
    len0_el (P := fun kvs => BindP K 185 S n185 [] d185 vs kvs) h2 (len_el (P := fun vs => BindP K 185 S n185 [] d185 vs []) h1 fun a r h1 => len_el (P := fun r => BindP K 185 S n185 [] d185 (a :: r) []) h1 fun b r h1 => len0_el (P := fun r => BindP K 185 S n185 [] d185 (a :: b :: r) []) h1 (congrFun (congrFun (congrFun (congrArg (·.2.2.1) h) a) b) S))
  have s2 : Shape K 185 6 [] [] := sh_of [] f1 n1 (fun _ _ _ => trivial) rfl fun vs kvs h1 h2 S =>
    len0_el (P := fun kvs => BindP K 185 S n185 [] [] vs kvs) h2 (len_el (P := fun vs => BindP K 185 S n185 [] [] vs []) h1 fun a r h1 => len_el (P := fun r => BindP K 185 S n185 [] [] (a :: r) []) h1 fun b r h1 => len_el (P := fun r => BindP K 185 S n185 [] [] (a :: b :: r) []) h1 fun c r h1 => len_el (P := fun r => BindP K 185 S n185 [] [] (a :: b :: c :: r) []) h1 fun d r h1 =>
      len_el (P := fun r => BindP K 185 S n185 [] [] (a :: b :: c :: d :: r) []) h1 fun e r h1 => len_el (P := fun r => BindP K 185 S n185 [] [] (a :: b :: c :: d :: e :: r) []) h1 fun f r h1 => len0_el (P := fun r => BindP K 185 S n185 [] [] (a :: b :: c :: d :: e :: f :: r) []) h1 (congrFun (congrFun (congrFun (congrFun (congrFun (congrFun (congrFun (congrArg (·.2.2.2.1) h) a) b) c) d) e) f) S))
  have s3 : Shape K 403 3 [.none] [] := sh_of [.none] f2 n2 (fun _ _ _ => ⟨rfl, trivial⟩) rfl fun vs kvs h1 h2 S =>
    len0_el (P := fun kvs => BindP K 403 S n403 [] [.none] vs kvs) h2 (len_el (P := fun vs => BindP K 403 S n403 [] [.none] vs []) h1 fun a r h1 => len_el (P := fun r => BindP K 403 S n403 [] [.none] (a :: r) []) h1 fun b r h1 => len_el (P := fun r => BindP K 403 S n403 [] [.none] (a :: b :: r) []) h1 fun c r h1 => len0_el (P := fun r => BindP K 403 S n403 [] [.none] (a :: b :: c :: r) []) h1 (congrFun (congrFun (congrFun (congrFun (congrArg (·.2.2.2.2.1) h) a) b) c) S))
  have s4 : Shape K 560 1 [.int 1, .int 0, .int 1073741823] [] := sh_of d560' f3 n3 (fun _ _ _ => ⟨is_int, is_int, is_int, trivial⟩) rfl fun vs kvs h1 h2 S =>
    len0_el (P := fun kvs => BindP K 560 S n560 [] d560' vs kvs) h2 (len_el (P := fun vs => BindP K 560 S n560 [] d560' vs []) h1 fun a r h1 => len0_el (P := fun r => BindP K 560 S n560 [] d560' (a :: r) []) h1 (congrFun (congrFun (congrArg (·.2.2.2.2.2.1) h) a) S))
  have s5 : Shape K 560 1 [.int 1, .int 0] [Str.ofString "most_depth"] := sh_of d560 f3 n3 (fun _ _ _ => ⟨is_int, is_int, trivial⟩) rfl fun vs kvs h1 h2 S =>
    len_el (P := fun kvs => BindP K 560 S n560 [Str.ofString "most_depth"] d560 vs kvs) h2 fun b r h2 => len0_el (P := fun r => BindP K 560 S n560 [Str.ofString "most_depth"] d560 vs (b :: r)) h2 (len_el (P := fun vs => BindP K 560 S n560 [Str.ofString "most_depth"] d560 vs [b]) h1 fun a r h1 => len0_el (P := fun r => BindP K 560 S n560 [Str.ofString "most_depth"] d560 (a :: r) [b]) h1 (congrFun (congrFun (congrFun (congrArg (·.2.2.2.2.2.2.1) h) a) b) S))
  have s6 : Shape K 560 4 [] [] := sh_of [] f3 n3 (fun _ _ _ => trivial) rfl fun vs kvs h1 h2 S =>
    len0_el (P := fun kvs => BindP K 560 S n560 [] [] vs kvs) h2 (len_el (P := fun vs => BindP K 560 S n560 [] [] vs []) h1 fun a r h1 => len_el (P := fun r => BindP K 560 S n560 [] [] (a :: r) []) h1 fun b r h1 => len_el (P := fun r => BindP K 560 S n560 [] [] (a :: b :: r) []) h1 fun c r h1 => len_el (P := fun r => BindP K 560 S n560 [] [] (a :: b :: c :: r) []) h1 fun d r h1 =>
      len0_el (P := fun r => BindP K 560 S n560 [] [] (a :: b :: c :: d :: r) []) h1 (congrFun (congrFun (congrFun (congrFun (congrFun (congrArg (·.2.2.2.2.2.2.2) h) a) b) c) d) S))
  exact List.forall_mem_cons.mpr ⟨s1, List.forall_mem_cons.mpr ⟨s2, List.forall_mem_cons.mpr ⟨s3, List.forall_mem_cons.mpr ⟨s4, List.forall_mem_cons.mpr ⟨s5, List.forall_mem_cons.mpr ⟨s6, fun _ h => nomatch h⟩⟩⟩⟩⟩⟩
theorem chk_parts {K : Frag} (h : obsK K = valK) : tabB (cxK K) = true ∧ factsB (cxK K) = true ∧ plainB K 729 1 = true ∧ nsIn K mainGlobals (Str.ofString "law") = some (some (.ref 729)) := by
  have b : (chkA K && (fnB K 185 && (fnB K 403 && fnB K 560))) = true := congrArg (·.2.1) h
  exact and_el b fun b _ => and_el b fun h1 b => and_el b fun h2 b => and_el b fun h3 h4 => ⟨h1, h2, h3, eq_of_beq h4⟩
theorem chunk {lo n f : Nat} {x : MFn × List (Str × NameKind) × List Stmt} (h : bodiesOk lo n = true) (hx : (allFns.zip theDefs)[f]? = some x) (h1 : lo ≤ f) (h2 : f < lo + n) : bodyOk x.1 x.2 = true :=
  List.all_eq_true.mp (h : (((allFns.zip theDefs).drop lo).take n).all (fun q => bodyOk q.1 q.2) = true) x (List.mem_of_getElem? (i := f - lo) (by rw [List.getElem?_take_of_lt (by omega), List.getElem?_drop, Nat.add_sub_cancel' h1]; exact hx))
theorem body_at {f : Nat} {mf : MFn} (h : allFns[f]? = some mf) : bodyOk mf (defAt f) = true := by
  have hlt : f < 55 := (List.getElem?_eq_some_iff.mp h).1
  have hd : theDefs[f]? = some (defAt f) := by
    have hl : f < theDefs.length := hlt
    rw [defAt, List.getD_eq_getElem?_getD, List.getElem?_eq_getElem hl]; rfl
  have hx : (allFns.zip theDefs)[f]? = some (mf, defAt f) := List.getElem?_zip_eq_some.mpr ⟨h, hd⟩
  by_cases q0 : f < 4
  · exact chunk bodies0 hx (Nat.zero_le _) (by omega)
  by_cases q1 : f < 10
  · exact chunk bodies1 hx (by omega) (by omega)
  by_cases q2 : f < 12
  · exact chunk bodies2 hx (by omega) (by omega)
  by_cases q3 : f < 30
  · exact chunk bodies3 hx (by omega) (by omega)
  by_cases q4 : f < 38
  · exact chunk bodies4 hx (by omega) (by omega)
  · exact chunk bodies5 hx (by omega) (by omega)
theorem okB_K (K : Frag) (ms : List S) (sc : List (Str × NameKind)) (vs : List Str) (cs : List Stmt) : okB (cxK K) ms sc vs cs = okB cx0 ms sc vs cs := by kernel_rfl
theorem fns_ok {K : Frag} (h : obsK K = valK) {f : Nat} {mf : MFn} (hf : allFns[f]? = some mf) : OkFn (cxK K) ((cxK K).addr f) mf := by
  have hq : (mf, f) ∈ allFns.zipIdx := List.mem_zipIdx_iff_getElem?.mpr hf
  have h1 : frames K = true := congrArg (·.1.1) h
  have h2 : (getFd K (cx0.addr f)).scope.names = (defAt f).1 := List.map_inj_left.mp (congrArg (·.1.2.1) h : (allFns.zipIdx.map fun q => (getFd K (cx0.addr q.2)).scope.names) = allFns.zipIdx.map fun q => (defAt q.2).1) (mf, f) hq
  have h3 : (getFd K (cx0.addr f)).body = FuncBody.stmts (defAt f).2 := List.map_inj_left.mp (congrArg (·.1.2.2) h : (allFns.zipIdx.map fun q => (getFd K (cx0.addr q.2)).body) = allFns.zipIdx.map fun q => FuncBody.stmts (defAt q.2).2) (mf, f) hq
  refine and_el (List.all_eq_true.mp h1 (mf, f) hq) fun g1 g2 => and_el (body_at hf) fun b1 b2 => ?_
  exact ⟨_, _, _, _, _, (fn_at g1).2, h3, g2, h2 ▸ b1, (okB_K K _ _ _ _).trans (h2 ▸ b2)⟩
theorem specs {prog : Program} {w : World} {h₀ : Heap} {K : Frag} (hk : obsK K = valK) (WD : Wd (cxK K).K h₀) (k f : Nat) : FnSpec prog w (cxK K).K h₀ (cxK K).an k ((cxK K).addr f) ((cxK K).fnAt allFns k f) :=
  all_specs WD names_ok (chk_parts hk).1 (shapes_ok (congrArg (·.2) hk)) (chk_parts hk).2.1 (fun f mf h => fns_ok hk h) k f

theorem ns_at {K : Frag} {h : Heap} {a : Addr} {m : Str → Option Value} {x : Str} {v : Value} (X : K.In h) (N : h.Ns a m) (e : nsIn K a x = some (some v)) : m x = some v := by
  unfold nsIn at e
  split at e
  · rename_i oc od es ep osl ho
    obtain ⟨o, es', ep', h1, h2, h3, h4⟩ := N
    rw [X _ _ ho] at h1
    cases h1
    cases h2
    rw [← h4 x]
    unfold nsFind findBy
    split at e
    · rename_i en he
      cases e
      rw [← Array.find?_toList, he]
      rfl
    · split at e <;> cases e
  · cases e
theorem intsAre_ds {an : Nat → Str} {P : Params} {g : G} {vs : List Value} {ns : List Int} (h : IntsAre vs ns) : IsDs an P g (ns.map .int) vs := by
  induction h with
  | nil => trivial
  | cons n t _ ih => exact ⟨⟨t, rfl⟩, ih⟩
theorem walk (hp : LawPlain) {K : Frag} (hk : obsK K = valK) {w : World} {s₁ : Shared} {mg mb : Str → Option Value} {prog : Program} (X : K.In s₁.heap) (hgl : s₁.heap.Ns mainGlobals mg) (hb : s₁.heap.Ns builtinsNs mb) (hbb : ∀ x : Str, x ≠ "__name__" → mb x = bootBuiltins x) (hl : s₁.heap.NoLimit)
    {fa a : Addr} {vs : List Value} {ns : List Int} (hmg : mg (Str.ofString "law") = some (.ref fa)) (hL : s₁.heap.IsList a vs.toArray) (hI : IntsAre vs ns) (hn : ns.length ≤ 63) {R : Result → Shared → Prop}
    (hR : ∀ h' tk, (∀ b o, s₁.heap.get? b = some o → h'.get? b = some o) → R (.ok (.ret (.bool true))) { s₁ with heap := h', toks := tk }) :
    codeAny (model prog w) callerA (.call (.ref fa) ⟨[.ref a], []⟩) R s₁ := by
  obtain ⟨_, _, hpl, hln⟩ := chk_parts hk
  have hfa : fa = 729 := by
    have := ns_at X hgl hln
    rw [this] at hmg; cases hmg; rfl
  subst hfa
  have WD : Wd (cxK K).K s₁.heap := ⟨X, ⟨mg, hgl⟩, ⟨mb, hb, hbb⟩, hl⟩
  have hS := specs (prog := prog) (w := w) hk WD 12 0
  rw [fnAt_eq] at hS
  obtain ⟨σ', hrun⟩ := hp ns hn
  have Z : St (cxK K).an w.params s₁.heap (fun b => s₁.heap.get? b) [] [] s₁.heap := ⟨fun _ _ e => e, fun _ _ e => e, fun b m => m.elim fun p q => (nomatch q.1), fun i j p q _ e => (nomatch e), rfl, fun i p m e => (nomatch e)⟩
  obtain ⟨o, ho, hc, ep, hd'⟩ := hL
  have hds := intsAre_ds (an := (cxK K).an) (P := w.params) (g := fun b => s₁.heap.get? b) hI
  have hlen : vs.length = ns.length := hds.length.symm.trans (List.length_map _)
  have hb : BindsAs (cxK K).K 729 ⟨[.ref a], []⟩ [.ref a] := by
    obtain ⟨_, dvals, hdv, hbind⟩ := plain_shape hpl
    have hd0 := hdv (cxK K).an w.params (fun b => s₁.heap.get? b)
    cases dvals with
    | nil => exact hbind [.ref a] [] rfl rfl
    | cons => exact False.elim hd0
  have hvs : IsVs (cxK K).an w.params [] (fun b => s₁.heap.get? b) [.d (.lst (ns.map .int))] [.ref a] := And.intro ⟨a, o, ep, vs.toArray, rfl, ho, hc, hd', by rw [List.size_toArray, sizeLine_eq]; omega, hds⟩ trivial
  refine hS (A := callerA) (s := s₁) (h := s₁.heap) (tk := s₁.toks) (Q := R) ⟨rfl, by show 1 + 300 + _ < _; omega, by show 4 + _ < _; omega⟩ Z hvs hrun hb fun val g' ρ' h' tk S' X' hv => ?_
  have hv : val = .bool true := hv
  rw [hv]
  exact hR h' tk fun b o e => X'.keep b o e (fun f => f) fun m => m.elim fun p q => (nomatch q.1)
theorem def_some : (defOf theQ (Str.ofString "law")).isSome = true := by kernel_rfl
noncomputable def theDef : DefRec × List (Str × Expr) := (defOf theQ (Str.ofString "law")).get def_some
theorem def_is : defOf theQ Challenge.rw_xm0377_01.row.name = some (theDef.1, theDef.2) := by
  show defOf theQ (Str.ofString "law") = some theDef
  unfold theDef
  rw [Option.some_get]
theorem law_holds (hp : Mine.LawPlain) : PySem.Challenge.rw_xm0377_01.Holds := by
  refine holds_law said fun k1 => holds_open (r := PySem.Challenge.rw_xm0377_01.row) (q := theQ) (loose := theLoose) (Xt := theXt) (XP := XL theQ []) (Yf := ownHook.obs) (Ya := ownHook.val) (YP := ownHook.says) (d := theDef.1) (kwd := theDef.2) (N := 7000) left_own ownHook.of ownHook.keeps (fun s e => xl_of s (Bool.and_eq_true_iff.mp e).1) XL.keeps def_is (by kernel_rfl) (by kernel_rfl) (fun s e => recFacts_of (Bool.and_eq_true_iff.mp e).2) (by rfl) k1 (by kernel_rfl) ⟨rfl, rfl, rfl, rfl, rfl, by kernel_rfl⟩ ?hw ?hc
  case hw => w_witness2
  case hc =>
    w_strict (
      intro w s₀ s₁ mg mb G Y fa o pm cd doc dV kV ho hd hcd hD hmg hg args vals as hpre hlay hrd hwl hlo
      obtain ⟨K, KX, hK⟩ := Y
      refine Ground.open G ?_
      intro T B D TE TW
      try (refine guard_noD D (by decide +kernel) ?_; clear D)
      have hname : theDef.1.name = Str.ofString "law" := by kernel_rfl
      rw [hname] at hmg
      wrow_args hpre hlay hrd hwl hlo
      all_goals (
        first | refine callC_kw (enter_call ?_) | refine enter_call ?_ | refine callC_kw (enter_callW ?_) | refine enter_callW ?_ | w_how
        w_top on
        try refine codeAny_mono ?_ (fun _ _ g => GoodW.toG g)
        rename_i hL _ _ _ hI _ hcond _
        refine Mine.walk hp hK KX T.g T.b T.builtins T.nolimit hmg hL hI (by omega) fun h' tk k => ?_
        refine ⟨.inl ⟨.bool true, .bool true, [], rfl, ?_, .bool true, ?_, unshared_nil⟩, k, rfl, hg⟩
        · exact fun cls => raisesW_false (by wrow_none_raised) cls
        · refine postW_of (X := true) ?zs ?zv rfl
          case zs => kernel_rfl
          case zv => kernel_rfl))
end Mine
theorem PySem.Challenge.cw_xm0377_01_holds : PySem.Challenge.rw_xm0377_01.Holds := by
  exact Mine.law_holds Mine.law_plain_holds
